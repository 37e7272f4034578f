import PyProof.Rows.All
import Wide.All
import OpenK.AllK
import Wide.FinOn
import HandS.ForMost
import HandS.ForExc
import HandS.Style
import HandS.Flow
import HandS.IsInst
import HandS.SortInts
import HandS.SetFor
import HandS.Strs
import PySem.Challenge.RW_foreseen_k40_whole_spans
set_option Elab.async false
set_option linter.all false
set_option maxRecDepth 100000
set_option maxHeartbeats 4000000
/-! DL: the data layer. Values as data, mutable objects as cells of a store; every construct of the hand layer as a transformer over data. -/
namespace DL
open PySem PySem.Spec PyProof.Rows L2

/-! ### data -/
inductive D where
  | non | bl (b : Bool) | int (i : Int) | str (x : Str) | ty (n : String)
  | tup (ds : List D) | lst (ds : List D) | rol (ds : List D)
  | loc (n : Nat)
inductive Cell where
  | dead | lst (ds : List D)
abbrev Store := List Cell
abbrev Rho := List (Option D)
def D.isNon : D → Bool
  | .non => true
  | _ => false

/-- the surroundings: the written part, the module's names, the state at the entry -/
structure Dc where
  K : PySem.W.Frag
  mg : Str → Option Value
  H0 : Hp
  μ0 : List Addr
  G0 : Hp

/-! ### a value bears a datum -/
mutual
inductive Rep (c : Dc) (G : Hp) (μ : List Addr) : V → D → Prop
  | non : Rep c G μ .non .non
  | bl (b : Bool) : Rep c G μ (.bl b) (.bl b)
  | int (i : Int) : Rep c G μ (.int i) (.int i)
  | str (x : Str) : Rep c G μ (.str x) (.str x)
  | ty (n : String) : Rep c G μ (.ty n) (.ty n)
  | tup {a : Addr} {vs : List V} {ds : List D} : SqT c.K G a vs → Reps c G μ vs ds → Rep c G μ (.ref a) (.tup ds)
  | lst {a : Addr} {vs : List V} {ds : List D} : G a = some (.lst vs) → Reps c G μ vs ds → Rep c G μ (.ref a) (.lst ds)
  | rol {a : Addr} {vs : List V} {ds : List D} : SqL c.K G a vs → Reps c G μ vs ds → Rep c G μ (.ref a) (.rol ds)
  | loc {a : Addr} {n : Nat} : μ[n]? = some a → Rep c G μ (.ref a) (.loc n)
inductive Reps (c : Dc) (G : Hp) (μ : List Addr) : List V → List D → Prop
  | nil : Reps c G μ [] []
  | cons {v : V} {vs : List V} {d : D} {ds : List D} : Rep c G μ v d → Reps c G μ vs ds → Reps c G μ (v :: vs) (d :: ds)
end

/-- the state goes on: what was frozen stays, cells keep their places, what is no cell stays -/
structure Stp (H : Hp) (μ : List Addr) (G : Hp) (H' : Hp) (μ' : List Addr) (G' : Hp) : Prop where
  sg : Same G G'
  mu : ∀ (n : Nat) (a : Addr), μ[n]? = some a → μ'[n]? = some a
  fr : ∀ (a : Addr) (o : HO), H a = some o → a ∉ μ → H' a = some o
  nw : ∀ a ∈ μ', a ∈ μ ∨ H a = none
  gn : ∀ (a : Addr) (o : HO), G' a = some o → G a = some o ∨ H a = none ∨ a ∈ μ
theorem Stp.refl (H : Hp) (μ : List Addr) (G : Hp) : Stp H μ G H μ G := ⟨Same.refl _, fun _ _ h => h, fun _ _ h _ => h, fun _ h => .inl h, fun _ _ h => .inl h⟩
theorem Stp.trans {H H1 H2 : Hp} {μ μ1 μ2 : List Addr} {G G1 G2 : Hp} (a : Stp H μ G H1 μ1 G1) (b : Stp H1 μ1 G1 H2 μ2 G2) : Stp H μ G H2 μ2 G2 where
  sg := a.sg.trans b.sg
  mu := fun n x h => b.mu n x (a.mu n x h)
  fr := fun x o h hn => b.fr x o (a.fr x o h hn) fun hm => by
    rcases a.nw x hm with z | z
    · exact hn z
    · rw [h] at z; cases z
  nw := fun x h => by
    rcases b.nw x h with z | z
    · exact a.nw x z
    · by_cases hm : x ∈ μ
      · exact .inl hm
      · right
        cases q : H x with
        | none => rfl
        | some o => rw [a.fr x o q hm] at z; cases z
  gn := fun x o h => by
    have old : ∀ z : H1 x = none, H x = none ∨ x ∈ μ := fun z => by
      by_cases hm : x ∈ μ
      · exact .inr hm
      · left
        cases q : H x with
        | none => rfl
        | some o => rw [a.fr x o q hm] at z; cases z
    rcases b.gn x o h with z | z | z
    · exact a.gn x o z
    · exact .inr (old z)
    · rcases a.nw x z with y | y
      · exact .inr (.inr y)
      · exact .inr (.inl y)

theorem sqT_mono {K : PySem.W.Frag} {G G' : Hp} {a : Addr} {vs : List V} (e : Same G G') (h : SqT K G a vs) : SqT K G' a vs := by
  rcases h with (h | ⟨o, h⟩) | h
  · exact .inl (.inl (e _ _ h))
  · exact .inl (.inr ⟨o, e _ _ h⟩)
  · exact .inr h
section
variable {c : Dc} {G G' H : Hp} {μ μ' : List Addr}
mutual
theorem Rep.mono (e : Same G G') (m : ∀ (n : Nat) (a : Addr), μ[n]? = some a → μ'[n]? = some a) : ∀ (d : D) (v : V), Rep c G μ v d → Rep c G' μ' v d
  | .non, _, h => by cases h; exact .non
  | .bl _, _, h => by cases h; exact .bl _
  | .int _, _, h => by cases h; exact .int _
  | .str _, _, h => by cases h; exact .str _
  | .ty _, _, h => by cases h; exact .ty _
  | .tup ds, _, h => by
    cases h with
    | tup h1 h2 => exact .tup (sqT_mono e h1) (Reps.mono e m ds _ h2)
  | .lst ds, _, h => by
    cases h with
    | lst h1 h2 => exact .lst (e _ _ h1) (Reps.mono e m ds _ h2)
  | .rol ds, _, h => by
    cases h with
    | rol h1 h2 => exact .rol (e.seq h1) (Reps.mono e m ds _ h2)
  | .loc _, _, h => by
    cases h with
    | loc h1 => exact .loc (m _ _ h1)
theorem Reps.mono (e : Same G G') (m : ∀ (n : Nat) (a : Addr), μ[n]? = some a → μ'[n]? = some a) : ∀ (ds : List D) (vs : List V), Reps c G μ vs ds → Reps c G' μ' vs ds
  | [], _, h => by cases h; exact .nil
  | d :: ds, _, h => by
    cases h with
    | cons h1 h2 => exact .cons (Rep.mono e m d _ h1) (Reps.mono e m ds _ h2)
end
theorem Rep.go {H' : Hp} {v : V} {d : D} (h : Rep c G μ v d) (s : Stp H μ G H' μ' G') : Rep c G' μ' v d := h.mono s.sg s.mu d v
theorem Reps.go {H' : Hp} {vs : List V} {ds : List D} (h : Reps c G μ vs ds) (s : Stp H μ G H' μ' G') : Reps c G' μ' vs ds := h.mono s.sg s.mu ds vs
theorem Reps.length : ∀ {vs : List V} {ds : List D}, Reps c G μ vs ds → vs.length = ds.length
  | [], _, h => by cases h; rfl
  | _ :: _, _, h => by
    cases h with
    | cons _ h2 => rw [List.length_cons, List.length_cons, h2.length]
theorem Reps.get : ∀ {vs : List V} {ds : List D} {i : Nat} {d : D}, Reps c G μ vs ds → ds[i]? = some d → ∃ v, vs[i]? = some v ∧ Rep c G μ v d
  | [], _, i, d, h, e => by cases h; simp at e
  | v :: vs, _, 0, d, h, e => by
    cases h with
    | cons h1 h2 =>
      simp at e
      subst e
      exact ⟨v, by simp, h1⟩
  | v :: vs, _, i + 1, d, h, e => by
    cases h with
    | cons h1 h2 =>
      obtain ⟨u, h3, h4⟩ := h2.get (i := i) (by simpa using e)
      exact ⟨u, by simpa using h3, h4⟩
theorem Reps.get' : ∀ {vs : List V} {ds : List D} {i : Nat} {v : V}, Reps c G μ vs ds → vs[i]? = some v → ∃ d, ds[i]? = some d ∧ Rep c G μ v d
  | [], _, i, d, h, e => by cases h; simp at e
  | w :: vs, _, 0, v, h, e => by
    cases h with
    | @cons _ _ d _ h1 h2 =>
      simp at e
      subst e
      exact ⟨d, by simp, h1⟩
  | w :: vs, _, i + 1, v, h, e => by
    cases h with
    | cons h1 h2 =>
      obtain ⟨u, h3, h4⟩ := h2.get' (i := i) (by simpa using e)
      exact ⟨u, by simpa using h3, h4⟩
theorem Reps.append : ∀ {vs ws : List V} {ds es : List D}, Reps c G μ vs ds → Reps c G μ ws es → Reps c G μ (vs ++ ws) (ds ++ es)
  | [], _, _, _, h, k => by cases h; exact k
  | _ :: _, _, _, _, h, k => by
    cases h with
    | cons h1 h2 => exact .cons h1 (h2.append k)
theorem Reps.one {v : V} {d : D} (h : Rep c G μ v d) : Reps c G μ [v] [d] := .cons h .nil
theorem Reps.set : ∀ {vs : List V} {ds : List D} (i : Nat) {v : V} {d : D}, Reps c G μ vs ds → Rep c G μ v d → Reps c G μ (vs.set i v) (ds.set i d)
  | [], _, _, _, _, h, _ => by cases h; exact .nil
  | _ :: _, _, 0, _, _, h, k => by
    cases h with
    | cons h1 h2 => exact .cons k h2
  | _ :: _, _, i + 1, _, _, h, k => by
    cases h with
    | cons h1 h2 => exact .cons h1 (h2.set i k)
theorem Reps.take : ∀ {vs : List V} {ds : List D} (n : Nat), Reps c G μ vs ds → Reps c G μ (vs.take n) (ds.take n)
  | _, _, 0, _ => .nil
  | [], _, n + 1, h => by cases h; exact .nil
  | _ :: _, _, n + 1, h => by
    cases h with
    | cons h1 h2 => exact .cons h1 (h2.take n)
theorem Reps.drop : ∀ {vs : List V} {ds : List D} (n : Nat), Reps c G μ vs ds → Reps c G μ (vs.drop n) (ds.drop n)
  | _, _, 0, h => h
  | [], _, n + 1, h => by cases h; exact .nil
  | _ :: _, _, n + 1, h => by
    cases h with
    | cons h1 h2 => exact h2.drop n
theorem Reps.eraseIdx : ∀ {vs : List V} {ds : List D} (i : Nat), Reps c G μ vs ds → Reps c G μ (vs.eraseIdx i) (ds.eraseIdx i)
  | [], _, _, h => by cases h; exact .nil
  | _ :: _, _, 0, h => by
    cases h with
    | cons h1 h2 => exact h2
  | _ :: _, _, i + 1, h => by
    cases h with
    | cons h1 h2 => exact .cons h1 (h2.eraseIdx i)
theorem Reps.dropLast : ∀ {vs : List V} {ds : List D}, Reps c G μ vs ds → Reps c G μ vs.dropLast ds.dropLast
  | [], _, h => by cases h; exact .nil
  | [_], _, h => by
    cases h with
    | cons h1 h2 => cases h2; exact .nil
  | v :: w :: vs, _, h => by
    cases h with
    | cons h1 h2 =>
      cases h2 with
      | cons h3 h4 => exact .cons h1 (Reps.dropLast (.cons h3 h4))
theorem Reps.reverse {vs : List V} {ds : List D} (h : Reps c G μ vs ds) : Reps c G μ vs.reverse ds.reverse := by
  induction vs generalizing ds with
  | nil => cases h; exact .nil
  | cons v vs ih =>
    cases h with
    | cons h1 h2 =>
      rw [List.reverse_cons, List.reverse_cons]
      exact (ih h2).append (.one h1)
theorem Reps.ints : ∀ {ns : List Int} {vs : List V}, Reps c G μ vs (ns.map D.int) → vs = ns.map V.int
  | [], _, h => by cases h; rfl
  | n :: ns, _, h => by
    cases h with
    | cons h1 h2 =>
      cases h1
      rw [List.map_cons, h2.ints]
theorem Reps.of_ints : ∀ (ns : List Int), Reps c G μ (ns.map V.int) (ns.map D.int)
  | [] => .nil
  | n :: ns => .cons (.int n) (Reps.of_ints ns)
theorem Reps.bls : ∀ {ns : List Bool} {vs : List V}, Reps c G μ vs (ns.map D.bl) → vs = ns.map V.bl
  | [], _, h => by cases h; rfl
  | n :: ns, _, h => by
    cases h with
    | cons h1 h2 =>
      cases h1
      rw [List.map_cons, h2.bls]
theorem Rep.isNon {v : V} {d : D} (h : Rep c G μ v d) : decide (v = V.non) = d.isNon := by
  cases h <;> rfl
end

/-! ### the store lies in the heap -/
def RepC (c : Dc) (G : Hp) (μ : List Addr) (H : Hp) (a : Addr) : Cell → Prop
  | .dead => ∃ o, H a = some o
  | .lst ds => G a = none ∧ ∃ vs, H a = some (.lst vs) ∧ Reps c G μ vs ds
theorem RepC.there {c : Dc} {G : Hp} {μ : List Addr} {H : Hp} {a : Addr} : ∀ {cl : Cell}, RepC c G μ H a cl → ∃ o, H a = some o
  | .dead, h => h
  | .lst _, ⟨_, _, h, _⟩ => ⟨_, h⟩
structure Ag0 (c : Dc) (H : Hp) (S : Store) (μ : List Addr) (G : Hp) : Prop where
  same : Same G H
  len : μ.length = S.length
  nd : μ.Nodup
  cell : ∀ (n : Nat) (a : Addr) (cl : Cell), μ[n]? = some a → S[n]? = some cl → RepC c G μ H a cl
  base : Stp c.H0 c.μ0 c.G0 H μ G
def lk : Rho → Nat → Option D
  | [], _ => none
  | x :: _, 0 => x
  | _ :: r, i + 1 => lk r i
structure Ag (c : Dc) (σ : L2.St) (H : Hp) (ρ : Rho) (S : Store) (μ : List Addr) (G : Hp) : Prop where
  ag : Ag0 c H S μ G
  len : σ.length = ρ.length
  slot : ∀ (i : Nat) (d : D), lk ρ i = some d → ∃ v, σ[i]? = some (some v) ∧ Rep c G μ v d
section
variable {c : Dc} {G G' H H' : Hp} {μ μ' : List Addr} {S S' : Store} {σ : L2.St} {ρ : Rho}
theorem Ag0.there (A : Ag0 c H S μ G) {a : Addr} (h : a ∈ μ) : ∃ o, H a = some o := by
  obtain ⟨n, hn⟩ := List.getElem?_of_mem h
  have hl : n < S.length := by rw [← A.len]; exact (List.getElem?_eq_some_iff.mp hn).1
  exact (A.cell n a _ hn (List.getElem?_eq_getElem hl)).there
theorem Ag0.fresh (A : Ag0 c H S μ G) {p : Addr} (h : H p = none) : p ∉ μ ∧ G p = none := by
  refine ⟨fun hm => ?_, ?_⟩
  · obtain ⟨o, ho⟩ := A.there hm
    rw [h] at ho; cases ho
  · exact A.same.free h
theorem Ag.go (A : Ag c σ H ρ S μ G) (s : Stp H μ G H' μ' G') (B : Ag0 c H' S' μ' G') : Ag c σ H' ρ S' μ' G' :=
  ⟨B, A.len, fun i d h => let ⟨v, h1, h2⟩ := A.slot i d h; ⟨v, h1, h2.go s⟩⟩
theorem same_new {G : Hp} {p : Addr} {o : HO} (h : G p = none) : Same G (upd G p o) := fun b x e => by
  rw [upd_ne (ne_of_none e h)]
  exact e
/-- the next state by new frozen objects -/
theorem Ag0.frz (A : Ag0 c H S μ G) {p : Addr} {o : HO} (h : H p = none) : Ag0 c (upd H p o) S μ (upd G p o) ∧ Stp H μ G (upd H p o) μ (upd G p o) := by
  obtain ⟨hm, hg⟩ := A.fresh h
  have st : Stp H μ G (upd H p o) μ (upd G p o) := by
    refine ⟨same_new hg, fun _ _ h => h, fun a u hu _ => by rw [upd_ne (ne_of_none hu h)]; exact hu, fun _ h => .inl h, fun a u hu => ?_⟩
    by_cases e : a = p
    · exact .inr (.inl (e ▸ h))
    · rw [upd_ne e] at hu; exact .inl hu
  refine ⟨⟨fun b u e => ?_, A.len, A.nd, fun n a cl hn hs => ?_, A.base.trans st⟩, st⟩
  · by_cases hb : b = p
    · subst hb; rw [upd_same] at e ⊢; exact e
    · rw [upd_ne hb] at e ⊢; exact A.same b u e
  · have q := A.cell n a cl hn hs
    have na : a ≠ p := fun e => hm (e ▸ List.mem_of_getElem? hn)
    cases cl with
    | dead => obtain ⟨o, ho⟩ := q; exact ⟨o, by rw [upd_ne na]; exact ho⟩
    | lst ds =>
      obtain ⟨h1, vs, h2, h3⟩ := q
      exact ⟨by rw [upd_ne na]; exact h1, vs, by rw [upd_ne na]; exact h2, h3.go st⟩
theorem getElem?_snoc {α : Type} {l : List α} {x y : α} {n : Nat} (h : (l ++ [x])[n]? = some y) : l[n]? = some y ∨ (n = l.length ∧ y = x) := by
  by_cases hn : n < l.length
  · rw [List.getElem?_append_left hn] at h; exact .inl h
  · rw [List.getElem?_append_right (by omega)] at h
    right
    by_cases h0 : n - l.length = 0
    · refine ⟨by omega, ?_⟩
      rw [h0] at h
      simpa using h.symm
    · obtain ⟨k, hk⟩ : ∃ k, n - l.length = k + 1 := ⟨n - l.length - 1, by omega⟩
      rw [hk] at h
      simp at h
theorem getElem?_snoc_old {α : Type} {l : List α} {x y : α} {n : Nat} (h : l[n]? = some y) : (l ++ [x])[n]? = some y := by
  rw [List.getElem?_append_left (List.getElem?_eq_some_iff.mp h).1]; exact h
/-- .. by a new cell -/
theorem Ag0.new (A : Ag0 c H S μ G) {p : Addr} {vs : List V} {ds : List D} (h : H p = none) (r : Reps c G μ vs ds) :
    Ag0 c (upd H p (.lst vs)) (S ++ [.lst ds]) (μ ++ [p]) G ∧ Stp H μ G (upd H p (.lst vs)) (μ ++ [p]) G := by
  obtain ⟨hm, hg⟩ := A.fresh h
  have st : Stp H μ G (upd H p (.lst vs)) (μ ++ [p]) G := by
    refine ⟨Same.refl _, fun _ _ h => getElem?_snoc_old h, fun a u hu _ => by rw [upd_ne (ne_of_none hu h)]; exact hu, fun a ha => ?_, fun _ _ h => .inl h⟩
    rcases List.mem_append.mp ha with z | z
    · exact .inl z
    · right
      have e : a = p := by simpa using z
      rw [e]; exact h
  refine ⟨⟨fun b u e => ?_, by simp [A.len], ?_, fun n a cl hn hs => ?_, A.base.trans st⟩, st⟩
  · have nb : b ≠ p := ne_of_none e hg
    rw [upd_ne nb]; exact A.same b u e
  · rw [List.nodup_append]
    refine ⟨A.nd, by simp, fun x hx y hy e => ?_⟩
    have e2 : y = p := by simpa using hy
    subst e; subst e2
    exact hm hx
  · rcases getElem?_snoc hn with hn | ⟨hnl, ea⟩
    · have hl : n < S.length := by rw [← A.len]; exact (List.getElem?_eq_some_iff.mp hn).1
      rw [List.getElem?_append_left hl] at hs
      have q := A.cell n a cl hn hs
      have na : a ≠ p := fun e => hm (e ▸ List.mem_of_getElem? hn)
      cases cl with
      | dead => obtain ⟨o, ho⟩ := q; exact ⟨o, by rw [upd_ne na]; exact ho⟩
      | lst ds =>
        obtain ⟨h1, vs, h2, h3⟩ := q
        exact ⟨h1, vs, by rw [upd_ne na]; exact h2, h3.go st⟩
    · subst ea
      rw [hnl, A.len, List.getElem?_append_right (Nat.le_refl _), Nat.sub_self] at hs
      have e : cl = .lst ds := by simpa using hs.symm
      subst e
      exact ⟨hg, vs, upd_same, r.go st⟩
/-- .. by a changed cell -/
theorem Ag0.put (A : Ag0 c H S μ G) {n : Nat} {a : Addr} {vs : List V} {es ds : List D} (hn : μ[n]? = some a) (hs : S[n]? = some (.lst es)) (r : Reps c G μ vs ds) :
    Ag0 c (upd H a (.lst vs)) (S.set n (.lst ds)) μ G ∧ Stp H μ G (upd H a (.lst vs)) μ G := by
  obtain ⟨hg, ws, h2, h3⟩ := A.cell n a _ hn hs
  have st : Stp H μ G (upd H a (.lst vs)) μ G := by
    refine ⟨Same.refl _, fun _ _ h => h, fun b u hu hb => ?_, fun _ h => .inl h, fun _ _ h => .inl h⟩
    have : b ≠ a := fun e => hb (e ▸ List.mem_of_getElem? hn)
    rw [upd_ne this]; exact hu
  refine ⟨⟨fun b u e => ?_, by simp [A.len], A.nd, fun m b cl hm hcl => ?_, A.base.trans st⟩, st⟩
  · have nb : b ≠ a := ne_of_none e hg
    rw [upd_ne nb]; exact A.same b u e
  · by_cases e : m = n
    · subst e
      rw [hn] at hm; cases hm
      have hl : m < S.length := (List.getElem?_eq_some_iff.mp hs).1
      rw [List.getElem?_set_self hl] at hcl
      cases hcl
      exact ⟨hg, vs, upd_same, r⟩
    · rw [List.getElem?_set_ne (Ne.symm e)] at hcl
      have nb : b ≠ a := fun z => by
        subst z
        exact e (nd_ix A.nd hm hn)
      have q := A.cell m b cl hm hcl
      cases cl with
      | dead => obtain ⟨o, ho⟩ := q; exact ⟨o, by rw [upd_ne nb]; exact ho⟩
      | lst ds =>
        obtain ⟨h1, vs, h2, h3⟩ := q
        exact ⟨h1, vs, by rw [upd_ne nb]; exact h2, h3⟩
/-- an own object that is neither frozen nor a cell, made behind H1, is written -/
theorem Ag0.own {H1 : Hp} {S1 : Store} {μ1 : List Addr} {G1 : Hp} (A1 : Ag0 c H1 S1 μ1 G1) (A : Ag0 c H S μ G) (s : Stp H1 μ1 G1 H μ G) {p : Addr} {o : HO} (h : H1 p = none) (hm : p ∉ μ) (hg : G p = none) :
    Ag0 c (upd H p o) S μ G ∧ Stp H1 μ1 G1 (upd H p o) μ G := by
  have st : Stp H1 μ1 G1 (upd H p o) μ G := ⟨s.sg, s.mu, fun a u hu ha => by rw [upd_ne (ne_of_none hu h)]; exact s.fr a u hu ha, s.nw, s.gn⟩
  refine ⟨⟨fun b u e => ?_, A.len, A.nd, fun n a cl hn hs => ?_, A1.base.trans st⟩, st⟩
  · rw [upd_ne (ne_of_none e hg)]; exact A.same b u e
  · have q := A.cell n a cl hn hs
    have na : a ≠ p := fun e => hm (e ▸ List.mem_of_getElem? hn)
    cases cl with
    | dead => obtain ⟨o, ho⟩ := q; exact ⟨o, by rw [upd_ne na]; exact ho⟩
    | lst ds =>
      obtain ⟨h1, vs, h2, h3⟩ := q
      exact ⟨h1, vs, by rw [upd_ne na]; exact h2, h3⟩
theorem Ag0.at (A : Ag0 c H S μ G) {n : Nat} {a : Addr} {ds : List D} (hn : μ[n]? = some a) (hs : S[n]? = some (.lst ds)) : ∃ vs, H a = some (.lst vs) ∧ Reps c G μ vs ds := by
  obtain ⟨_, vs, h2, h3⟩ := A.cell n a _ hn hs
  exact ⟨vs, h2, h3⟩

/-- the items of a list or a cell | of any row of items -/
def lstOf (S : Store) : D → Option (List D)
  | .lst ds => some ds
  | .loc n => match S[n]? with
    | some (.lst ds) => some ds
    | _ => none
  | _ => none
def seqOf (S : Store) : D → Option (List D)
  | .tup ds => some ds
  | .rol ds => some ds
  | .lst ds => some ds
  | .loc n => match S[n]? with
    | some (.lst ds) => some ds
    | _ => none
  | _ => none
/-- a list that is tracked -/
theorem Ag0.lstT (A : Ag0 c H S μ G) {v : V} {d : D} {ds : List D} (r : Rep c G μ v d) (h : lstOf S d = some ds) : ∃ a vs, v = .ref a ∧ H a = some (.lst vs) ∧ Reps c G μ vs ds := by
  cases r with
  | lst h1 h2 =>
    cases h
    exact ⟨_, _, rfl, A.same _ _ h1, h2⟩
  | @loc a n h1 =>
    simp only [lstOf] at h
    split at h
    · rename_i e
      cases h
      obtain ⟨vs, h2, h3⟩ := A.at h1 e
      exact ⟨_, _, rfl, h2, h3⟩
    · cases h
  | _ => cases h
/-- a row that is read -/
theorem Ag0.seqR (A : Ag0 c H S μ G) {v : V} {d : D} {ds : List D} (r : Rep c G μ v d) (h : seqOf S d = some ds) : ∃ a vs, v = .ref a ∧ (SqL c.K H a vs ∨ SqT c.K H a vs) ∧ Reps c G μ vs ds := by
  cases r with
  | tup h1 h2 =>
    cases h
    exact ⟨_, _, rfl, .inr (sqT_mono A.same h1), h2⟩
  | rol h1 h2 =>
    cases h
    exact ⟨_, _, rfl, .inl (A.same.seq h1), h2⟩
  | lst h1 h2 =>
    cases h
    exact ⟨_, _, rfl, .inl (SqL.of (A.same _ _ h1)), h2⟩
  | @loc a n h1 =>
    simp only [seqOf] at h
    split at h
    · rename_i e
      cases h
      obtain ⟨vs, h2, h3⟩ := A.at h1 e
      exact ⟨_, _, rfl, .inl (SqL.of h2), h3⟩
    · cases h
  | _ => cases h
theorem Ag0.tupR (A : Ag0 c H S μ G) {v : V} {ds : List D} (r : Rep c G μ v (.tup ds)) : ∃ a vs, v = .ref a ∧ SqT c.K H a vs ∧ Reps c G μ vs ds := by
  cases r with
  | tup h1 h2 => exact ⟨_, _, rfl, sqT_mono A.same h1, h2⟩

/-! ### names -/
theorem lk_set_same : ∀ {ρ : Rho} {i : Nat} {x : Option D}, i < ρ.length → lk (ρ.set i x) i = x
  | [], _, _, h => by simp at h
  | _ :: _, 0, _, _ => rfl
  | _ :: r, i + 1, _, h => lk_set_same (ρ := r) (i := i) (by simpa using h)
theorem lk_set_ne : ∀ {ρ : Rho} {i j : Nat} {x : Option D}, i ≠ j → lk (ρ.set i x) j = lk ρ j
  | [], _, _, _, _ => rfl
  | _ :: _, 0, 0, _, h => absurd rfl h
  | _ :: _, 0, _ + 1, _, _ => rfl
  | _ :: _, _ + 1, 0, _, _ => rfl
  | _ :: r, i + 1, j + 1, _, h => lk_set_ne (ρ := r) (fun e => h (by rw [e]))
theorem lk_len : ∀ {ρ : Rho} {i : Nat} {d : D}, lk ρ i = some d → i < ρ.length
  | [], _, _, h => by cases h
  | _ :: _, 0, _, _ => by simp
  | _ :: r, i + 1, _, h => by
    have := lk_len (ρ := r) (i := i) h
    simpa using this
theorem Ag.set (A : Ag c σ H ρ S μ G) {i : Nat} {v : V} {d : D} (r : Rep c G μ v d) : Ag c (σ.set i (some v)) H (ρ.set i (some d)) S μ G := by
  refine ⟨A.ag, by simp [A.len], fun j e h => ?_⟩
  by_cases hj : i = j
  · subst hj
    have hl : i < ρ.length := by
      have := lk_len h
      simpa using this
    rw [lk_set_same hl] at h
    cases h
    exact ⟨v, List.getElem?_set_self (by rw [A.len]; exact hl), r⟩
  · rw [lk_set_ne hj] at h
    obtain ⟨u, h1, h2⟩ := A.slot j e h
    exact ⟨u, by rw [List.getElem?_set_ne hj]; exact h1, h2⟩
def wipeD (ρ : Rho) : List Nat → Rho
  | [] => ρ
  | v :: vs => (wipeD ρ vs).set v none
theorem Ag.wipe (A : Ag c σ H ρ S μ G) : ∀ (vs : List Nat), Ag c (L2.wipe σ vs) H (wipeD ρ vs) S μ G
  | [] => A
  | v :: vs => by
    have B := A.wipe vs
    refine ⟨B.ag, by simp [L2.wipe, wipeD, B.len], fun j e h => ?_⟩
    unfold wipeD at h
    unfold L2.wipe
    by_cases hj : v = j
    · subst hj
      by_cases hl : v < (wipeD ρ vs).length
      · rw [lk_set_same hl] at h; cases h
      · have := lk_len h
        rw [List.length_set] at this
        exact absurd this hl
    · rw [lk_set_ne hj] at h
      obtain ⟨u, h1, h2⟩ := B.slot j e h
      exact ⟨u, by rw [List.getElem?_set_ne hj]; exact h1, h2⟩
end
end DL
namespace DL
open PySem PySem.Spec PyProof.Rows L2

/-! ### transformers over data -/
abbrev DQ := D → Store → Prop
abbrev WE := Rho → Store → DQ → Prop
abbrev WT := Rho → Store → (Bool → Store → Prop) → Prop
abbrev WA := Rho → Store → (List D → Store → Prop) → Prop
abbrev W2 := D → D → Store → DQ → Prop
abbrev W1 := D → Store → DQ → Prop
abbrev WC := List D → Store → DQ → Prop

/-- where the body stands -/
structure Bs where
  H : Hp
  μ : List Addr
  G : Hp
abbrev dc (X : Cx) (b : Bs) : Dc := ⟨X.K, X.mg, b.H, b.μ, b.G⟩

def SndE (c : Dc) (t : TE) (f : WE) : Prop := ∀ (σ : L2.St) (H : Hp) (ρ : Rho) (S : Store) (μ : List Addr) (G : Hp) (Q : DQ) (R : VK), Ag c σ H ρ S μ G → f ρ S Q →
  (∀ v H' d S' μ' G', Stp H μ G H' μ' G' → Ag c σ H' ρ S' μ' G' → Rep c G' μ' v d → Q d S' → R v H') → t σ H R
def SndT (c : Dc) (t : TT) (f : WT) : Prop := ∀ (σ : L2.St) (H : Hp) (ρ : Rho) (S : Store) (μ : List Addr) (G : Hp) (Q : Bool → Store → Prop) (R : Bool → Hp → Prop), Ag c σ H ρ S μ G → f ρ S Q →
  (∀ b H' S' μ' G', Stp H μ G H' μ' G' → Ag c σ H' ρ S' μ' G' → Q b S' → R b H') → t σ H R
def SndA (c : Dc) (t : TA) (f : WA) : Prop := ∀ (σ : L2.St) (H : Hp) (ρ : Rho) (S : Store) (μ : List Addr) (G : Hp) (Q : List D → Store → Prop) (R : List V → Hp → Prop), Ag c σ H ρ S μ G → f ρ S Q →
  (∀ vs H' ds S' μ' G', Stp H μ G H' μ' G' → Ag c σ H' ρ S' μ' G' → Reps c G' μ' vs ds → Q ds S' → R vs H') → t σ H R
def Snd2 (c : Dc) (r : R2) (w : W2) : Prop := ∀ (H : Hp) (S : Store) (μ : List Addr) (G : Hp) (x y : V) (dx dy : D) (Q : DQ) (R : VK), Ag0 c H S μ G → Rep c G μ x dx → Rep c G μ y dy → w dx dy S Q →
  (∀ v H' d S' μ' G', Stp H μ G H' μ' G' → Ag0 c H' S' μ' G' → Rep c G' μ' v d → Q d S' → R v H') → r x y H R
def Snd1 (c : Dc) (r : V → Hp → VK → Prop) (w : W1) : Prop := ∀ (H : Hp) (S : Store) (μ : List Addr) (G : Hp) (x : V) (dx : D) (Q : DQ) (R : VK), Ag0 c H S μ G → Rep c G μ x dx → w dx S Q →
  (∀ v H' d S' μ' G', Stp H μ G H' μ' G' → Ag0 c H' S' μ' G' → Rep c G' μ' v d → Q d S' → R v H') → r x H R
def SndC (c : Dc) (r : List V → Hp → VK → Prop) (w : WC) : Prop := ∀ (H : Hp) (S : Store) (μ : List Addr) (G : Hp) (vs : List V) (ds : List D) (Q : DQ) (R : VK), Ag0 c H S μ G → Reps c G μ vs ds → w ds S Q →
  (∀ v H' d S' μ' G', Stp H μ G H' μ' G' → Ag0 c H' S' μ' G' → Rep c G' μ' v d → Q d S' → R v H') → r vs H R

structure DE (X : Cx) (b : Bs) (e : Expr) (f : WE) : Prop where
  ex : ∃ t, PE X e t ∧ SndE (dc X b) t f
structure DT (X : Cx) (b : Bs) (e : Expr) (f : WT) : Prop where
  ex : ∃ t, PT X e t ∧ SndT (dc X b) t f
structure DW (X : Cx) (b : Bs) (e : Expr) (f : WT) : Prop where
  ex : ∃ t, PW X e t ∧ SndT (dc X b) t f
structure DA (X : Cx) (b : Bs) (es : List Expr) (f : WA) : Prop where
  ex : ∃ t, PA X es t ∧ SndA (dc X b) t f

/-! ### names, constants -/
def vW (i : Nat) : WE := fun ρ S Q => match lk ρ i with
  | some d => Q d S
  | none => False
def cW (d : D) : WE := fun _ S Q => Q d S
section
variable {X : Cx} {b : Bs} {c : Dc}
theorem snd_var (i : Nat) : SndE c (tVar i) (vW i) := by
  intro σ H ρ S μ G Q R A h k
  unfold vW at h
  split at h
  · rename_i d e
    obtain ⟨v, h1, h2⟩ := A.slot i d e
    exact ⟨v, h1, k v H d S μ G (Stp.refl _ _ _) A h2 h⟩
  · exact h.elim
theorem de_v (i : Nat) {x : Str} {pos : Pos} (hN : X.N[i]? = some x := by rfl) (hv : Vis X.env.scope x := by first | exact Or.inl rfl | exact Or.inr (Or.inl rfl) | exact Or.inr (Or.inr rfl)) (hd : (x == ("__debug__" : Str)) = false := by decide)
    (hcd : (x == ("__classdict__" : Str)) = false := by decide) : DE X b (.Name x pos) (vW i) := ⟨_, pe_var hN hv hd hcd, snd_var i⟩
/-- what any heap bears -/
def D.flat : D → Bool
  | .non => true
  | .bl _ => true
  | .int _ => true
  | .str _ => true
  | .ty _ => true
  | _ => false
theorem snd_c {v : V} {d : D} (h : ∀ G μ, Rep c G μ v d) : SndE c (tC v) (cW d) := fun σ H ρ S μ G Q R A hq k => k v H d S μ G (Stp.refl _ _ _) A (h G μ) hq
theorem de_int {i : Int} {j : Nat} {pos : Pos} : DE X b (.Constant (.int i) j pos) (cW (.int i)) := ⟨_, pe_int, snd_c fun _ _ => .int i⟩
theorem de_bl {i : Bool} {j : Nat} {pos : Pos} : DE X b (.Constant (.bool i) j pos) (cW (.bl i)) := ⟨_, pe_bl, snd_c fun _ _ => .bl i⟩
theorem de_non {j : Nat} {pos : Pos} : DE X b (.Constant .none j pos) (cW .non) := ⟨_, pe_non, snd_c fun _ _ => .non⟩
theorem de_str {i : Str} {j : Nat} {pos : Pos} : DE X b (.Constant (.str i) j pos) (cW (.str i)) := ⟨_, pe_str, snd_c fun _ _ => .str i⟩
/-- a module's constant -/
theorem de_glob {x : Str} {v : V} {u : Value} {d : D} {pos : Pos} (hg : Gl X x) (hm : X.mg x = some u) (r : RelV v u) (h : ∀ G μ, Rep (dc X b) G μ v d) (hd : (x == ("__debug__" : Str)) = false := by decide) : DE X b (.Name x pos) (cW d) := ⟨_, pe_glob hg hm r hd, snd_c h⟩
/-- a built-in class by its name -/
theorem de_ty {x : Str} {n : String} {pos : Pos} (hg : Gl X x) (hm : X.mg x = none) (hv : bootBuiltins x = some (.type n)) (hn : x ≠ "__name__" := by decide) (hd : (x == ("__debug__" : Str)) = false := by decide) : DE X b (.Name x pos) (cW (.ty n)) :=
  ⟨_, pe_bltn (v := .ty n) hg hm hv rfl hn hd, snd_c fun _ _ => .ty n⟩

/-! ### operators -/
def opW (w : W2) (fa fb : WE) : WE := fun ρ S Q => fa ρ S fun x S1 => fb ρ S1 fun y S2 => w x y S2 Q
def unW (w : W1) (fa : WE) : WE := fun ρ S Q => fa ρ S fun x S1 => w x S1 Q
theorem snd_op {r : R2} {w : W2} {ta tb : TE} {fa fb : WE} (hr : Snd2 c r w) (ha : SndE c ta fa) (hb : SndE c tb fb) : SndE c (tOp r ta tb) (opW w fa fb) := by
  intro σ H ρ S μ G Q R A h k
  refine ha σ H ρ S μ G _ _ A h fun x H1 dx S1 μ1 G1 s1 A1 r1 q1 => ?_
  refine hb σ H1 ρ S1 μ1 G1 _ _ A1 q1 fun y H2 dy S2 μ2 G2 s2 A2 r2 q2 => ?_
  exact hr H2 S2 μ2 G2 x y dx dy Q R A2.ag (r1.go s2) r2 q2 fun v H3 d S3 μ3 G3 s3 A3 r3 q3 => k v H3 d S3 μ3 G3 ((s1.trans s2).trans s3) (A2.go s3 A3) r3 q3
theorem snd_un {r : V → Hp → VK → Prop} {w : W1} {ta : TE} {fa : WE} (hr : Snd1 c r w) (ha : SndE c ta fa) : SndE c (tUn r ta) (unW w fa) := by
  intro σ H ρ S μ G Q R A h k
  refine ha σ H ρ S μ G _ _ A h fun x H1 dx S1 μ1 G1 s1 A1 r1 q1 => ?_
  exact hr H1 S1 μ1 G1 x dx Q R A1.ag r1 q1 fun v H3 d S3 μ3 G3 s3 A3 r3 q3 => k v H3 d S3 μ3 G3 (s1.trans s3) (A1.go s3 A3) r3 q3
variable {a e : Expr} {es : List Expr} {fa fb fe : WE} {ft fu : WT} {fs : WA} {pos : Pos}
theorem de_op {b' : Expr} {op : Operator} {r : R2} {w : W2} (ho : OpR X (binaryOp op) r) (hs : Snd2 (dc X b) r w) (ha : DE X b a fa) (hb : DE X b b' fb) : DE X b (.BinOp a op b' pos) (opW w fa fb) := by
  obtain ⟨ta, pa, sa⟩ := ha.ex
  obtain ⟨tb, pb, sb⟩ := hb.ex
  exact ⟨_, pe_op ho pa pb, snd_op hs sa sb⟩
theorem de_un {op : UnaryOp} {r : V → Hp → VK → Prop} {w : W1} (ho : UnR X (unaryOp op) r) (hs : Snd1 (dc X b) r w) (ha : DE X b a fa) : DE X b (.UnaryOp op a pos) (unW w fa) := by
  obtain ⟨ta, pa, sa⟩ := ha.ex
  exact ⟨_, pe_un ho pa, snd_un hs sa⟩
theorem de_cmp {b' : Expr} {op : CmpOp} {r : R2} {w : W2} (ho : OpR X (compareOp op) r) (hs : Snd2 (dc X b) r w) (ha : DE X b a fa) (hb : DE X b b' fb) (hm : behindInMarks op b' = false) : DE X b (.Compare a [op] [b'] pos) (opW w fa fb) := by
  obtain ⟨ta, pa, sa⟩ := ha.ex
  obtain ⟨tb, pb, sb⟩ := hb.ex
  exact ⟨_, pe_cmpR ho pa pb hm, snd_op hs sa sb⟩
/-- .. as a test -/
def tsW (fa : WE) : WT := fun ρ S Q => fa ρ S fun x S1 => match x with
  | .bl k => Q k S1
  | _ => False
theorem snd_test {t : TE} {fa : WE} (ha : SndE c t fa) : SndT c (tTest t) (tsW fa) := by
  intro σ H ρ S μ G Q R A h k
  refine ha σ H ρ S μ G _ _ A h fun x H1 dx S1 μ1 G1 s1 A1 r1 q1 => ?_
  cases r1 with
  | bl z => exact ⟨z, rfl, k z H1 S1 μ1 G1 s1 A1 q1⟩
  | _ => exact q1.elim
theorem dt_cmp {b' : Expr} {op : CmpOp} {r : R2} {w : W2} (ho : OpR X (compareOp op) r) (hs : Snd2 (dc X b) r w) (ha : DE X b a fa) (hb : DE X b b' fb) (hm : behindInMarks op b' = false) : DT X b (.Compare a [op] [b'] pos) (tsW (opW w fa fb)) := by
  obtain ⟨ta, pa, sa⟩ := ha.ex
  obtain ⟨tb, pb, sb⟩ := hb.ex
  exact ⟨_, pt_cmpR ho pa pb hm, snd_test (snd_op hs sa sb)⟩

/-! ### truth -/
def truD (S : Store) : D → Option Bool
  | .non => some false
  | .bl b => some b
  | .int i => some (i != 0)
  | .str y => if y.length ≤ sizeLine then some ((y.length : Int) != 0) else none
  | .ty _ => none
  | .tup ds => some (!ds.isEmpty)
  | .lst ds => some (!ds.isEmpty)
  | .rol ds => some (!ds.isEmpty)
  | .loc n => match S[n]? with
    | some (.lst ds) => some (!ds.isEmpty)
    | _ => none
theorem Reps.isEmpty {G : Hp} {μ : List Addr} {vs : List V} {ds : List D} (h : Reps c G μ vs ds) : vs.isEmpty = ds.isEmpty := by
  cases h <;> rfl
theorem Ag0.tru {H : Hp} {S : Store} {μ : List Addr} {G : Hp} (A : Ag0 c H S μ G) {v : V} {d : D} {k : Bool} (r : Rep c G μ v d) (h : truD S d = some k) : TruV c.K v H k := by
  cases r with
  | non => cases h; rfl
  | bl => cases h; rfl
  | int => cases h; rfl
  | str y =>
    simp only [truD] at h
    split at h
    · rename_i e; cases h; exact ⟨e, rfl⟩
    · cases h
  | ty => cases h
  | tup h1 h2 =>
    cases h
    exact .inr (.inl ⟨_, sqT_mono A.same h1, by rw [h2.isEmpty]⟩)
  | lst h1 h2 =>
    cases h
    exact .inl ⟨_, SqL.of (A.same _ _ h1), by rw [h2.isEmpty]⟩
  | rol h1 h2 =>
    cases h
    exact .inl ⟨_, A.same.seq h1, by rw [h2.isEmpty]⟩
  | loc h1 =>
    simp only [truD] at h
    split at h
    · rename_i e
      cases h
      obtain ⟨vs, h2, h3⟩ := A.at h1 e
      exact .inl ⟨_, SqL.of h2, by rw [h3.isEmpty]⟩
    · cases h
def truW (fa : WE) : WT := fun ρ S Q => fa ρ S fun x S1 => match truD S1 x with
  | some k => Q k S1
  | none => False
theorem dt_tru (ha : DE X b a fa) (he : ∀ whole, isTrue a X.env whole = (do let v ← whole; standAt a.pos; holding [v] (truthy v)) := by intro _; rfl) : DT X b a (truW fa) := by
  obtain ⟨ta, pa, sa⟩ := ha.ex
  refine ⟨_, pt_truth pa he, fun σ H ρ S μ G Q R A h k => ?_⟩
  refine sa σ H ρ S μ G _ _ A h fun x H1 dx S1 μ1 G1 s1 A1 r1 q1 => ?_
  split at q1
  · rename_i z e
    exact ⟨z, A1.ag.tru r1 e, k z H1 S1 μ1 G1 s1 A1 q1⟩
  · exact q1.elim
def andW (ft fu : WT) : WT := fun ρ S Q => ft ρ S fun k S1 => if k = true then fu ρ S1 Q else Q false S1
def orW (ft fu : WT) : WT := fun ρ S Q => ft ρ S fun k S1 => if k = true then Q true S1 else fu ρ S1 Q
def notW (ft : WT) : WT := fun ρ S Q => ft ρ S fun k S1 => Q (!k) S1
theorem snd_and {t u : TT} (ha : SndT c t ft) (hb : SndT c u fu) : SndT c (tAnd t u) (andW ft fu) := by
  intro σ H ρ S μ G Q R A h k
  refine ha σ H ρ S μ G _ _ A h fun z H1 S1 μ1 G1 s1 A1 q1 => ?_
  cases z with
  | true => exact hb σ H1 ρ S1 μ1 G1 Q R A1 q1 fun z H2 S2 μ2 G2 s2 A2 q2 => k z H2 S2 μ2 G2 (s1.trans s2) A2 q2
  | false => exact k false H1 S1 μ1 G1 s1 A1 q1
theorem snd_or {t u : TT} (ha : SndT c t ft) (hb : SndT c u fu) : SndT c (tOr t u) (orW ft fu) := by
  intro σ H ρ S μ G Q R A h k
  refine ha σ H ρ S μ G _ _ A h fun z H1 S1 μ1 G1 s1 A1 q1 => ?_
  cases z with
  | true => exact k true H1 S1 μ1 G1 s1 A1 q1
  | false => exact hb σ H1 ρ S1 μ1 G1 Q R A1 q1 fun z H2 S2 μ2 G2 s2 A2 q2 => k z H2 S2 μ2 G2 (s1.trans s2) A2 q2
variable {rest : List Expr} {b1 : Expr}
theorem DW.pt (h : DW X b e ft) : DT X b e ft := let ⟨t, p, s⟩ := h.ex; ⟨t, p.pt, s⟩
theorem dw_and1 (h : DT X b a ft) : DW X b (.BoolOp .And [a] pos) ft := let ⟨t, p, s⟩ := h.ex; ⟨t, pw_and1 p, s⟩
theorem dw_or1 (h : DT X b a ft) : DW X b (.BoolOp .Or [a] pos) ft := let ⟨t, p, s⟩ := h.ex; ⟨t, pw_or1 p, s⟩
theorem dw_and (ha : DT X b a ft) (hb : DW X b (.BoolOp .And (b1 :: rest) pos) fu) : DW X b (.BoolOp .And (a :: b1 :: rest) pos) (andW ft fu) := by
  obtain ⟨t, p, s⟩ := ha.ex
  obtain ⟨u, q, s'⟩ := hb.ex
  exact ⟨_, pw_and p q, snd_and s s'⟩
theorem dw_or (ha : DT X b a ft) (hb : DW X b (.BoolOp .Or (b1 :: rest) pos) fu) : DW X b (.BoolOp .Or (a :: b1 :: rest) pos) (orW ft fu) := by
  obtain ⟨t, p, s⟩ := ha.ex
  obtain ⟨u, q, s'⟩ := hb.ex
  exact ⟨_, pw_or p q, snd_or s s'⟩
theorem dt_not (ha : DT X b a ft) : DT X b (.UnaryOp .Not a pos) (notW ft) := by
  obtain ⟨t, p, s⟩ := ha.ex
  exact ⟨_, pt_not p, fun σ H ρ S μ G Q R A h k => s σ H ρ S μ G _ _ A h fun z H1 S1 μ1 G1 s1 A1 q1 => k (!z) H1 S1 μ1 G1 s1 A1 q1⟩
/-- and, or, not as values -/
def andV (fa fb : WE) : WE := fun ρ S Q => fa ρ S fun x S1 => match truD S1 x with
  | some k => if k = true then fb ρ S1 Q else Q x S1
  | none => False
def orV (fa fb : WE) : WE := fun ρ S Q => fa ρ S fun x S1 => match truD S1 x with
  | some k => if k = true then Q x S1 else fb ρ S1 Q
  | none => False
def notV (fa : WE) : WE := fun ρ S Q => fa ρ S fun x S1 => match truD S1 x with
  | some k => Q (.bl (!k)) S1
  | none => False
theorem de_one {op : BoolOp} (h : DE X b a fa) : DE X b (.BoolOp op [a] pos) fa := let ⟨t, p, s⟩ := h.ex; ⟨t, pe_one p, s⟩
theorem de_and (ha : DE X b a fa) (hb : DE X b (.BoolOp .And (b1 :: rest) pos) fb) : DE X b (.BoolOp .And (a :: b1 :: rest) pos) (andV fa fb) := by
  obtain ⟨ta, pa, sa⟩ := ha.ex
  obtain ⟨tb, pb, sb⟩ := hb.ex
  refine ⟨_, pe_andT pa pb, fun σ H ρ S μ G Q R A h k => ?_⟩
  refine sa σ H ρ S μ G _ _ A h fun x H1 dx S1 μ1 G1 s1 A1 r1 q1 => ?_
  split at q1
  · rename_i z e
    refine ⟨z, A1.ag.tru r1 e, ?_⟩
    cases z with
    | true => exact sb σ H1 ρ S1 μ1 G1 Q R A1 q1 fun v H2 d S2 μ2 G2 s2 A2 r2 q2 => k v H2 d S2 μ2 G2 (s1.trans s2) A2 r2 q2
    | false => exact k x H1 dx S1 μ1 G1 s1 A1 r1 q1
  · exact q1.elim
theorem de_or (ha : DE X b a fa) (hb : DE X b (.BoolOp .Or (b1 :: rest) pos) fb) : DE X b (.BoolOp .Or (a :: b1 :: rest) pos) (orV fa fb) := by
  obtain ⟨ta, pa, sa⟩ := ha.ex
  obtain ⟨tb, pb, sb⟩ := hb.ex
  refine ⟨_, pe_orT pa pb, fun σ H ρ S μ G Q R A h k => ?_⟩
  refine sa σ H ρ S μ G _ _ A h fun x H1 dx S1 μ1 G1 s1 A1 r1 q1 => ?_
  split at q1
  · rename_i z e
    refine ⟨z, A1.ag.tru r1 e, ?_⟩
    cases z with
    | true => exact k x H1 dx S1 μ1 G1 s1 A1 r1 q1
    | false => exact sb σ H1 ρ S1 μ1 G1 Q R A1 q1 fun v H2 d S2 μ2 G2 s2 A2 r2 q2 => k v H2 d S2 μ2 G2 (s1.trans s2) A2 r2 q2
  · exact q1.elim
theorem de_not (ha : DE X b a fa) : DE X b (.UnaryOp .Not a pos) (notV fa) := by
  obtain ⟨ta, pa, sa⟩ := ha.ex
  refine ⟨_, pe_notT pa, fun σ H ρ S μ G Q R A h k => ?_⟩
  refine sa σ H ρ S μ G _ _ A h fun x H1 dx S1 μ1 G1 s1 A1 r1 q1 => ?_
  split at q1
  · rename_i z e
    exact ⟨z, A1.ag.tru r1 e, k _ H1 _ S1 μ1 G1 s1 A1 (.bl _) q1⟩
  · exact q1.elim
/-- a if t else b -/
def ifW (ft : WT) (fa fb : WE) : WE := fun ρ S Q => ft ρ S fun k S1 => if k = true then fa ρ S1 Q else fb ρ S1 Q
theorem de_if {t b' : Expr} (ht : DT X b t ft) (ha : DE X b a fa) (hb : DE X b b' fb) : DE X b (.IfExp t a b' pos) (ifW ft fa fb) := by
  obtain ⟨tt, pt, st⟩ := ht.ex
  obtain ⟨ta, pa, sa⟩ := ha.ex
  obtain ⟨tb, pb, sb⟩ := hb.ex
  refine ⟨_, pe_ifExp pt pa pb, fun σ H ρ S μ G Q R A h k => ?_⟩
  refine st σ H ρ S μ G _ _ A h fun z H1 S1 μ1 G1 s1 A1 q1 => ?_
  cases z with
  | true => exact sa σ H1 ρ S1 μ1 G1 Q R A1 q1 fun v H2 d S2 μ2 G2 s2 A2 r2 q2 => k v H2 d S2 μ2 G2 (s1.trans s2) A2 r2 q2
  | false => exact sb σ H1 ρ S1 μ1 G1 Q R A1 q1 fun v H2 d S2 μ2 G2 s2 A2 r2 q2 => k v H2 d S2 μ2 G2 (s1.trans s2) A2 r2 q2

/-! ### argument lists, displays -/
def nilW : WA := fun _ S Q => Q [] S
def consW (fa : WE) (fs : WA) : WA := fun ρ S Q => fa ρ S fun d S1 => fs ρ S1 fun ds S2 => Q (d :: ds) S2
theorem da_nil : DA X b [] nilW := ⟨_, pa_nil, fun σ H ρ S μ G Q R A h k => k [] H [] S μ G (Stp.refl _ _ _) A .nil h⟩
theorem da_cons (ha : DE X b e fe) (hr : DA X b es fs) (hs : starEach (e :: es) X.env = (false, eval e X.env) :: starEach es X.env := by rfl) : DA X b (e :: es) (consW fe fs) := by
  obtain ⟨ta, pa, sa⟩ := ha.ex
  obtain ⟨tr, pr, sr⟩ := hr.ex
  refine ⟨_, pa_cons pa pr hs, fun σ H ρ S μ G Q R A h k => ?_⟩
  refine sa σ H ρ S μ G _ _ A h fun x H1 dx S1 μ1 G1 s1 A1 r1 q1 => ?_
  refine sr σ H1 ρ S1 μ1 G1 _ _ A1 q1 fun xs H2 ds S2 μ2 G2 s2 A2 r2 q2 => ?_
  exact k _ H2 _ S2 μ2 G2 (s1.trans s2) A2 (.cons (r1.go s2) r2) q2
def tupW (fs : WA) : WE := fun ρ S Q => fs ρ S fun ds S1 => ds.length ≤ sizeLine ∧ Q (.tup ds) S1
def lstW (fs : WA) : WE := fun ρ S Q => fs ρ S fun ds S1 => ds.length ≤ sizeLine ∧ Q (.lst ds) S1
/-- a list as a new cell -/
def lstN (fs : WA) : WE := fun ρ S Q => fs ρ S fun ds S1 => ds.length ≤ sizeLine ∧ Q (.loc S1.length) (S1 ++ [.lst ds])
theorem Ag0.frzT {H : Hp} {S : Store} {μ : List Addr} {G : Hp} (A : Ag0 c H S μ G) {p : Addr} {vs : List V} {ds : List D} (h : H p = none) (r : Reps c G μ vs ds) : Rep c (upd G p (.tup vs)) μ (.ref p) (.tup ds) :=
  .tup (.inl (.inl upd_same)) (r.go (A.frz (o := .tup vs) h).2)
theorem Ag0.frzL {H : Hp} {S : Store} {μ : List Addr} {G : Hp} (A : Ag0 c H S μ G) {p : Addr} {vs : List V} {ds : List D} (h : H p = none) (r : Reps c G μ vs ds) : Rep c (upd G p (.lst vs)) μ (.ref p) (.lst ds) :=
  .lst upd_same (r.go (A.frz (o := .lst vs) h).2)
theorem Ag0.newL {H : Hp} {S : Store} {μ : List Addr} {G : Hp} (A : Ag0 c H S μ G) {p : Addr} : Rep c G (μ ++ [p]) (.ref p) (.loc S.length) := by
  refine .loc ?_
  rw [← A.len, List.getElem?_append_right (Nat.le_refl _), Nat.sub_self]
  rfl
theorem de_tup {k : Nat} (h : DA X b es fs) : DE X b (.Tuple es k pos) (tupW fs) := by
  obtain ⟨t, p, s⟩ := h.ex
  refine ⟨_, pe_tup p, fun σ H ρ S μ G Q R A h k => ?_⟩
  refine s σ H ρ S μ G _ _ A h fun vs H1 ds S1 μ1 G1 s1 A1 r1 q1 => ?_
  refine ⟨by rw [r1.length]; exact q1.1, fun p np => ?_⟩
  obtain ⟨A2, s2⟩ := A1.ag.frz (o := .tup vs) np
  exact k _ _ _ S1 μ1 _ (s1.trans s2) (A1.go s2 A2) (A1.ag.frzT np r1) q1.2
theorem de_lst (h : DA X b es fs) : DE X b (.List es pos) (lstW fs) := by
  obtain ⟨t, p, s⟩ := h.ex
  refine ⟨_, pe_lst p, fun σ H ρ S μ G Q R A h k => ?_⟩
  refine s σ H ρ S μ G _ _ A h fun vs H1 ds S1 μ1 G1 s1 A1 r1 q1 => ?_
  refine ⟨by rw [r1.length]; exact q1.1, fun p np => ?_⟩
  obtain ⟨A2, s2⟩ := A1.ag.frz (o := .lst vs) np
  exact k _ _ _ S1 μ1 _ (s1.trans s2) (A1.go s2 A2) (A1.ag.frzL np r1) q1.2
theorem de_lstN (h : DA X b es fs) : DE X b (.List es pos) (lstN fs) := by
  obtain ⟨t, p, s⟩ := h.ex
  refine ⟨_, pe_lst p, fun σ H ρ S μ G Q R A h k => ?_⟩
  refine s σ H ρ S μ G _ _ A h fun vs H1 ds S1 μ1 G1 s1 A1 r1 q1 => ?_
  refine ⟨by rw [r1.length]; exact q1.1, fun p np => ?_⟩
  obtain ⟨A2, s2⟩ := A1.ag.new np r1
  exact k _ _ _ _ _ _ (s1.trans s2) (A1.go s2 A2) A1.ag.newL q1.2
end
end DL
namespace DL
open PySem PySem.Spec PyProof.Rows L2
section
variable {X : Cx} {b : Bs} {c : Dc}

/-! ### the operators by data -/
def wAdd : W2 := fun x y S Q => match x, y with
  | .int i, .int j => Q (.int (i + j)) S
  | .str i, .str j => i.length + j.length ≤ sizeLine ∧ Q (.str (i ++ j)) S
  | .tup xs, .tup ys => xs ≠ [] ∧ xs.length + ys.length ≤ sizeLine ∧ Q (.tup (xs ++ ys)) S
  | x, y => match lstOf S x, lstOf S y with
    | some xs, some ys => xs.length + ys.length ≤ sizeLine ∧ Q (.lst (xs ++ ys)) S
    | _, _ => False
theorem wAdd_int (i j : Int) (S : Store) (Q : DQ) : wAdd (.int i) (.int j) S Q = Q (.int (i + j)) S := rfl
theorem wAdd_str (i j : Str) (S : Store) (Q : DQ) : wAdd (.str i) (.str j) S Q = (i.length + j.length ≤ sizeLine ∧ Q (.str (i ++ j)) S) := rfl
theorem wAdd_tup (i j : List D) (S : Store) (Q : DQ) : wAdd (.tup i) (.tup j) S Q = (i ≠ [] ∧ i.length + j.length ≤ sizeLine ∧ Q (.tup (i ++ j)) S) := rfl
theorem wAdd_lst (i j : List D) (S : Store) (Q : DQ) : wAdd (.lst i) (.lst j) S Q = (i.length + j.length ≤ sizeLine ∧ Q (.lst (i ++ j)) S) := rfl
def rAddD (K : PySem.W.Frag) : R2 := fun x y H Q => rI0 (fun i j => .int (i + j)) x y H Q ∨
  ((∃ i j, x = .str i ∧ y = .str j ∧ i.length + j.length ≤ sizeLine ∧ Q (.str (i ++ j)) H) ∨ (rCatT K x y H Q ∨ rCat x y H Q))
theorem o_add : OpR X (binaryOp .Add) (rAddD X.K) := op_add.or (op_add_str.or (op_catT.or op_cat))
theorem s_add : Snd2 c (rAddD c.K) wAdd := by
  intro H S μ G x y dx dy Q R A rx ry h k
  have lists : ∀ xs ys, lstOf S dx = some xs → lstOf S dy = some ys → (xs.length + ys.length ≤ sizeLine ∧ Q (.lst (xs ++ ys)) S) → rAddD c.K x y H R := by
    intro xs ys hx hy q
    obtain ⟨a, vs, rfl, ha, r1⟩ := A.lstT rx hx
    obtain ⟨b, ws, rfl, hb, r2⟩ := A.lstT ry hy
    refine .inr (.inr (.inr ⟨a, b, vs, ws, rfl, rfl, ha, hb, by rw [r1.length, r2.length]; exact q.1, fun p np => ?_⟩))
    obtain ⟨A2, s2⟩ := A.frz (o := .lst (vs ++ ws)) np
    exact k _ _ _ S μ _ s2 A2 (A.frzL np (r1.append r2)) q.2
  unfold wAdd at h
  split at h
  · cases rx; cases ry
    exact .inl ⟨_, _, rfl, rfl, k _ H _ S μ G (Stp.refl _ _ _) A (.int _) h⟩
  · cases rx; cases ry
    exact .inr (.inl ⟨_, _, rfl, rfl, h.1, k _ H _ S μ G (Stp.refl _ _ _) A (.str _) h.2⟩)
  · rename_i xs ys
    obtain ⟨a, vs, rfl, ha, r1⟩ := A.tupR rx
    obtain ⟨b, ws, rfl, hb, r2⟩ := A.tupR ry
    refine .inr (.inr (.inl ⟨a, b, vs, ws, rfl, rfl, ha, hb, fun z => ?_, by rw [r1.length, r2.length]; exact h.2.1, fun z => ?_, fun z p np => ?_⟩))
    · subst z
      cases r1
      exact h.1 rfl
    · subst z
      cases r2
      have q := h.2.2
      rw [List.append_nil] at q
      exact k _ H _ S μ G (Stp.refl _ _ _) A rx q
    · obtain ⟨A2, s2⟩ := A.frz (o := .tup (vs ++ ws)) np
      exact k _ _ _ S μ _ s2 A2 (A.frzT np (r1.append r2)) h.2.2
  · split at h
    · rename_i xs ys hx hy
      exact lists xs ys hx hy h
    · exact h.elim
/-- ints -/
def wI (C : Int → Int → Prop) (g : Int → Int → D) : W2 := fun x y S Q => match x, y with
  | .int i, .int j => C i j ∧ Q (g i j) S
  | _, _ => False
def wI0 (g : Int → Int → D) : W2 := fun x y S Q => match x, y with
  | .int i, .int j => Q (g i j) S
  | _, _ => False
theorem s_I0 {g : Int → Int → V} {g' : Int → Int → D} (hg : ∀ G μ i j, Rep c G μ (g i j) (g' i j)) : Snd2 c (rI0 g) (wI0 g') := by
  intro H S μ G x y dx dy Q R A rx ry h k
  unfold wI0 at h
  split at h
  · cases rx; cases ry
    exact ⟨_, _, rfl, rfl, k _ H _ S μ G (Stp.refl _ _ _) A (hg _ _ _ _) h⟩
  · exact h.elim
theorem s_I {C : Int → Int → Prop} {g : Int → Int → V} {g' : Int → Int → D} (hg : ∀ G μ i j, Rep c G μ (g i j) (g' i j)) : Snd2 c (rI C g) (wI C g') := by
  intro H S μ G x y dx dy Q R A rx ry h k
  unfold wI at h
  split at h
  · cases rx; cases ry
    exact ⟨_, _, rfl, rfl, h.1, k _ H _ S μ G (Stp.refl _ _ _) A (hg _ _ _ _) h.2⟩
  · exact h.elim
abbrev wSub : W2 := wI0 fun i j => .int (i - j)
abbrev wMul : W2 := wI CMul fun i j => .int (i * j)
abbrev wDiv : W2 := wI CDivN fun i j => .int (i.fdiv j)
abbrev wMod : W2 := wI (fun _ j => j ≠ 0) fun i j => .int (i.fmod j)
abbrev wPow : W2 := wI CPow fun i j => .int (i ^ j.toNat)
abbrev wLt : W2 := wI0 fun i j => .bl (decide (i < j))
abbrev wLe : W2 := wI0 fun i j => .bl (decide (i ≤ j))
abbrev wGt : W2 := wI0 fun i j => .bl (decide (j < i))
abbrev wGe : W2 := wI0 fun i j => .bl (decide (j ≤ i))
def wNeg : W1 := fun x S Q => match x with
  | .int i => Q (.int (-i)) S
  | _ => False
theorem s_neg : Snd1 c (rU fun i => .int (-i)) wNeg := by
  intro H S μ G x dx Q R A rx h k
  unfold wNeg at h
  split at h
  · cases rx
    exact ⟨_, rfl, k _ H _ S μ G (Stp.refl _ _ _) A (.int _) h⟩
  · exact h.elim
variable {a b' : Expr} {fa fb : WE} {pos : Pos}
theorem de_add (ha : DE X b a fa) (hb : DE X b b' fb) : DE X b (.BinOp a .Add b' pos) (opW wAdd fa fb) := de_op o_add s_add ha hb
theorem de_sub (ha : DE X b a fa) (hb : DE X b b' fb) : DE X b (.BinOp a .Sub b' pos) (opW wSub fa fb) := de_op op_sub (s_I0 fun _ _ _ _ => .int _) ha hb
theorem de_mul (ha : DE X b a fa) (hb : DE X b b' fb) : DE X b (.BinOp a .Mult b' pos) (opW wMul fa fb) := de_op op_mul (s_I fun _ _ _ _ => .int _) ha hb
theorem de_div (ha : DE X b a fa) (hb : DE X b b' fb) : DE X b (.BinOp a .FloorDiv b' pos) (opW wDiv fa fb) := de_op op_fdivN (s_I fun _ _ _ _ => .int _) ha hb
theorem de_mod (ha : DE X b a fa) (hb : DE X b b' fb) : DE X b (.BinOp a .Mod b' pos) (opW wMod fa fb) := de_op op_modN (s_I fun _ _ _ _ => .int _) ha hb
theorem de_pow (ha : DE X b a fa) (hb : DE X b b' fb) : DE X b (.BinOp a .Pow b' pos) (opW wPow fa fb) := de_op op_pow (s_I fun _ _ _ _ => .int _) ha hb
theorem de_neg (ha : DE X b a fa) : DE X b (.UnaryOp .USub a pos) (unW wNeg fa) := de_un un_neg s_neg ha
theorem de_lt (ha : DE X b a fa) (hb : DE X b b' fb) : DE X b (.Compare a [.Lt] [b'] pos) (opW wLt fa fb) := de_cmp op_lt (s_I0 fun _ _ _ _ => .bl _) ha hb (nomark _)
theorem de_le (ha : DE X b a fa) (hb : DE X b b' fb) : DE X b (.Compare a [.LtE] [b'] pos) (opW wLe fa fb) := de_cmp op_le (s_I0 fun _ _ _ _ => .bl _) ha hb (nomark _)
theorem de_gt (ha : DE X b a fa) (hb : DE X b b' fb) : DE X b (.Compare a [.Gt] [b'] pos) (opW wGt fa fb) := de_cmp op_gt (s_I0 fun _ _ _ _ => .bl _) ha hb (nomark _)
theorem de_ge (ha : DE X b a fa) (hb : DE X b b' fb) : DE X b (.Compare a [.GtE] [b'] pos) (opW wGe fa fb) := de_cmp op_ge (s_I0 fun _ _ _ _ => .bl _) ha hb (nomark _)
theorem dt_lt (ha : DE X b a fa) (hb : DE X b b' fb) : DT X b (.Compare a [.Lt] [b'] pos) (tsW (opW wLt fa fb)) := dt_cmp op_lt (s_I0 fun _ _ _ _ => .bl _) ha hb (nomark _)
theorem dt_le (ha : DE X b a fa) (hb : DE X b b' fb) : DT X b (.Compare a [.LtE] [b'] pos) (tsW (opW wLe fa fb)) := dt_cmp op_le (s_I0 fun _ _ _ _ => .bl _) ha hb (nomark _)
theorem dt_gt (ha : DE X b a fa) (hb : DE X b b' fb) : DT X b (.Compare a [.Gt] [b'] pos) (tsW (opW wGt fa fb)) := dt_cmp op_gt (s_I0 fun _ _ _ _ => .bl _) ha hb (nomark _)
theorem dt_ge (ha : DE X b a fa) (hb : DE X b b' fb) : DT X b (.Compare a [.GtE] [b'] pos) (tsW (opW wGe fa fb)) := dt_cmp op_ge (s_I0 fun _ _ _ _ => .bl _) ha hb (nomark _)

/-! ### == and != -/
mutual
def pyD (S : Store) : D → Option PyData
  | .non => some .none
  | .bl b => some (.bool b)
  | .int i => some (.int i)
  | .str x => some (.str x)
  | .ty _ => none
  | .tup ds => match pysD S ds with
    | some ps => some (.tuple ps)
    | none => none
  | .lst ds => match pysD S ds with
    | some ps => some (.list ps)
    | none => none
  | .rol ds => match pysD S ds with
    | some ps => some (.list ps)
    | none => none
  | .loc _ => none
def pysD (S : Store) : List D → Option (List PyData)
  | [] => some []
  | d :: ds => match pyD S d, pysD S ds with
    | some p, some ps => some (p :: ps)
    | _, _ => none
end
/-- a cell's items at the top alone -/
def pyT (S : Store) : D → Option PyData
  | .loc n => match S[n]? with
    | some (.lst ds) => match pysD S ds with
      | some ps => some (.list ps)
      | none => none
    | _ => none
  | d => pyD S d
section
variable {H : Hp} {S : Store} {μ : List Addr} {G : Hp}
mutual
theorem Ag0.dp (A : Ag0 c H S μ G) : ∀ (d : D) (v : V) (p : PyData), Rep c G μ v d → pyD S d = some p → Dp c.K H v p
  | .non, _, _, r, e => by cases r; cases e; exact .non
  | .bl _, _, _, r, e => by cases r; cases e; exact .bl _
  | .int _, _, _, r, e => by cases r; cases e; exact .int _
  | .str _, _, _, r, e => by cases r; cases e; exact .str _
  | .ty _, _, _, _, e => by cases e
  | .loc _, _, _, _, e => by cases e
  | .tup ds, _, _, r, e => by
    cases r with
    | tup h1 h2 =>
      simp only [pyD] at e
      split at e
      · rename_i ps q
        cases e
        exact .tup (sqT_mono A.same h1) (Ag0.dps A ds _ ps h2 q)
      · cases e
  | .lst ds, _, _, r, e => by
    cases r with
    | lst h1 h2 =>
      simp only [pyD] at e
      split at e
      · rename_i ps q
        cases e
        exact .lst (SqL.of (A.same _ _ h1)) (Ag0.dps A ds _ ps h2 q)
      · cases e
  | .rol ds, _, _, r, e => by
    cases r with
    | rol h1 h2 =>
      simp only [pyD] at e
      split at e
      · rename_i ps q
        cases e
        exact .lst (A.same.seq h1) (Ag0.dps A ds _ ps h2 q)
      · cases e
theorem Ag0.dps (A : Ag0 c H S μ G) : ∀ (ds : List D) (vs : List V) (ps : List PyData), Reps c G μ vs ds → pysD S ds = some ps → DpAll c.K H vs ps
  | [], _, _, r, e => by cases r; cases e; exact .nil
  | d :: ds, _, _, r, e => by
    cases r with
    | cons h1 h2 =>
      simp only [pysD] at e
      split at e
      · rename_i p ps q1 q2
        cases e
        exact .cons (Ag0.dp A d _ p h1 q1) (Ag0.dps A ds _ ps h2 q2)
      · cases e
end
theorem Ag0.dpT (A : Ag0 c H S μ G) {d : D} {v : V} {p : PyData} (r : Rep c G μ v d) (e : pyT S d = some p) : Dp c.K H v p := by
  cases r with
  | loc h1 =>
    simp only [pyT] at e
    split at e
    · rename_i ds q
      split at e
      · rename_i ps q2
        cases e
        obtain ⟨vs, h2, h3⟩ := A.at h1 q
        exact .lst (SqL.of h2) (A.dps ds vs ps h3 q2)
      · cases e
    · cases e
  | non => exact A.dp _ _ p .non e
  | bl => exact A.dp _ _ p (.bl _) e
  | int => exact A.dp _ _ p (.int _) e
  | str => exact A.dp _ _ p (.str _) e
  | ty => exact A.dp _ _ p (.ty _) e
  | tup h1 h2 => exact A.dp _ _ p (.tup h1 h2) e
  | lst h1 h2 => exact A.dp _ _ p (.lst h1 h2) e
  | rol h1 h2 => exact A.dp _ _ p (.rol h1 h2) e
end
def wEq : W2 := fun x y S Q => match pyT S x, pyT S y with
  | some p, some q => SeqAt.shaped p = true ∧ SeqAt.shaped q = true ∧ Q (.bl (PyData.eqv p q)) S
  | _, _ => False
def wNe : W2 := fun x y S Q => match pyT S x, pyT S y with
  | some p, some q => SeqAt.shaped p = true ∧ SeqAt.shaped q = true ∧ Q (.bl (!PyData.eqv p q)) S
  | _, _ => False
theorem s_eq : Snd2 c (rEqD c.K) wEq := by
  intro H S μ G x y dx dy Q R A rx ry h k
  unfold wEq at h
  split at h
  · rename_i p q e1 e2
    exact ⟨p, q, A.dpT rx e1, A.dpT ry e2, h.1, h.2.1, k _ H _ S μ G (Stp.refl _ _ _) A (.bl _) h.2.2⟩
  · exact h.elim
theorem s_ne : Snd2 c (rNeD c.K) wNe := by
  intro H S μ G x y dx dy Q R A rx ry h k
  unfold wNe at h
  split at h
  · rename_i p q e1 e2
    exact ⟨p, q, A.dpT rx e1, A.dpT ry e2, h.1, h.2.1, k _ H _ S μ G (Stp.refl _ _ _) A (.bl _) h.2.2⟩
  · exact h.elim
theorem de_eq {n : Nat} (hr : Room n X.A) (ha : DE X b a fa) (hb : DE X b b' fb) : DE X b (.Compare a [.Eq] [b'] pos) (opW wEq fa fb) := de_cmp (op_eqD hr.units) s_eq ha hb (nomark _)
theorem de_ne {n : Nat} (hr : Room n X.A) (ha : DE X b a fa) (hb : DE X b b' fb) : DE X b (.Compare a [.NotEq] [b'] pos) (opW wNe fa fb) := de_cmp (op_neD hr.units) s_ne ha hb (nomark _)
theorem dt_eq {n : Nat} (hr : Room n X.A) (ha : DE X b a fa) (hb : DE X b b' fb) : DT X b (.Compare a [.Eq] [b'] pos) (tsW (opW wEq fa fb)) := dt_cmp (op_eqD hr.units) s_eq ha hb (nomark _)
theorem dt_ne {n : Nat} (hr : Room n X.A) (ha : DE X b a fa) (hb : DE X b b' fb) : DT X b (.Compare a [.NotEq] [b'] pos) (tsW (opW wNe fa fb)) := dt_cmp (op_neD hr.units) s_ne ha hb (nomark _)

/-! ### is -/
def wIs : W2 := fun x y S Q => match y with
  | .non => Q (.bl x.isNon) S
  | .bl k => match x with
    | .bl j => Q (.bl (decide (j = k))) S
    | _ => False
  | _ => False
def wIsnt : W2 := fun x y S Q => match y with
  | .non => Q (.bl (!x.isNon)) S
  | .bl k => match x with
    | .bl j => Q (.bl (!decide (j = k))) S
    | _ => False
  | _ => False
def rIsD : R2 := fun x y H Q => (y = .non ∧ Q (.bl (decide (x = .non))) H) ∨ rIsB x y H Q
def rIsntD : R2 := fun x y H Q => (y = .non ∧ Q (.bl (!decide (x = .non))) H) ∨ rNotB x y H Q
theorem s_is : Snd2 c rIsD wIs := by
  intro H S μ G x y dx dy Q R A rx ry h k
  unfold wIs at h
  split at h
  · cases ry
    refine .inl ⟨rfl, ?_⟩
    rw [rx.isNon]
    exact k _ H _ S μ G (Stp.refl _ _ _) A (.bl _) h
  · split at h
    · cases rx; cases ry
      exact .inr ⟨_, _, rfl, rfl, k _ H _ S μ G (Stp.refl _ _ _) A (.bl _) h⟩
    · exact h.elim
  · exact h.elim
theorem s_isnt : Snd2 c rIsntD wIsnt := by
  intro H S μ G x y dx dy Q R A rx ry h k
  unfold wIsnt at h
  split at h
  · cases ry
    refine .inl ⟨rfl, ?_⟩
    rw [rx.isNon]
    exact k _ H _ S μ G (Stp.refl _ _ _) A (.bl _) h
  · split at h
    · cases rx; cases ry
      exact .inr ⟨_, _, rfl, rfl, k _ H _ S μ G (Stp.refl _ _ _) A (.bl _) h⟩
    · exact h.elim
  · exact h.elim
theorem de_is (ha : DE X b a fa) (hb : DE X b b' fb) : DE X b (.Compare a [.Is] [b'] pos) (opW wIs fa fb) := de_cmp (op_isN.or op_isBl) s_is ha hb (nomark _)
theorem de_isnt (ha : DE X b a fa) (hb : DE X b b' fb) : DE X b (.Compare a [.IsNot] [b'] pos) (opW wIsnt fa fb) := de_cmp (op_notN.or op_notBl) s_isnt ha hb (nomark _)
theorem dt_is (ha : DE X b a fa) (hb : DE X b b' fb) : DT X b (.Compare a [.Is] [b'] pos) (tsW (opW wIs fa fb)) := dt_cmp (op_isN.or op_isBl) s_is ha hb (nomark _)
theorem dt_isnt (ha : DE X b a fa) (hb : DE X b b' fb) : DT X b (.Compare a [.IsNot] [b'] pos) (tsW (opW wIsnt fa fb)) := dt_cmp (op_notN.or op_notBl) s_isnt ha hb (nomark _)

/-! ### in, over rows of flat items -/
def D.flt : D → Bool
  | .non => true
  | .bl _ => true
  | .int _ => true
  | .str _ => true
  | _ => false
def eqD : D → D → Bool
  | .non, .non => true
  | .bl a, .bl b => a == b
  | .bl a, .int b => (if a then 1 else 0) == b
  | .int a, .bl b => a == (if b then 1 else 0)
  | .int a, .int b => a == b
  | .str a, .str b => a == b
  | _, _ => false
def inD (x : D) (xs : List D) : Bool := xs.any fun y => eqD y x
section
variable {H : Hp} {S : Store} {μ : List Addr} {G : Hp}
theorem Rep.flt {v : V} {d : D} (r : Rep c G μ v d) (h : d.flt = true) : flatV v = true := by
  cases r <;> first | rfl | (exact absurd h Bool.false_ne_true)
theorem Rep.eqD {v w : V} {d e : D} (r : Rep c G μ v d) (q : Rep c G μ w e) (h : d.flt = true) (h' : e.flt = true) : eqV v w = eqD d e := by
  cases r <;> cases q <;> first | rfl | (exact absurd h Bool.false_ne_true) | (exact absurd h' Bool.false_ne_true)
theorem Reps.flts {vs : List V} {ds : List D} (r : Reps c G μ vs ds) (h : ds.all D.flt = true) : vs.all flatV = true := by
  induction vs generalizing ds with
  | nil => rfl
  | cons v vs ih =>
    cases r with
    | cons h1 h2 =>
      rw [List.all_cons, Bool.and_eq_true] at h ⊢
      exact ⟨h1.flt h.1, ih h2 h.2⟩
theorem Reps.inD {v : V} {d : D} {vs : List V} {ds : List D} (q : Rep c G μ v d) (hd : d.flt = true) (r : Reps c G μ vs ds) (h : ds.all D.flt = true) : inV v vs = inD d ds := by
  unfold inV DL.inD
  induction vs generalizing ds with
  | nil => cases r; rfl
  | cons w vs ih =>
    cases r with
    | cons h1 h2 =>
      rw [List.all_cons, Bool.and_eq_true] at h
      rw [List.any_cons, List.any_cons, h1.eqD q h.1 hd, ih h2 h.2]
end
def wIn (neg : Bool) : W2 := fun x y S Q => match seqOf S y with
  | some ds => x.flt = true ∧ ds.all D.flt = true ∧ Q (.bl (if neg = true then !inD x ds else inD x ds)) S
  | none => False
theorem s_in {neg : Bool} : Snd2 c (rIn c.K neg) (wIn neg) := by
  intro H S μ G x y dx dy Q R A rx ry h k
  unfold wIn at h
  split at h
  · rename_i ds e
    obtain ⟨a, vs, rfl, ha, r⟩ := A.seqR ry e
    refine ⟨a, vs, rfl, ha, rx.flt h.1, r.flts h.2.1, ?_⟩
    rw [r.inD rx h.1 h.2.1]
    exact k _ H _ S μ G (Stp.refl _ _ _) A (.bl _) h.2.2
  · exact h.elim
theorem de_in (ha : DE X b a fa) (hb : DE X b b' fb) (hm : behindInMarks .In b' = false := by rfl) : DE X b (.Compare a [.In] [b'] pos) (opW (wIn false) fa fb) := de_cmp op_in_seq s_in ha hb hm
theorem de_notin (ha : DE X b a fa) (hb : DE X b b' fb) (hm : behindInMarks .NotIn b' = false := by rfl) : DE X b (.Compare a [.NotIn] [b'] pos) (opW (wIn true) fa fb) := de_cmp op_notIn_seq s_in ha hb hm
theorem dt_in (ha : DE X b a fa) (hb : DE X b b' fb) (hm : behindInMarks .In b' = false := by rfl) : DT X b (.Compare a [.In] [b'] pos) (tsW (opW (wIn false) fa fb)) := dt_cmp op_in_seq s_in ha hb hm
theorem dt_notin (ha : DE X b a fa) (hb : DE X b b' fb) (hm : behindInMarks .NotIn b' = false := by rfl) : DT X b (.Compare a [.NotIn] [b'] pos) (tsW (opW (wIn true) fa fb)) := dt_cmp op_notIn_seq s_in ha hb hm

/-! ### subscripts -/
def ixD (xs : List D) (i : Int) : Option D := if 0 ≤ i then xs[i.toNat]? else if -(xs.length : Int) ≤ i then xs[(i + xs.length).toNat]? else none
def wIx : W2 := fun x y S Q => match y with
  | .int i => match x with
    | .str z => z.length ≤ sizeLine ∧ ∃ t, atI z.cps.toList i = some t ∧ Q (.str ⟨#[t]⟩) S
    | x => match seqOf S x with
      | some ds => match ixD ds i with
        | some d => Q d S
        | none => False
      | none => False
  | _ => False
section
variable {H : Hp} {S : Store} {μ : List Addr} {G : Hp}
theorem Reps.atI {vs : List V} {ds : List D} {i : Int} {d : D} (r : Reps c G μ vs ds) (h : ixD ds i = some d) : ∃ v, atI vs i = some v ∧ Rep c G μ v d := by
  unfold ixD at h
  unfold L2.atI L2.ixN
  have hl := r.length
  split at h
  · rename_i h0
    have hlt := (List.getElem?_eq_some_iff.mp h).1
    rw [if_pos h0, if_pos (by omega)]
    exact r.get h
  · rename_i h0
    split at h
    · rename_i h1
      rw [if_neg h0, if_pos (by rw [hl]; exact h1), hl]
      exact r.get h
    · cases h
end
theorem s_ix : Snd2 c (rIx c.K) wIx := by
  intro H S μ G x y dx dy Q R A rx ry h k
  unfold wIx at h
  split at h
  · cases ry
    split at h
    · cases rx
      obtain ⟨h1, t, h2, h3⟩ := h
      exact .inr (.inr ⟨_, _, t, rfl, rfl, h1, h2, k _ H _ S μ G (Stp.refl _ _ _) A (.str _) h3⟩)
    · split at h
      · rename_i ds e
        split at h
        · rename_i d e2
          obtain ⟨a, vs, rfl, ha, r⟩ := A.seqR rx e
          obtain ⟨v, h4, h5⟩ := r.atI e2
          rcases ha with ha | ha
          · exact .inl ⟨a, vs, _, v, rfl, rfl, ha, h4, k _ H _ S μ G (Stp.refl _ _ _) A h5 h⟩
          · exact .inr (.inl ⟨a, vs, _, v, rfl, rfl, ha, h4, k _ H _ S μ G (Stp.refl _ _ _) A h5 h⟩)
        · exact h.elim
      · exact h.elim
  · exact h.elim
theorem de_ix (ha : DE X b a fa) (hb : DE X b b' fb) (hs : PlainIx b' := by exact fun _ _ => rfl) : DE X b (.Subscript a b' pos) (opW wIx fa fb) := by
  obtain ⟨ta, pa, sa⟩ := ha.ex
  obtain ⟨tb, pb, sb⟩ := hb.ex
  exact ⟨_, pe_ix ix_seq pa pb hs, snd_op s_ix sa sb⟩
end
end DL
namespace DL
open PySem PySem.Spec PyProof.Rows L2
section
variable {X : Cx} {b : Bs} {c : Dc} {fs : WA} {pos : Pos} {e : Expr} {es : List Expr}

/-! ### built-ins by their names -/
def clW (w : WC) (fs : WA) : WE := fun ρ S Q => fs ρ S fun ds S1 => w ds S1 Q
theorem snd_call {r : List V → Hp → VK → Prop} {w : WC} {t : TA} (hr : SndC c r w) (hs : SndA c t fs) : SndE c (tCB r t) (clW w fs) := by
  intro σ H ρ S μ G Q R A h k
  refine hs σ H ρ S μ G _ _ A h fun vs H1 ds S1 μ1 G1 s1 A1 r1 q1 => ?_
  exact hr H1 S1 μ1 G1 vs ds Q R A1.ag r1 q1 fun v H3 d S3 μ3 G3 s3 A3 r3 q3 => k v H3 d S3 μ3 G3 (s1.trans s3) (A1.go s3 A3) r3 q3
theorem de_callB {x : Str} {p : Pos} {id : String} {r : List V → Hp → VK → Prop} {w : WC} (hc : CallR X (.builtin id) r) (hr : SndC (dc X b) r w) (hg : Gl X x) (hm : X.mg x = none) (hv : bootBuiltins x = some (.builtin id)) (ha : DA X b (e :: es) fs)
    (hn : x ≠ "__name__" := by decide) (hdb : (x == ("__debug__" : Str)) = false := by decide)
    (he : starEach (e :: es) X.env = (false, eval e X.env) :: starEach es X.env := by rfl) (hpl : (backTo pos (starEach es X.env)).any (·.1) = false := by rfl) : DE X b (.Call (.Name x p) (e :: es) [] pos) (clW w fs) := by
  obtain ⟨t, pt, st⟩ := ha.ex
  exact ⟨_, pe_callB hc hg hm hv pt hn hdb he hpl, snd_call hr st⟩
theorem de_callTy {x : Str} {p : Pos} {T : String} {r : List V → Hp → VK → Prop} {w : WC} (hc : CallR X (.type T) r) (hr : SndC (dc X b) r w) (hg : Gl X x) (hm : X.mg x = none) (hv : bootBuiltins x = some (.type T)) (ha : DA X b (e :: es) fs)
    (hn : x ≠ "__name__" := by decide) (hdb : (x == ("__debug__" : Str)) = false := by decide)
    (he : starEach (e :: es) X.env = (false, eval e X.env) :: starEach es X.env := by rfl) (hpl : (backTo pos (starEach es X.env)).any (·.1) = false := by rfl) : DE X b (.Call (.Name x p) (e :: es) [] pos) (clW w fs) := by
  obtain ⟨t, pt, st⟩ := ha.ex
  exact ⟨_, pe_callTy hc hg hm hv pt hn hdb he hpl, snd_call hr st⟩

/-! len -/
def wLen : WC := fun ds S Q => match ds with
  | [.str y] => y.length ≤ sizeLine ∧ Q (.int y.length) S
  | [x] => match seqOf S x with
    | some xs => Q (.int xs.length) S
    | none => False
  | _ => False
theorem Reps.one' {G : Hp} {μ : List Addr} {vs : List V} {d : D} (r : Reps c G μ vs [d]) : ∃ v, vs = [v] ∧ Rep c G μ v d := by
  cases r with
  | cons h1 h2 => cases h2; exact ⟨_, rfl, h1⟩
theorem Reps.two' {G : Hp} {μ : List Addr} {vs : List V} {d e : D} (r : Reps c G μ vs [d, e]) : ∃ v w, vs = [v, w] ∧ Rep c G μ v d ∧ Rep c G μ w e := by
  cases r with
  | cons h1 h2 => obtain ⟨w, rfl, h3⟩ := h2.one'; exact ⟨_, _, rfl, h1, h3⟩
theorem c_len : SndC c (fun xs H Q => ∃ x n, xs = [x] ∧ LenV c.K x H n ∧ Q (.int n) H) wLen := by
  intro H S μ G vs ds Q R A r h k
  unfold wLen at h
  split at h
  · obtain ⟨v, rfl, r1⟩ := r.one'
    cases r1
    exact ⟨_, _, rfl, ⟨h.1, rfl⟩, k _ H _ S μ G (Stp.refl _ _ _) A (.int _) h.2⟩
  · split at h
    · rename_i xs q
      obtain ⟨v, rfl, r1⟩ := r.one'
      obtain ⟨a, ws, rfl, ha, r2⟩ := A.seqR r1 q
      refine ⟨_, ws.length, rfl, ?_, ?_⟩
      · rcases ha with ha | ha
        · exact .inl ⟨ws, ha, rfl⟩
        · exact .inr ⟨ws, ha, rfl⟩
      · rw [r2.length]
        exact k _ H _ S μ G (Stp.refl _ _ _) A (.int _) h
    · exact h.elim
  · exact h.elim
theorem de_len {p : Pos} (hg : Gl X "len") (hm : X.mg "len" = none) (ha : DA X b (e :: es) fs) (he : starEach (e :: es) X.env = (false, eval e X.env) :: starEach es X.env := by rfl) (hpl : (backTo pos (starEach es X.env)).any (·.1) = false := by rfl) :
    DE X b (.Call (.Name "len" p) (e :: es) [] pos) (clW wLen fs) := de_callB call_len c_len hg hm PySem.boot_len ha (by decide) (by decide) he hpl

/-! rows of ints, of bools -/
def intsOf : List D → Option (List Int)
  | [] => some []
  | .int i :: r => match intsOf r with
    | some ns => some (i :: ns)
    | none => none
  | _ :: _ => none
theorem intsOf_map : ∀ ns : List Int, intsOf (ns.map D.int) = some ns
  | [] => rfl
  | n :: ns => by
    show (match intsOf (ns.map D.int) with | some ns => some (n :: ns) | none => none) = some (n :: ns)
    rw [intsOf_map ns]
theorem of_intsOf : ∀ {ds : List D} {ns : List Int}, intsOf ds = some ns → ds = ns.map D.int
  | [], _, h => by cases h; rfl
  | .int i :: r, ns, h => by
    simp only [intsOf] at h
    split at h
    · rename_i ms q
      cases h
      rw [of_intsOf q, List.map_cons]
    · cases h
  | .non :: _, _, h => by cases h
  | .bl _ :: _, _, h => by cases h
  | .str _ :: _, _, h => by cases h
  | .ty _ :: _, _, h => by cases h
  | .tup _ :: _, _, h => by cases h
  | .lst _ :: _, _, h => by cases h
  | .rol _ :: _, _, h => by cases h
  | .loc _ :: _, _, h => by cases h
def blsOf : List D → Option (List Bool)
  | [] => some []
  | .bl i :: r => match blsOf r with
    | some ns => some (i :: ns)
    | none => none
  | _ :: _ => none
theorem blsOf_map : ∀ ns : List Bool, blsOf (ns.map D.bl) = some ns
  | [] => rfl
  | n :: ns => by
    show (match blsOf (ns.map D.bl) with | some ns => some (n :: ns) | none => none) = some (n :: ns)
    rw [blsOf_map ns]
theorem of_blsOf : ∀ {ds : List D} {ns : List Bool}, blsOf ds = some ns → ds = ns.map D.bl
  | [], _, h => by cases h; rfl
  | .bl i :: r, ns, h => by
    simp only [blsOf] at h
    split at h
    · rename_i ms q
      cases h
      rw [of_blsOf q, List.map_cons]
    · cases h
  | .non :: _, _, h => by cases h
  | .int _ :: _, _, h => by cases h
  | .str _ :: _, _, h => by cases h
  | .ty _ :: _, _, h => by cases h
  | .tup _ :: _, _, h => by cases h
  | .lst _ :: _, _, h => by cases h
  | .rol _ :: _, _, h => by cases h
  | .loc _ :: _, _, h => by cases h
/-- the items of a list that is read -/
def lsqOf (S : Store) : D → Option (List D)
  | .lst ds => some ds
  | .rol ds => some ds
  | .loc n => match S[n]? with
    | some (.lst ds) => some ds
    | _ => none
  | _ => none
theorem Ag0.lsqR {H : Hp} {S : Store} {μ : List Addr} {G : Hp} (A : Ag0 c H S μ G) {v : V} {d : D} {ds : List D} (r : Rep c G μ v d) (h : lsqOf S d = some ds) : ∃ a vs, v = .ref a ∧ SqL c.K H a vs ∧ Reps c G μ vs ds := by
  cases r with
  | rol h1 h2 =>
    cases h
    exact ⟨_, _, rfl, A.same.seq h1, h2⟩
  | lst h1 h2 =>
    cases h
    exact ⟨_, _, rfl, SqL.of (A.same _ _ h1), h2⟩
  | @loc a n h1 =>
    simp only [lsqOf] at h
    split at h
    · rename_i q
      cases h
      obtain ⟨vs, h2, h3⟩ := A.at h1 q
      exact ⟨_, _, rfl, SqL.of h2, h3⟩
    · cases h
  | _ => cases h
/-! min, max, abs, int -/
def minL : Int → List Int → Int
  | m, [] => m
  | m, y :: r => minL (if y < m then y else m) r
def maxL : Int → List Int → Int
  | m, [] => m
  | m, y :: r => maxL (if m < y then y else m) r
theorem minL_spec : ∀ (r : List Int) (m : Int), minL m r ∈ m :: r ∧ ∀ y ∈ m :: r, minL m r ≤ y
  | [], m => by simp [minL]
  | y :: r, m => by
    obtain ⟨h1, h2⟩ := minL_spec r (if y < m then y else m)
    unfold minL
    constructor
    · rcases List.mem_cons.mp h1 with e | e
      · rw [e]; split <;> simp
      · exact List.mem_cons_of_mem _ (List.mem_cons_of_mem _ e)
    · intro z hz
      have h3 := h2 _ List.mem_cons_self
      have h4 : (if y < m then y else m) ≤ m ∧ (if y < m then y else m) ≤ y := by split <;> omega
      rcases List.mem_cons.mp hz with e | hz
      · rw [e]; exact Int.le_trans h3 h4.1
      · rcases List.mem_cons.mp hz with e | hz
        · rw [e]; exact Int.le_trans h3 h4.2
        · exact h2 z (List.mem_cons_of_mem _ hz)
theorem maxL_spec : ∀ (r : List Int) (m : Int), maxL m r ∈ m :: r ∧ ∀ y ∈ m :: r, y ≤ maxL m r
  | [], m => by simp [maxL]
  | y :: r, m => by
    obtain ⟨h1, h2⟩ := maxL_spec r (if m < y then y else m)
    unfold maxL
    constructor
    · rcases List.mem_cons.mp h1 with e | e
      · rw [e]; split <;> simp
      · exact List.mem_cons_of_mem _ (List.mem_cons_of_mem _ e)
    · intro z hz
      have h3 := h2 _ List.mem_cons_self
      have h4 : m ≤ (if m < y then y else m) ∧ y ≤ (if m < y then y else m) := by split <;> omega
      rcases List.mem_cons.mp hz with e | hz
      · rw [e]; exact Int.le_trans h4.1 h3
      · rcases List.mem_cons.mp hz with e | hz
        · rw [e]; exact Int.le_trans h4.2 h3
        · exact h2 z (List.mem_cons_of_mem _ hz)
def wMin : WC := fun ds S Q => match ds with
  | [.int i, .int j] => Q (.int (if j < i then j else i)) S
  | [x] => match lsqOf S x with
    | some xs => match intsOf xs with
      | some (m :: r) => Q (.int (minL m r)) S
      | _ => False
    | none => False
  | _ => False
def wMax : WC := fun ds S Q => match ds with
  | [.int i, .int j] => Q (.int (if i < j then j else i)) S
  | [x] => match lsqOf S x with
    | some xs => match intsOf xs with
      | some (m :: r) => Q (.int (maxL m r)) S
      | _ => False
    | none => False
  | _ => False
theorem c_min : SndC c (fun xs H Q => (∃ i j, xs = [.int i, .int j] ∧ Q (.int (if j < i then j else i)) H) ∨ rMin c.K xs H Q) wMin := by
  intro H S μ G vs ds Q R A r h k
  unfold wMin at h
  split at h
  · obtain ⟨v, w, rfl, r1, r2⟩ := r.two'
    cases r1; cases r2
    exact .inl ⟨_, _, rfl, k _ H _ S μ G (Stp.refl _ _ _) A (.int _) h⟩
  · split at h
    · rename_i xs q
      split at h
      · rename_i m l q2
        obtain ⟨v, rfl, r1⟩ := r.one'
        obtain ⟨a, ws, rfl, ha, r2⟩ := A.lsqR r1 q
        rw [of_intsOf q2] at r2
        rw [r2.ints] at ha
        refine .inr ⟨a, m :: l, rfl, ha, by simp, fun z hz hle => ?_⟩
        obtain ⟨h1, h2⟩ := minL_spec l m
        have e : z = minL m l := Int.le_antisymm (hle _ h1) (h2 _ hz)
        rw [e]
        exact k _ H _ S μ G (Stp.refl _ _ _) A (.int _) h
      · exact h.elim
    · exact h.elim
  · exact h.elim
theorem c_max : SndC c (fun xs H Q => (∃ i j, xs = [.int i, .int j] ∧ Q (.int (if j > i then j else i)) H) ∨ rMax c.K xs H Q) wMax := by
  intro H S μ G vs ds Q R A r h k
  unfold wMax at h
  split at h
  · obtain ⟨v, w, rfl, r1, r2⟩ := r.two'
    cases r1; cases r2
    exact .inl ⟨_, _, rfl, k _ H _ S μ G (Stp.refl _ _ _) A (.int _) h⟩
  · split at h
    · rename_i xs q
      split at h
      · rename_i m l q2
        obtain ⟨v, rfl, r1⟩ := r.one'
        obtain ⟨a, ws, rfl, ha, r2⟩ := A.lsqR r1 q
        rw [of_intsOf q2] at r2
        rw [r2.ints] at ha
        refine .inr ⟨a, m :: l, rfl, ha, by simp, fun z hz hle => ?_⟩
        obtain ⟨h1, h2⟩ := maxL_spec l m
        have e : z = maxL m l := Int.le_antisymm (h2 _ hz) (hle _ h1)
        rw [e]
        exact k _ H _ S μ G (Stp.refl _ _ _) A (.int _) h
      · exact h.elim
    · exact h.elim
  · exact h.elim
theorem de_min {p : Pos} (hc : X.calm = true) (hg : Gl X "min") (hm : X.mg "min" = none) (ha : DA X b (e :: es) fs) (he : starEach (e :: es) X.env = (false, eval e X.env) :: starEach es X.env := by rfl) (hpl : (backTo pos (starEach es X.env)).any (·.1) = false := by rfl) :
    DE X b (.Call (.Name "min" p) (e :: es) [] pos) (clW wMin fs) := de_callB ((call_min2 hc).or (cr_min hc)) c_min hg hm (by decide +kernel) ha (by decide) (by decide) he hpl
theorem de_max {p : Pos} (hc : X.calm = true) (hg : Gl X "max") (hm : X.mg "max" = none) (ha : DA X b (e :: es) fs) (he : starEach (e :: es) X.env = (false, eval e X.env) :: starEach es X.env := by rfl) (hpl : (backTo pos (starEach es X.env)).any (·.1) = false := by rfl) :
    DE X b (.Call (.Name "max" p) (e :: es) [] pos) (clW wMax fs) := de_callB ((call_max2 hc).or (cr_max hc)) c_max hg hm (by decide +kernel) ha (by decide) (by decide) he hpl
def wAbs : WC := fun ds S Q => match ds with
  | [.int i] => Q (.int (if i < 0 then -i else i)) S
  | _ => False
theorem c_abs : SndC c (fun xs H Q => ∃ i, xs = [.int i] ∧ Q (.int (if i < 0 then -i else i)) H) wAbs := by
  intro H S μ G vs ds Q R A r h k
  unfold wAbs at h
  split at h
  · obtain ⟨v, rfl, r1⟩ := r.one'
    cases r1
    exact ⟨_, rfl, k _ H _ S μ G (Stp.refl _ _ _) A (.int _) h⟩
  · exact h.elim
theorem de_abs {p : Pos} (hg : Gl X "abs") (hm : X.mg "abs" = none) (ha : DA X b (e :: es) fs) (he : starEach (e :: es) X.env = (false, eval e X.env) :: starEach es X.env := by rfl) (hpl : (backTo pos (starEach es X.env)).any (·.1) = false := by rfl) :
    DE X b (.Call (.Name "abs" p) (e :: es) [] pos) (clW wAbs fs) := de_callB call_abs c_abs hg hm (by decide +kernel) ha (by decide) (by decide) he hpl
def wInt : WC := fun ds S Q => match ds with
  | [.int i] => Q (.int i) S
  | [.bl k] => Q (.int (if k then 1 else 0)) S
  | _ => False
theorem c_int : SndC c (fun xs H Q => (∃ i, xs = [.int i] ∧ Q (.int i) H) ∨ ∃ k, xs = [.bl k] ∧ Q (.int (if k then 1 else 0)) H) wInt := by
  intro H S μ G vs ds Q R A r h k
  unfold wInt at h
  split at h
  · obtain ⟨v, rfl, r1⟩ := r.one'
    cases r1
    exact .inl ⟨_, rfl, k _ H _ S μ G (Stp.refl _ _ _) A (.int _) h⟩
  · obtain ⟨v, rfl, r1⟩ := r.one'
    cases r1
    exact .inr ⟨_, rfl, k _ H _ S μ G (Stp.refl _ _ _) A (.int _) h⟩
  · exact h.elim
theorem de_int1 {p : Pos} (hg : Gl X "int") (hm : X.mg "int" = none) (ha : DA X b (e :: es) fs) (he : starEach (e :: es) X.env = (false, eval e X.env) :: starEach es X.env := by rfl) (hpl : (backTo pos (starEach es X.env)).any (·.1) = false := by rfl) :
    DE X b (.Call (.Name "int" p) (e :: es) [] pos) (clW wInt fs) := de_callTy call_int1 c_int hg hm (by decide +kernel) ha (by decide) (by decide) he hpl
/-! all, any of a list of bools -/
def wAll : WC := fun ds S Q => match ds with
  | [x] => match lsqOf S x with
    | some xs => match blsOf xs with
      | some bs => Q (.bl (bs.all id)) S
      | _ => False
    | none => False
  | _ => False
def wAny : WC := fun ds S Q => match ds with
  | [x] => match lsqOf S x with
    | some xs => match blsOf xs with
      | some bs => Q (.bl (bs.any id)) S
      | _ => False
    | none => False
  | _ => False
theorem c_all : SndC c (rAll c.K) wAll := by
  intro H S μ G vs ds Q R A r h k
  unfold wAll at h
  split at h
  · split at h
    · rename_i xs q
      split at h
      · rename_i bs q2
        obtain ⟨v, rfl, r1⟩ := r.one'
        obtain ⟨a, ws, rfl, ha, r2⟩ := A.lsqR r1 q
        rw [of_blsOf q2] at r2
        rw [r2.bls] at ha
        exact ⟨a, bs, rfl, ha, k _ H _ S μ G (Stp.refl _ _ _) A (.bl _) h⟩
      · exact h.elim
    · exact h.elim
  · exact h.elim
theorem c_any : SndC c (rAny c.K) wAny := by
  intro H S μ G vs ds Q R A r h k
  unfold wAny at h
  split at h
  · split at h
    · rename_i xs q
      split at h
      · rename_i bs q2
        obtain ⟨v, rfl, r1⟩ := r.one'
        obtain ⟨a, ws, rfl, ha, r2⟩ := A.lsqR r1 q
        rw [of_blsOf q2] at r2
        rw [r2.bls] at ha
        exact ⟨a, bs, rfl, ha, k _ H _ S μ G (Stp.refl _ _ _) A (.bl _) h⟩
      · exact h.elim
    · exact h.elim
  · exact h.elim
theorem de_all {p : Pos} (hc : X.calm = true) (hg : Gl X "all") (hm : X.mg "all" = none) (ha : DA X b (e :: es) fs) (he : starEach (e :: es) X.env = (false, eval e X.env) :: starEach es X.env := by rfl) (hpl : (backTo pos (starEach es X.env)).any (·.1) = false := by rfl) :
    DE X b (.Call (.Name "all" p) (e :: es) [] pos) (clW wAll fs) := de_callB (cr_all hc) c_all hg hm (by decide +kernel) ha (by decide) (by decide) he hpl
theorem de_any {p : Pos} (hc : X.calm = true) (hg : Gl X "any") (hm : X.mg "any" = none) (ha : DA X b (e :: es) fs) (he : starEach (e :: es) X.env = (false, eval e X.env) :: starEach es X.env := by rfl) (hpl : (backTo pos (starEach es X.env)).any (·.1) = false := by rfl) :
    DE X b (.Call (.Name "any" p) (e :: es) [] pos) (clW wAny fs) := de_callB (cr_any hc) c_any hg hm (by decide +kernel) ha (by decide) (by decide) he hpl
/-! isinstance with a built-in class -/
def tyN (S : Store) : D → Option String
  | .non => some "NoneType"
  | .bl _ => some "bool"
  | .int _ => some "int"
  | .str _ => some "str"
  | .tup _ => some "tuple"
  | .lst _ => some "list"
  | .rol _ => some "list"
  | .loc n => match S[n]? with
    | some (.lst _) => some "list"
    | _ => none
  | .ty _ => none
theorem Ag0.tyX {H : Hp} {S : Store} {μ : List Addr} {G : Hp} (A : Ag0 c H S μ G) {v : V} {d : D} {n : String} (r : Rep c G μ v d) (h : tyN S d = some n) : TyX c.K H v (.type n) := by
  have lists : ∀ {a : Addr} {xs : List V}, SqL c.K H a xs → TyX c.K H (.ref a) (.type "list") := fun {a xs} h => by
    rcases h with (h | ⟨o, h⟩) | ⟨o, its, n, h, e, _⟩
    · exact .base (.lst h)
    · exact .base (.frz h)
    · exact .kList h e
  cases r with
  | non => cases h; exact .base .non
  | bl => cases h; exact .base (.bl _)
  | int => cases h; exact .base (.int _)
  | str => cases h; exact .base (.str _)
  | ty => cases h
  | tup h1 h2 =>
    cases h
    rcases sqT_mono A.same h1 with (h | ⟨o, h⟩) | ⟨o, its, n, h, e, _⟩
    · exact .base (.tup h)
    · exact .fTuple h
    · exact .kTuple h e
  | lst h1 h2 => cases h; exact lists (SqL.of (A.same _ _ h1))
  | rol h1 h2 => cases h; exact lists (A.same.seq h1)
  | loc h1 =>
    simp only [tyN] at h
    split at h
    · rename_i q
      cases h
      obtain ⟨vs, h2, h3⟩ := A.at h1 q
      exact lists (SqL.of h2)
    · cases h
def wIsi : WC := fun ds S Q => match ds with
  | [x, .ty n] => match tyN S x with
    | some m => match kitB m n with
      | some k => Q (.bl k) S
      | none => False
    | none => False
  | _ => False
theorem c_isi : SndC c (rIsi c.K) wIsi := by
  intro H S μ G vs ds Q R A r h k
  unfold wIsi at h
  split at h
  · rename_i x n
    split at h
    · rename_i m q
      split at h
      · rename_i z q2
        obtain ⟨v, w, rfl, r1, r2⟩ := r.two'
        cases r2
        exact ⟨v, .ty n, .type m, .type n, z, rfl, .ty n, A.tyX r1 q, kit_ty q2, k _ H _ S μ G (Stp.refl _ _ _) A (.bl _) h⟩
      · exact h.elim
    · exact h.elim
  · exact h.elim
theorem de_isi {p : Pos} (hg : Gl X "isinstance") (hm : X.mg "isinstance" = none) (ha : DA X b (e :: es) fs) (he : starEach (e :: es) X.env = (false, eval e X.env) :: starEach es X.env := by rfl) (hpl : (backTo pos (starEach es X.env)).any (·.1) = false := by rfl) :
    DE X b (.Call (.Name "isinstance" p) (e :: es) [] pos) (clW wIsi fs) := de_callB call_isi c_isi hg hm (by decide +kernel) ha (by decide) (by decide) he hpl
/-! tuple(xs), list(xs) -/
def wTuple : WC := fun ds S Q => match ds with
  | [x] => match seqOf S x with
    | some xs => Q (.tup xs) S
    | none => False
  | _ => False
def wList : WC := fun ds S Q => match ds with
  | [x] => match seqOf S x with
    | some xs => Q (.lst xs) S
    | none => False
  | _ => False
def wListN : WC := fun ds S Q => match ds with
  | [x] => match seqOf S x with
    | some xs => Q (.loc S.length) (S ++ [.lst xs])
    | none => False
  | _ => False
theorem Ag0.tupOrL {H : Hp} {S : Store} {μ : List Addr} {G : Hp} (A : Ag0 c H S μ G) {v : V} {d : D} {ds : List D} (r : Rep c G μ v d) (h : seqOf S d = some ds) : ∃ a vs, v = .ref a ∧ ((SqL c.K H a vs ∧ Reps c G μ vs ds) ∨ (SqT c.K H a vs ∧ Rep c G μ v (.tup ds))) := by
  cases r with
  | tup h1 h2 =>
    cases h
    exact ⟨_, _, rfl, .inr ⟨sqT_mono A.same h1, .tup h1 h2⟩⟩
  | rol h1 h2 =>
    cases h
    exact ⟨_, _, rfl, .inl ⟨A.same.seq h1, h2⟩⟩
  | lst h1 h2 =>
    cases h
    exact ⟨_, _, rfl, .inl ⟨SqL.of (A.same _ _ h1), h2⟩⟩
  | @loc a n h1 =>
    simp only [seqOf] at h
    split at h
    · rename_i e
      cases h
      obtain ⟨vs, h2, h3⟩ := A.at h1 e
      exact ⟨_, _, rfl, .inl ⟨SqL.of h2, h3⟩⟩
    · cases h
  | _ => cases h
theorem c_tuple : SndC c (fun xs H Q => ∃ p ys, xs = [.ref p] ∧ ((SqL c.K H p ys ∧ ∀ l, H l = none → Q (.ref l) (upd H l (.tup ys))) ∨ (SqT c.K H p ys ∧ Q (.ref p) H))) wTuple := by
  intro H S μ G vs ds Q R A r h k
  unfold wTuple at h
  split at h
  · split at h
    · rename_i xs q
      obtain ⟨v, rfl, r1⟩ := r.one'
      obtain ⟨a, ws, rfl, ha⟩ := A.tupOrL r1 q
      refine ⟨a, ws, rfl, ?_⟩
      rcases ha with ⟨ha, r2⟩ | ⟨ha, r2⟩
      · refine .inl ⟨ha, fun p np => ?_⟩
        obtain ⟨A2, s2⟩ := A.frz (o := .tup ws) np
        exact k _ _ _ S μ _ s2 A2 (A.frzT np r2) h
      · exact .inr ⟨ha, k _ H _ S μ G (Stp.refl _ _ _) A r2 h⟩
    · exact h.elim
  · exact h.elim
theorem c_list : SndC c (fun xs H Q => ∃ p ys, xs = [.ref p] ∧ (SqL c.K H p ys ∨ SqT c.K H p ys) ∧ ∀ l, H l = none → Q (.ref l) (upd H l (.lst ys))) wList := by
  intro H S μ G vs ds Q R A r h k
  unfold wList at h
  split at h
  · split at h
    · rename_i xs q
      obtain ⟨v, rfl, r1⟩ := r.one'
      obtain ⟨a, ws, rfl, ha, r2⟩ := A.seqR r1 q
      refine ⟨a, ws, rfl, ha, fun p np => ?_⟩
      obtain ⟨A2, s2⟩ := A.frz (o := .lst ws) np
      exact k _ _ _ S μ _ s2 A2 (A.frzL np r2) h
    · exact h.elim
  · exact h.elim
theorem c_listN : SndC c (fun xs H Q => ∃ p ys, xs = [.ref p] ∧ (SqL c.K H p ys ∨ SqT c.K H p ys) ∧ ∀ l, H l = none → Q (.ref l) (upd H l (.lst ys))) wListN := by
  intro H S μ G vs ds Q R A r h k
  unfold wListN at h
  split at h
  · split at h
    · rename_i xs q
      obtain ⟨v, rfl, r1⟩ := r.one'
      obtain ⟨a, ws, rfl, ha, r2⟩ := A.seqR r1 q
      refine ⟨a, ws, rfl, ha, fun p np => ?_⟩
      obtain ⟨A2, s2⟩ := A.new np r2
      exact k _ _ _ _ _ _ s2 A2 A.newL h
    · exact h.elim
  · exact h.elim
theorem de_tuple {p : Pos} (hg : Gl X "tuple") (hm : X.mg "tuple" = none) (ha : DA X b (e :: es) fs) (he : starEach (e :: es) X.env = (false, eval e X.env) :: starEach es X.env := by rfl) (hpl : (backTo pos (starEach es X.env)).any (·.1) = false := by rfl) :
    DE X b (.Call (.Name "tuple" p) (e :: es) [] pos) (clW wTuple fs) := de_callTy call_tuple_of c_tuple hg hm (by decide +kernel) ha (by decide) (by decide) he hpl
theorem de_list {p : Pos} (hg : Gl X "list") (hm : X.mg "list" = none) (ha : DA X b (e :: es) fs) (he : starEach (e :: es) X.env = (false, eval e X.env) :: starEach es X.env := by rfl) (hpl : (backTo pos (starEach es X.env)).any (·.1) = false := by rfl) :
    DE X b (.Call (.Name "list" p) (e :: es) [] pos) (clW wList fs) := de_callTy call_list_of c_list hg hm (by decide +kernel) ha (by decide) (by decide) he hpl
theorem de_listN {p : Pos} (hg : Gl X "list") (hm : X.mg "list" = none) (ha : DA X b (e :: es) fs) (he : starEach (e :: es) X.env = (false, eval e X.env) :: starEach es X.env := by rfl) (hpl : (backTo pos (starEach es X.env)).any (·.1) = false := by rfl) :
    DE X b (.Call (.Name "list" p) (e :: es) [] pos) (clW wListN fs) := de_callTy call_list_of c_listN hg hm (by decide +kernel) ha (by decide) (by decide) he hpl
end
end DL
namespace DL
open PySem PySem.Spec PyProof.Rows L2

/-! ### the canonical reading of a transformer -/
def rdE (c : Dc) (f : WE) : TE := fun σ H R => ∃ (ρ : Rho) (S : Store) (μ : List Addr) (G : Hp) (Q : DQ), Ag c σ H ρ S μ G ∧ f ρ S Q ∧
  ∀ v H' d S' μ' G', Stp H μ G H' μ' G' → Ag c σ H' ρ S' μ' G' → Rep c G' μ' v d → Q d S' → R v H'
def rdT (c : Dc) (f : WT) : TT := fun σ H R => ∃ (ρ : Rho) (S : Store) (μ : List Addr) (G : Hp) (Q : Bool → Store → Prop), Ag c σ H ρ S μ G ∧ f ρ S Q ∧
  ∀ b H' S' μ' G', Stp H μ G H' μ' G' → Ag c σ H' ρ S' μ' G' → Q b S' → R b H'
theorem DE.can {X : Cx} {b : Bs} {e : Expr} {f : WE} (h : DE X b e f) : PE X e (rdE (dc X b) f) := by
  obtain ⟨t, p, s⟩ := h.ex
  refine ⟨fun pins st σ H R I q => ?_⟩
  obtain ⟨ρ, S, μ, G, Q, A, q1, q2⟩ := q
  exact p.run pins st σ H R I (s σ H ρ S μ G Q R A q1 q2)
theorem DT.can {X : Cx} {b : Bs} {e : Expr} {f : WT} (h : DT X b e f) : PT X e (rdT (dc X b) f) := by
  obtain ⟨t, p, s⟩ := h.ex
  refine ⟨fun pins st σ H R I q => ?_⟩
  obtain ⟨ρ, S, μ, G, Q, A, q1, q2⟩ := q
  exact p.run pins st σ H R I (s σ H ρ S μ G Q R A q1 q2)

/-! ### targets: names, tuples of names -/
inductive Tg where
  | nm (i : Nat) | tp (is : List Nat)
def puts : List Nat → List D → Rho → Rho
  | i :: is, d :: ds, ρ => puts is ds (ρ.set i (some d))
  | _, _, ρ => ρ
def Tg.put : Tg → D → Rho → Option Rho
  | .nm i, d, ρ => some (ρ.set i (some d))
  | .tp is, .tup ds, ρ => if ds.length = is.length then some (puts is ds ρ) else none
  | .tp _, _, _ => none
def Tg.slots : Tg → List Nat
  | .nm i => [i]
  | .tp is => is
def gNms : List Nat → TGs
  | [] => gNil
  | i :: is => gCons (gName i) (gNms is)
def tgT (K : PySem.W.Frag) : Tg → TG
  | .nm i => gName i
  | .tp is => gTup K is.length (gNms is)
theorem wipe_set : ∀ {σ : L2.St} {vs : List Nat} {i : Nat} {x : Option V}, i ∈ vs → L2.wipe (σ.set i x) vs = L2.wipe σ vs := by
  intro σ vs i x
  induction vs with
  | nil => intro h; cases h
  | cons v vs ih =>
    intro h
    unfold L2.wipe
    by_cases e : i ∈ vs
    · rw [ih e]
    · have ev : i = v := by
        rcases List.mem_cons.mp h with z | z
        · exact z
        · exact absurd z e
      subst ev
      clear ih h
      have key : ∀ ws : List Nat, i ∉ ws → L2.wipe (σ.set i x) ws = (L2.wipe σ ws).set i x := by
        intro ws
        induction ws with
        | nil => intro _; rfl
        | cons w ws ih =>
          intro hw
          unfold L2.wipe
          rw [ih fun z => hw (List.mem_cons_of_mem _ z)]
          exact List.set_comm _ _ fun z => hw (by rw [z]; exact List.mem_cons_self)
      rw [key vs e, List.set_set]
section
variable {c : Dc} {K : PySem.W.Frag}
theorem gNms_ok {Q : L2.St → Hp → Prop} {vs : List Nat} {H : Hp} {S : Store} {μ : List Addr} {G : Hp} : ∀ {is : List Nat} {xs : List V} {ds : List D} {σ : L2.St} {ρ : Rho}, Ag c σ H ρ S μ G → Reps c G μ xs ds → ds.length = is.length →
    (∀ σ', Ag c σ' H (puts is ds ρ) S μ G → (∀ vs : List Nat, (∀ i ∈ is, i ∈ vs) → L2.wipe σ' vs = L2.wipe σ vs) → Q σ' H) → gNms is xs σ H Q
  | [], xs, ds, σ, ρ, A, r, hl, k => by
    cases r with
    | nil => exact ⟨rfl, k σ A fun _ _ => rfl⟩
    | cons _ _ => cases hl
  | i :: is, _, ds, σ, ρ, A, r, hl, k => by
    cases r with
    | nil => cases hl
    | cons h1 h2 =>
      refine ⟨_, _, rfl, ?_⟩
      refine gNms_ok (vs := vs) (A.set h1) h2 (Nat.succ.inj hl) fun σ' A' hw => ?_
      refine k σ' A' fun ws hws => ?_
      rw [hw ws fun j hj => hws j (List.mem_cons_of_mem _ hj)]
      exact wipe_set (hws i List.mem_cons_self)
theorem Tg.ok {tg : Tg} {v : V} {d : D} {σ : L2.St} {H : Hp} {ρ ρ' : Rho} {S : Store} {μ : List Addr} {G : Hp} {Q : L2.St → Hp → Prop} (A : Ag c σ H ρ S μ G) (r : Rep c G μ v d) (e : tg.put d ρ = some ρ')
    (k : ∀ σ', Ag c σ' H ρ' S μ G → (∀ vs : List Nat, (∀ i ∈ tg.slots, i ∈ vs) → L2.wipe σ' vs = L2.wipe σ vs) → Q σ' H) : tgT c.K tg v σ H Q := by
  cases tg with
  | nm i =>
    cases e
    exact k _ (A.set r) fun ws hws => wipe_set (hws i (by simp [Tg.slots]))
  | tp is =>
    cases d with
    | tup ds =>
      simp only [Tg.put] at e
      split at e
      · rename_i hl
        cases e
        obtain ⟨a, xs, rfl, ha, r2⟩ := A.ag.tupR r
        exact ⟨a, xs, rfl, ha, by rw [r2.length]; exact hl, gNms_ok (vs := []) A r2 hl k⟩
      · cases e
    | _ => cases e
end
abbrev DG (X : Cx) (target : Expr) (tg : Tg) : Prop := PG X target (tgT X.K tg)
section
variable {X : Cx} {pos : Pos}
theorem dg_nm {i : Nat} {x : Str} (hN : X.N.Nodup) (hi : X.N[i]? = some x) (hx : Loc X.env.scope x) (hf : X.fn x = true ∨ X.env.scope.names.lookup x = some .local := by first | exact .inl rfl | exact .inr rfl | assumption) : DG X (.Name x pos) (.nm i) := pg_name hN hi hx hf
theorem dgs_nil : PGs X [] (gNms []) := pgs_nil
theorem dgs_cons {i : Nat} {is : List Nat} {e : Expr} {es : List Expr} (h1 : PG X e (gName i)) (h2 : PGs X es (gNms is))
    (hs : (assignEach (e :: es) X.env).map (·.2) = assign e X.env :: (assignEach es X.env).map (·.2) := by rfl) : PGs X (e :: es) (gNms (i :: is)) := pgs_cons h1 h2 hs
theorem dg_tp {es : List Expr} {k : Nat} {is : List Nat} (hc : X.calm = true) (h : PGs X es (gNms is)) (hn : (assignEach es X.env).length = is.length := by rfl) (hst : (assignEach es X.env).findIdx? (·.1) = none := by rfl) :
    DG X (.Tuple es k pos) (.tp is) := pg_tup hc h hn hst
end

/-! ### statements -/
structure DEnds where
  nx : Rho → Store → Prop
  rt : DQ
  bk : Rho → Store → Prop := fun _ _ => False
  ct : Rho → Store → Prop := fun _ _ => False
abbrev WS := DEnds → Rho → Store → Prop
structure EOk (c : Dc) (E : Ends) (Dd : DEnds) (H : Hp) (μ : List Addr) (G : Hp) : Prop where
  nx : ∀ σ' H' ρ' S' μ' G', Stp H μ G H' μ' G' → Ag c σ' H' ρ' S' μ' G' → Dd.nx ρ' S' → E.nx σ' H'
  rt : ∀ v H' d S' μ' G', Stp H μ G H' μ' G' → Ag0 c H' S' μ' G' → Rep c G' μ' v d → Dd.rt d S' → E.rt v H'
  bk : ∀ σ' H' ρ' S' μ' G', Stp H μ G H' μ' G' → Ag c σ' H' ρ' S' μ' G' → Dd.bk ρ' S' → E.bk σ' H'
  ct : ∀ σ' H' ρ' S' μ' G', Stp H μ G H' μ' G' → Ag c σ' H' ρ' S' μ' G' → Dd.ct ρ' S' → E.ct σ' H'
theorem EOk.go {c : Dc} {E : Ends} {Dd : DEnds} {H H1 : Hp} {μ μ1 : List Addr} {G G1 : Hp} (h : EOk c E Dd H μ G) (s : Stp H μ G H1 μ1 G1) : EOk c E Dd H1 μ1 G1 :=
  ⟨fun σ' H' ρ' S' μ' G' t => h.nx σ' H' ρ' S' μ' G' (s.trans t), fun v H' d S' μ' G' t => h.rt v H' d S' μ' G' (s.trans t), fun σ' H' ρ' S' μ' G' t => h.bk σ' H' ρ' S' μ' G' (s.trans t), fun σ' H' ρ' S' μ' G' t => h.ct σ' H' ρ' S' μ' G' (s.trans t)⟩
def SndS (c : Dc) (t : TS) (g : WS) : Prop := ∀ (E : Ends) (Dd : DEnds) (σ : L2.St) (H : Hp) (ρ : Rho) (S : Store) (μ : List Addr) (G : Hp), Ag c σ H ρ S μ G → g Dd ρ S → EOk c E Dd H μ G → t E σ H
structure DS (X : Cx) (b : Bs) (st : Stmt) (g : WS) : Prop where
  ex : ∃ t, PS X st t ∧ SndS (dc X b) t g
structure DSs (X : Cx) (b : Bs) (st : List Stmt) (g : WS) : Prop where
  ex : ∃ t, PSs X st t ∧ SndS (dc X b) t g
def nxW : WS := fun Dd ρ S => Dd.nx ρ S
def seqW (g h : WS) : WS := fun Dd ρ S => g { Dd with nx := h Dd } ρ S
def bkW : WS := fun Dd ρ S => Dd.bk ρ S
def ctW : WS := fun Dd ρ S => Dd.ct ρ S
def retW (fe : WE) : WS := fun Dd ρ S => fe ρ S Dd.rt
def retN : WS := fun Dd _ S => Dd.rt .non S
def dropW (fe : WE) : WS := fun Dd ρ S => fe ρ S fun _ S1 => Dd.nx ρ S1
def ifS (ft : WT) (g h : WS) : WS := fun Dd ρ S => ft ρ S fun k S1 => if k = true then g Dd ρ S1 else h Dd ρ S1
def asgW (tg : Tg) (fe : WE) : WS := fun Dd ρ S => fe ρ S fun d S1 => match tg.put d ρ with
  | some ρ' => Dd.nx ρ' S1
  | none => False
section
variable {X : Cx} {b : Bs} {c : Dc} {g h : WS} {fe : WE} {ft : WT} {e : Expr} {pos : Pos} {st : Stmt} {rest : List Stmt}
theorem snd_nx : SndS c tNext nxW := fun E Dd σ H ρ S μ G A q k => k.nx σ H ρ S μ G (Stp.refl _ _ _) A q
theorem snd_seq {t u : TS} (h1 : SndS c t g) (h2 : SndS c u h) : SndS c (tSeq t u) (seqW g h) := by
  intro E Dd σ H ρ S μ G A q k
  refine h1 _ { Dd with nx := h Dd } σ H ρ S μ G A q ⟨fun σ' H' ρ' S' μ' G' s A' q' => ?_, k.rt, k.bk, k.ct⟩
  exact h2 E Dd σ' H' ρ' S' μ' G' A' q' (k.go s)
theorem dss_nil : DSs X b [] nxW := ⟨_, pss_nil, snd_nx⟩
theorem dss_one (h1 : DS X b st g) : DSs X b [st] g := let ⟨t, p, s⟩ := h1.ex; ⟨t, pss_one p, s⟩
theorem dss_cons (h1 : DS X b st g) (h2 : DSs X b rest h) : DSs X b (st :: rest) (seqW g h) := by
  obtain ⟨t, p, s⟩ := h1.ex
  obtain ⟨u, q, s'⟩ := h2.ex
  exact ⟨_, pss_cons p q, snd_seq s s'⟩
theorem ds_pass : DS X b (.Pass pos) nxW := ⟨_, ps_pass, snd_nx⟩
theorem ds_break : DS X b (.Break pos) bkW := ⟨_, ps_break, fun E Dd σ H ρ S μ G A q k => k.bk σ H ρ S μ G (Stp.refl _ _ _) A q⟩
theorem ds_continue : DS X b (.Continue pos) ctW := ⟨_, ps_continue, fun E Dd σ H ρ S μ G A q k => k.ct σ H ρ S μ G (Stp.refl _ _ _) A q⟩
theorem ds_ret (he : DE X b e fe) : DS X b (.Return (some e) pos) (retW fe) := by
  obtain ⟨t, p, s⟩ := he.ex
  exact ⟨_, ps_ret p, fun E Dd σ H ρ S μ G A q k => s σ H ρ S μ G _ _ A q fun v H' d S' μ' G' s' A' r' q' => k.rt v H' d S' μ' G' s' A'.ag r' q'⟩
theorem ds_retN : DS X b (.Return none pos) retN := ⟨_, ps_retN, fun E Dd σ H ρ S μ G A q k => k.rt .non H .non S μ G (Stp.refl _ _ _) A.ag .non q⟩
theorem ds_expr (he : DE X b e fe) (hs : swapsWith e none pos.line X.env = pure false := by rfl) : DS X b (.Expr e pos) (dropW fe) := by
  obtain ⟨t, p, s⟩ := he.ex
  exact ⟨_, ps_expr p hs, fun E Dd σ H ρ S μ G A q k => s σ H ρ S μ G _ _ A q fun v H' d S' μ' G' s' A' r' q' => k.nx σ H' ρ S' μ' G' s' A' q'⟩
theorem ds_if {t : Expr} {p q : List Stmt} (hc : DT X b t ft) (ha : DSs X b p g) (hb : DSs X b q h) : DS X b (.If t p q pos) (ifS ft g h) := by
  obtain ⟨tc, pc, sc⟩ := hc.ex
  obtain ⟨ta, pa, sa⟩ := ha.ex
  obtain ⟨tb, pb, sb⟩ := hb.ex
  refine ⟨_, ps_if pc pa pb, fun E Dd σ H ρ S μ G A w k => ?_⟩
  refine sc σ H ρ S μ G _ _ A w fun z H1 S1 μ1 G1 s1 A1 q1 => ?_
  cases z with
  | true => exact sa E Dd σ H1 ρ S1 μ1 G1 A1 q1 (k.go s1)
  | false => exact sb E Dd σ H1 ρ S1 μ1 G1 A1 q1 (k.go s1)
theorem snd_asg {te : TE} {tg : Tg} (he : SndE c te fe) : SndS c (tAsg te (tgT c.K tg)) (asgW tg fe) := by
  intro E Dd σ H ρ S μ G A q k
  refine he σ H ρ S μ G _ _ A q fun v H1 d S1 μ1 G1 s1 A1 r1 q1 => ?_
  split at q1
  · rename_i ρ' e
    exact Tg.ok A1 r1 e fun σ' A' _ => k.nx σ' H1 ρ' S1 μ1 G1 s1 A' q1
  · exact q1.elim
/-- name = e -/
theorem ds_set (i : Nat) {x : Str} {pos' : Pos} (hN : X.N.Nodup) (hi : X.N[i]? = some x) (hx : Loc X.env.scope x) (he : DE X b e fe) (hs : swapsWith e (some (.Name x pos')) pos.line X.env = pure false := by rfl) (hf : X.fn x = true ∨ X.env.scope.names.lookup x = some .local := by first | exact .inl rfl | exact .inr rfl | assumption) :
    DS X b (.Assign [.Name x pos'] e pos) (asgW (.nm i) fe) := by
  obtain ⟨t, p, s⟩ := he.ex
  exact ⟨_, ps_set hN hi hx p hs hf, snd_asg (tg := .nm i) s⟩
/-- target = e -/
theorem ds_asg {tg : Tg} {t : Expr} (he : DE X b e fe) (hg : DG X t tg) (hs : swapsWithSole [t] e pos.line X.env = pure false := by rfl) (hw : swappedStores [t] e X.env = pure none := by rfl)
    (h1 : (assignEach [t] X.env).map (·.2) = [assign t X.env] := by rfl) : DS X b (.Assign [t] e pos) (asgW tg fe) := by
  obtain ⟨t, p, s⟩ := he.ex
  exact ⟨_, ps_asg p hg hs hw h1, snd_asg s⟩
/-- a, b = e1, e2 -/
def parW (i j : Nat) (fs : WA) : WS := fun Dd ρ S => fs ρ S fun ds S1 => match ds with
  | [x, y] => Dd.nx ((ρ.set i (some x)).set j (some y)) S1
  | _ => False
theorem ds_par {i j : Nat} {x y : Str} {p q : Expr} {fs : WA} {px py pt : Pos} {kt k2 : Nat} {pt2 : Pos} (hc : X.calm = true) (hN : X.N.Nodup) (hi : X.N[i]? = some x) (hj : X.N[j]? = some y) (hij : i ≠ j)
    (hx : X.env.scope.names.lookup x = some .local) (hy : X.env.scope.names.lookup y = some .local) (ha : DA X b [p, q] fs)
    (hw : swappedStores [.Tuple [.Name x px, .Name y py] kt pt] (.Tuple [p, q] k2 pt2) X.env = pure (some [x, y]))
    (hs : swapsWithSole [.Tuple [.Name x px, .Name y py] kt pt] (.Tuple [p, q] k2 pt2) pos.line X.env = pure false := by rfl) :
    DS X b (.Assign [.Tuple [.Name x px, .Name y py] kt pt] (.Tuple [p, q] k2 pt2) pos) (parW i j fs) := by
  obtain ⟨t, p1, s⟩ := ha.ex
  refine ⟨_, ps_par hc hN hi hj hij hx hy p1 hw hs, fun E Dd σ H ρ S μ G A w k => ?_⟩
  refine s σ H ρ S μ G _ _ A w fun vs H1 ds S1 μ1 G1 s1 A1 r1 q1 => ?_
  split at q1
  · obtain ⟨u, w', rfl, r2, r3⟩ := r1.two'
    exact ⟨u, w', rfl, k.nx _ H1 _ S1 μ1 G1 s1 ((A1.set r2).set r3) q1⟩
  · exact q1.elim
/-- name op= e -/
def augW (i : Nat) (w : W2) (fe : WE) : WS := fun Dd ρ S => match lk ρ i with
  | some x => fe ρ S fun y S1 => w x y S1 fun z S2 => Dd.nx (ρ.set i (some z)) S2
  | none => False
theorem ds_aug (i : Nat) {x : Str} {op : Operator} {ti : TIp} {w : W2} {pos' : Pos} (hN : X.N.Nodup) (hi : X.N[i]? = some x) (hx : Loc X.env.scope x) (he : DE X b e fe) (ho : PIp X op ti) (hw : Snd2 (dc X b) ti w) (hf : X.fn x = true ∨ X.env.scope.names.lookup x = some .local := by first | exact .inl rfl | exact .inr rfl | assumption) :
    DS X b (.AugAssign (.Name x pos') op e pos) (augW i w fe) := by
  obtain ⟨t, p, s⟩ := he.ex
  refine ⟨_, ps_aug hN hi hx p ho hf, fun E Dd σ H ρ S μ G A q k => ?_⟩
  unfold augW at q
  split at q
  · rename_i d e
    obtain ⟨v, h1, h2⟩ := A.slot i d e
    refine ⟨v, h1, s σ H ρ S μ G _ _ A q fun y H1 dy S1 μ1 G1 s1 A1 r1 q1 => ?_⟩
    exact hw H1 S1 μ1 G1 v y d dy _ _ A1.ag (h2.go s1) r1 q1 fun z H2 dz S2 μ2 G2 s2 A2 r2 q2 => k.nx _ H2 _ S2 μ2 G2 (s1.trans s2) ((A1.go s2 A2).set r2) q2
  · exact q.elim
theorem ds_augAdd (i : Nat) {x : Str} {pos' : Pos} (hN : X.N.Nodup) (hi : X.N[i]? = some x) (hx : Loc X.env.scope x) (he : DE X b e fe) (hf : X.fn x = true ∨ X.env.scope.names.lookup x = some .local := by first | exact .inl rfl | exact .inr rfl | assumption) :
    DS X b (.AugAssign (.Name x pos') .Add e pos) (augW i (wI0 fun i j => .int (i + j)) fe) := ds_aug i hN hi hx he ip_add (s_I0 fun _ _ _ _ => .int _) hf
theorem ds_augSub (i : Nat) {x : Str} {pos' : Pos} (hN : X.N.Nodup) (hi : X.N[i]? = some x) (hx : Loc X.env.scope x) (he : DE X b e fe) (hf : X.fn x = true ∨ X.env.scope.names.lookup x = some .local := by first | exact .inl rfl | exact .inr rfl | assumption) :
    DS X b (.AugAssign (.Name x pos') .Sub e pos) (augW i (wI0 fun i j => .int (i - j)) fe) := ds_aug i hN hi hx he ip_sub (s_I0 fun _ _ _ _ => .int _) hf

/-! o[i] = e of a list that is a cell -/
def putW (fe fo fi : WE) : WS := fun Dd ρ S => fe ρ S fun d S1 => fo ρ S1 fun o S2 => fi ρ S2 fun i S3 => match o, i with
  | .loc n, .int k => match S3[n]? with
    | some (.lst ds) => match ixN ds.length k with
      | some j => Dd.nx ρ (S3.set n (.lst (ds.set j d)))
      | none => False
    | _ => False
  | _, _ => False
theorem ds_put {o i : Expr} {fo fi : WE} {tpos : Pos} (he : DE X b e fe) (ho : DE X b o fo) (hi : DE X b i fi)
    (ha : ∀ v, assign (.Subscript o i tpos) X.env v = (do
      let ov ← holding [v] (eval o X.env)
      let iv ← holding [v, ov] (eval i X.env)
      standAt tpos
      holding [v, ov, iv] (setItem ov iv v)
      release [v, ov, iv] []) := by intro _; rfl)
    (hs : swapsWithSole [.Subscript o i tpos] e pos.line X.env = pure false := by rfl) (hw : swappedStores [.Subscript o i tpos] e X.env = pure none := by rfl)
    (h1 : (assignEach [.Subscript o i tpos] X.env).map (·.2) = [assign (.Subscript o i tpos) X.env] := by rfl) : DS X b (.Assign [.Subscript o i tpos] e pos) (putW fe fo fi) := by
  obtain ⟨te, pe, se⟩ := he.ex
  obtain ⟨to, po, so⟩ := ho.ex
  obtain ⟨ti, pi, si⟩ := hi.ex
  refine ⟨_, ps_asg pe (pg_sub po pi set_list ha) hs hw h1, fun E Dd σ H ρ S μ G A q k => ?_⟩
  refine se σ H ρ S μ G _ _ A q fun v H1 d S1 μ1 G1 s1 A1 r1 q1 => ?_
  refine so σ H1 ρ S1 μ1 G1 _ _ A1 q1 fun x H2 dx S2 μ2 G2 s2 A2 r2 q2 => ?_
  refine si σ H2 ρ S2 μ2 G2 _ _ A2 q2 fun y H3 dy S3 μ3 G3 s3 A3 r3 q3 => ?_
  split at q3
  · rename_i n z
    split at q3
    · rename_i ds e3
      split at q3
      · rename_i j e4
        cases r3
        cases r2.go s3 with
        | loc hn =>
          obtain ⟨vs, h2, h3⟩ := A3.ag.at hn e3
          refine ⟨_, vs, z, j, rfl, rfl, h2, by rw [h3.length]; exact e4, ?_⟩
          obtain ⟨A4, s4⟩ := A3.ag.put hn e3 (h3.set j ((r1.go s2).go s3))
          exact k.nx σ _ ρ _ μ3 G3 (((s1.trans s2).trans s3).trans s4) (A3.go s4 A4) q3
      · exact q3.elim
    · exact q3.elim
  · exact q3.elim
end
end DL
namespace DL
open PySem PySem.Spec PyProof.Rows L2

/-! ### what is walked -/
structure Ext (μ : List Addr) (G : Hp) (μ' : List Addr) (G' : Hp) : Prop where
  sg : Same G G'
  mu : ∀ (n : Nat) (a : Addr), μ[n]? = some a → μ'[n]? = some a
theorem Stp.ext {H : Hp} {μ : List Addr} {G H' : Hp} {μ' : List Addr} {G' : Hp} (s : Stp H μ G H' μ' G') : Ext μ G μ' G' := ⟨s.sg, s.mu⟩
theorem Ext.trans {μ μ1 μ2 : List Addr} {G G1 G2 : Hp} (s : Ext μ G μ1 G1) (t : Ext μ1 G1 μ2 G2) : Ext μ G μ2 G2 := ⟨s.sg.trans t.sg, fun n a h => t.mu n a (s.mu n a h)⟩
theorem Ext.refl (μ : List Addr) (G : Hp) : Ext μ G μ G := ⟨Same.refl _, fun _ _ h => h⟩
theorem Reps.ext {c : Dc} {μ μ' : List Addr} {G G' : Hp} {vs : List V} {ds : List D} (h : Reps c G μ vs ds) (s : Ext μ G μ' G') : Reps c G' μ' vs ds := h.mono s.sg s.mu ds vs
structure ItOk (c : Dc) (J : It) (ds : List D) (ok : Store → Prop) (μ : List Addr) (G : Hp) : Prop where
  go : ∀ (i : Nat) (H' : Hp) (S' : Store) (μ' : List Addr) (G' : Hp), Ext μ G μ' G' → Ag0 c H' S' μ' G' → ok S' → i < ds.length → J.go i H'
  yld : ∀ (i : Nat) (H' : Hp) (S' : Store) (μ' : List Addr) (G' : Hp) (x : V) (H2 : Hp), Ext μ G μ' G' → Ag0 c H' S' μ' G' → ok S' → i < ds.length → J.yld i H' x H2 →
    ∃ G2 d, Stp H' μ' G' H2 μ' G2 ∧ Ag0 c H2 S' μ' G2 ∧ ds[i]? = some d ∧ Rep c G2 μ' x d
  stop : ∀ (H' : Hp) (S' : Store) (μ' : List Addr) (G' : Hp), Ext μ G μ' G' → Ag0 c H' S' μ' G' → ok S' → J.stop ds.length H'
abbrev WI := Rho → Store → (List D → (Store → Prop) → Store → Prop) → Prop
def SndI (c : Dc) (wi : TI) (f : WI) : Prop := ∀ (σ : L2.St) (H : Hp) (ρ : Rho) (S : Store) (μ : List Addr) (G : Hp) (Q : List D → (Store → Prop) → Store → Prop) (R : It → Hp → Prop), Ag c σ H ρ S μ G → f ρ S Q →
  (∀ J H' ds ok S' μ' G', Stp H μ G H' μ' G' → Ag c σ H' ρ S' μ' G' → ItOk c J ds ok μ' G' → Q ds ok S' → R J H') → wi σ H R
structure DI (X : Cx) (b : Bs) (tg iter : Expr) (f : WI) : Prop where
  ex : ∃ wi, PI X tg iter wi ∧ SndI (dc X b) wi f
def rdI (c : Dc) (f : WI) : TI := fun σ H R => ∃ (ρ : Rho) (S : Store) (μ : List Addr) (G : Hp) (Q : List D → (Store → Prop) → Store → Prop), Ag c σ H ρ S μ G ∧ f ρ S Q ∧
  ∀ J H' ds ok S' μ' G', Stp H μ G H' μ' G' → Ag c σ H' ρ S' μ' G' → ItOk c J ds ok μ' G' → Q ds ok S' → R J H'
theorem DI.can {X : Cx} {b : Bs} {tg iter : Expr} {f : WI} (h : DI X b tg iter f) : PI X tg iter (rdI (dc X b) f) := by
  obtain ⟨t, p, s⟩ := h.ex
  refine ⟨fun pins st σ H R I q => ?_⟩
  obtain ⟨ρ, S, μ, G, Q, A, q1, q2⟩ := q
  exact p.run pins st σ H R I (s σ H ρ S μ G Q R A q1 q2)
theorem sndI_can {c : Dc} {f : WI} : SndI c (rdI c f) f := fun σ H ρ S μ G Q R A h k => ⟨ρ, S, μ, G, Q, A, h, k⟩
theorem sndE_can {c : Dc} {f : WE} : SndE c (rdE c f) f := fun σ H ρ S μ G Q R A h k => ⟨ρ, S, μ, G, Q, A, h, k⟩
theorem sndT_can {c : Dc} {f : WT} : SndT c (rdT c f) f := fun σ H ρ S μ G Q R A h k => ⟨ρ, S, μ, G, Q, A, h, k⟩
section
variable {X : Cx} {b : Bs} {c : Dc} {tg : Expr} {pos : Pos}
/-- a list or a tuple -/
def iSeq (K : PySem.W.Frag) (tl : TE) : TI := fun σ H R => tl σ H fun x H1 => ∃ a, x = .ref a ∧ (((∃ xs, SqL K H1 a xs) ∧ R (Itl K a) H1) ∨ ((∃ xs, SqT K H1 a xs) ∧ R (Itt K a) H1))
theorem pi_seq {l : Expr} {tl : TE} (hl : PE X l tl) : PI X tg l (iSeq X.K tl) := by
  refine ⟨fun pins s σ H R I h => thn (hl.run pins s σ H _ I h) ?_⟩
  intro v s1 w
  obtain ⟨x, H1, I1, r1, a, e, q⟩ := w
  subst e
  cases r1
  have frsh : ∀ bb ∈ [s1.heap.objs.size], FpOk X pins H1 bb := by
    intro bb hb
    rw [List.mem_singleton.mp hb]
    exact I1.fpOk (Nat.le_refl _) (I1.hok.fresh (Nat.le_refl _))
  rcases q with ⟨⟨xs, hq⟩, q⟩ | ⟨⟨xs, hq⟩, q⟩
  · obtain ⟨its, rv, p, hz⟩ := I1.list hq
    refine wpAny_pyIter_list p.isList ⟨s1.heap.objs.size, [s1.heap.objs.size], _, _, H1, rfl, ?_, turn_list a _, ?_, frsh, q⟩
    · exact I1.kept (t' := s1.toks) fun bb o e => Heap.get?_push_of_some _ e
    · exact ⟨_, Heap.get?_push_size _ rfl, rfl, rfl⟩
  · obtain ⟨its, rv, p, hz⟩ := I1.tuple hq
    have p' : s1.heap.IsTuple a its.toArray := p
    refine wpAny_pyIter_tuple p' ⟨s1.heap.objs.size, [s1.heap.objs.size], _, _, H1, rfl, ?_, turn_tuple a _, ?_, frsh, q⟩
    · exact I1.kept (t' := s1.toks) fun bb o e => Heap.get?_push_of_some _ e
    · exact ⟨_, Heap.get?_push_size _ rfl, rfl, rfl⟩
/-- the row that is walked and what must stand at each turn -/
def walkOf (S : Store) : D → Option (List D × (Store → Prop))
  | .tup ds => some (ds, fun _ => True)
  | .rol ds => some (ds, fun _ => True)
  | .lst ds => some (ds, fun _ => True)
  | .loc n => match S[n]? with
    | some (.lst ds) => some (ds, fun S' => S'[n]? = some (.lst ds))
    | _ => none
  | _ => none
def sqI (fe : WE) : WI := fun ρ S Q => fe ρ S fun d S1 => match walkOf S1 d with
  | some (ds, ok) => Q ds ok S1
  | none => False
theorem itOk_l {μ : List Addr} {G : Hp} {a : Addr} {ds : List D} {ok : Store → Prop}
    (h : ∀ (H' : Hp) (S' : Store) (μ' : List Addr) (G' : Hp), Ext μ G μ' G' → Ag0 c H' S' μ' G' → ok S' → ∃ vs, SqL c.K H' a vs ∧ Reps c G' μ' vs ds) (inj : ∀ (H' : Hp) vs ws, SqL c.K H' a vs → SqL c.K H' a ws → vs = ws ∨ True) :
    ItOk c (Itl c.K a) ds ok μ G where
  go := fun i H' S' μ' G' s A o hi => by
    obtain ⟨vs, h1, h2⟩ := h H' S' μ' G' s A o
    have hl := h2.length
    exact ⟨vs, vs[i]'(by omega), h1, List.getElem?_eq_getElem (by omega)⟩
  yld := fun i H' S' μ' G' x H2 s A o hi y => by
    obtain ⟨e, y⟩ := y
    subst e
    obtain ⟨vs, h1, h2⟩ := h _ S' μ' G' s A o
    obtain ⟨d, h3, h4⟩ := h2.get' (y vs h1)
    exact ⟨G', d, Stp.refl _ _ _, A, h3, h4⟩
  stop := fun H' S' μ' G' s A o => by
    obtain ⟨vs, h1, h2⟩ := h H' S' μ' G' s A o
    exact ⟨vs, h1, Nat.le_of_eq h2.length⟩
theorem itOk_t {μ : List Addr} {G : Hp} {a : Addr} {ds : List D} {ok : Store → Prop}
    (h : ∀ (H' : Hp) (S' : Store) (μ' : List Addr) (G' : Hp), Ext μ G μ' G' → Ag0 c H' S' μ' G' → ok S' → ∃ vs, SqT c.K H' a vs ∧ Reps c G' μ' vs ds) : ItOk c (Itt c.K a) ds ok μ G where
  go := fun i H' S' μ' G' s A o hi => by
    obtain ⟨vs, h1, h2⟩ := h H' S' μ' G' s A o
    have hl := h2.length
    exact ⟨vs, vs[i]'(by omega), h1, List.getElem?_eq_getElem (by omega)⟩
  yld := fun i H' S' μ' G' x H2 s A o hi y => by
    obtain ⟨e, y⟩ := y
    subst e
    obtain ⟨vs, h1, h2⟩ := h _ S' μ' G' s A o
    obtain ⟨d, h3, h4⟩ := h2.get' (y vs h1)
    exact ⟨G', d, Stp.refl _ _ _, A, h3, h4⟩
  stop := fun H' S' μ' G' s A o => by
    obtain ⟨vs, h1, h2⟩ := h H' S' μ' G' s A o
    exact ⟨vs, h1, Nat.le_of_eq h2.length⟩
theorem di_seq {l : Expr} {fe : WE} (hl : DE X b l fe) : DI X b tg l (sqI fe) := by
  obtain ⟨t, p, s⟩ := hl.ex
  refine ⟨_, pi_seq p, fun σ H ρ S μ G Q R A h k => ?_⟩
  refine s σ H ρ S μ G _ _ A h fun v H1 d S1 μ1 G1 s1 A1 r1 q1 => ?_
  split at q1
  · rename_i ds ok e
    cases r1 with
    | @tup a vs es h1 h2 =>
      cases e
      refine ⟨a, rfl, .inr ⟨⟨vs, sqT_mono A1.ag.same h1⟩, k _ H1 _ _ S1 μ1 G1 s1 A1 ?_ q1⟩⟩
      exact itOk_t fun H' S' μ' G' s' A' _ => ⟨vs, sqT_mono (s'.sg.trans A'.same) h1, h2.ext s'⟩
    | @rol a vs es h1 h2 =>
      cases e
      refine ⟨a, rfl, .inl ⟨⟨vs, A1.ag.same.seq h1⟩, k _ H1 _ _ S1 μ1 G1 s1 A1 ?_ q1⟩⟩
      exact itOk_l (fun H' S' μ' G' s' A' _ => ⟨vs, (s'.sg.trans A'.same).seq h1, h2.ext s'⟩) fun _ _ _ _ _ => .inr trivial
    | @lst a vs es h1 h2 =>
      cases e
      refine ⟨a, rfl, .inl ⟨⟨vs, SqL.of (A1.ag.same _ _ h1)⟩, k _ H1 _ _ S1 μ1 G1 s1 A1 ?_ q1⟩⟩
      exact itOk_l (fun H' S' μ' G' s' A' _ => ⟨vs, SqL.of ((s'.sg.trans A'.same) _ _ h1), h2.ext s'⟩) fun _ _ _ _ _ => .inr trivial
    | @loc a n hn =>
      simp only [walkOf] at e
      split at e
      · rename_i es q
        cases e
        obtain ⟨vs, h2, h3⟩ := A1.ag.at hn q
        refine ⟨a, rfl, .inl ⟨⟨vs, SqL.of h2⟩, k _ H1 _ _ S1 μ1 G1 s1 A1 ?_ q1⟩⟩
        exact itOk_l (fun H' S' μ' G' s' A' o => let ⟨ws, h4, h5⟩ := A'.at (s'.mu _ _ hn) o; ⟨ws, SqL.of h4, h5⟩) fun _ _ _ _ _ => .inr trivial
      · cases e
    | _ => cases e
  · exact q1.elim
/-- range -/
def rngD (lo : Int) (n : Nat) : List D := (List.range n).map fun (i : Nat) => D.int (lo + (i : Int))
def rgI1 (fs : WA) : WI := fun ρ S Q => fs ρ S fun ds S1 => match ds with
  | [.int j] => -(2 ^ 62) ≤ j ∧ j < 2 ^ 62 ∧ Q (rngD 0 j.toNat) (fun _ => True) S1
  | _ => False
def rgI2 (fs : WA) : WI := fun ρ S Q => fs ρ S fun ds S1 => match ds with
  | [.int i, .int j] => (-(2 ^ 62) ≤ i ∧ i < 2 ^ 62 ∧ -(2 ^ 62) ≤ j ∧ j < 2 ^ 62) ∧ Q (rngD i (j - i).toNat) (fun _ => True) S1
  | _ => False
theorem rngD_get {lo : Int} {n i : Nat} (h : i < n) : (rngD lo n)[i]? = some (.int (lo + i)) := by
  unfold rngD
  rw [List.getElem?_map, List.getElem?_range h]
  rfl
theorem rngD_length (lo : Int) (n : Nat) : (rngD lo n).length = n := by unfold rngD; simp
theorem itOk_r {μ : List Addr} {G : Hp} {lo : Int} {n : Nat} {ok : Store → Prop} : ItOk c (Itr lo n) (rngD lo n) ok μ G where
  go := fun i H' S' μ' G' s A o hi => by rw [rngD_length] at hi; exact hi
  yld := fun i H' S' μ' G' x H2 s A o hi y => by
    rw [rngD_length] at hi
    obtain ⟨e, y⟩ := y
    subst e y
    exact ⟨G', _, Stp.refl _ _ _, A, rngD_get hi, .int _⟩
  stop := fun H' S' μ' G' s A o => by rw [rngD_length]; exact Nat.le_refl _
theorem di_range1 {a : Expr} {p : Pos} {fs : WA} (hg : Gl X "range") (hm : X.mg "range" = none) (ha : DA X b [a] fs) (hs : starEach [a] X.env = [(false, eval a X.env)] := by rfl) : DI X b tg (.Call (.Name "range" p) [a] [] pos) (rgI1 fs) := by
  obtain ⟨t, pt, st⟩ := ha.ex
  refine ⟨_, pi_range1 hg hm pt hs, fun σ H ρ S μ G Q R A h k => ?_⟩
  refine st σ H ρ S μ G _ _ A h fun vs H1 ds S1 μ1 G1 s1 A1 r1 q1 => ?_
  split at q1
  · obtain ⟨v, rfl, r2⟩ := r1.one'
    cases r2
    exact ⟨_, rfl, q1.1, q1.2.1, k _ H1 _ _ S1 μ1 G1 s1 A1 itOk_r q1.2.2⟩
  · exact q1.elim
theorem di_range2 {a a' : Expr} {p : Pos} {fs : WA} (hg : Gl X "range") (hm : X.mg "range" = none) (ha : DA X b [a, a'] fs) (hs : starEach [a, a'] X.env = [(false, eval a X.env), (false, eval a' X.env)] := by rfl) (hs2 : starEach [a'] X.env = [(false, eval a' X.env)] := by rfl) :
    DI X b tg (.Call (.Name "range" p) [a, a'] [] pos) (rgI2 fs) := by
  obtain ⟨t, pt, st⟩ := ha.ex
  refine ⟨_, pi_range2 hg hm pt hs hs2, fun σ H ρ S μ G Q R A h k => ?_⟩
  refine st σ H ρ S μ G _ _ A h fun vs H1 ds S1 μ1 G1 s1 A1 r1 q1 => ?_
  split at q1
  · obtain ⟨v, w, rfl, r2, r3⟩ := r1.two'
    cases r2; cases r3
    exact ⟨_, _, rfl, q1.1, k _ H1 _ _ S1 μ1 G1 s1 A1 itOk_r q1.2⟩
  · exact q1.elim

/-! ### for -/
def forL (tg : Tg) (ok : Store → Prop) (body : WS) : List D → DEnds → Rho → Store → Prop
  | [], Dd, ρ, S => ok S ∧ Dd.nx ρ S
  | x :: xs, Dd, ρ, S => ok S ∧ match tg.put x ρ with
    | some ρ' => body { Dd with nx := fun ρ2 S2 => forL tg ok body xs Dd ρ2 S2, ct := fun ρ2 S2 => forL tg ok body xs Dd ρ2 S2, bk := Dd.nx } ρ' S
    | none => False
def forW (wi : WI) (tg : Tg) (body : WS) : WS := fun Dd ρ S => wi ρ S fun ds ok S1 => forL tg ok body ds Dd ρ S1
theorem ds_for {target iter : Expr} {body : List Stmt} {wi : WI} {t : Tg} {g : WS} (hp : PassesOwn (model X.prog X.w) X.A X.env X.xe) (hc : X.calm = true) (hi : DI X b target iter wi) (hg : DG X target t) (hb : DSs X b body g)
    (hs : ∀ x, foldedSetIterable iter X.env x = pure x := by intro _; rfl) : DS X b (.For target iter body [] pos) (forW wi t g) := by
  obtain ⟨ti, pi, si⟩ := hi.ex
  obtain ⟨tb, pb, sb⟩ := hb.ex
  refine ⟨_, ps_for hp hc pi hg pb hs, fun E Dd σ H ρ S μ G A q k => ?_⟩
  refine si σ H ρ S μ G _ _ A q fun J H1 ds ok S1 μ1 G1 s1 A1 it q1 => ?_
  refine ⟨fun i m σ' H' => ∃ ρ' S' μ' G', Ag (dc X b) σ' H' ρ' S' μ' G' ∧ Stp H1 μ1 G1 H' μ' G' ∧ i ≤ ds.length ∧ m = ds.length - i ∧ forL t ok g (ds.drop i) Dd ρ' S',
    ⟨ds.length, ρ, S1, μ1, G1, A1, Stp.refl _ _ _, Nat.zero_le _, rfl, q1⟩, ?_⟩
  rintro i m σ' H' ⟨ρ', S', μ', G', A', s', hi, rfl, q'⟩
  have kk := k.go s1
  by_cases hlt : i < ds.length
  · rw [List.drop_eq_getElem_cons hlt] at q'
    obtain ⟨o, q'⟩ := q'
    refine .inr ⟨it.go i H' S' μ' G' s'.ext A'.ag o hlt, fun σ2 H2 => ∃ ρ2 S2 μ2 G2, Ag (dc X b) σ2 H2 ρ2 S2 μ2 G2 ∧ Stp H1 μ1 G1 H2 μ2 G2 ∧ forL t ok g (ds.drop (i + 1)) Dd ρ2 S2, ?_, ?_⟩
    · rintro σ2 H2 ⟨ρ2, S2, μ2, G2, A2, s2, q2⟩
      exact ⟨ds.length - (i + 1), by omega, ρ2, S2, μ2, G2, A2, s2, hlt, rfl, q2⟩
    · intro x H2 y
      obtain ⟨G2, d, s2, A2, hd, r2⟩ := it.yld i H' S' μ' G' x H2 s'.ext A'.ag o hlt y
      rw [List.getElem?_eq_getElem hlt] at hd
      cases hd
      split at q'
      · rename_i ρ2 e
        refine Tg.ok (A'.go s2 A2) r2 e fun σ3 A3 _ => ?_
        refine sb _ _ σ3 H2 ρ2 S' μ' G2 A3 q' ?_
        have s3 := s'.trans s2
        have k3 := kk.go s3
        exact ⟨fun σ4 H4 ρ4 S4 μ4 G4 s4 A4 q4 => ⟨ρ4, S4, μ4, G4, A4, s3.trans s4, q4⟩, k3.rt, k3.nx, fun σ4 H4 ρ4 S4 μ4 G4 s4 A4 q4 => ⟨ρ4, S4, μ4, G4, A4, s3.trans s4, q4⟩⟩
      · exact q'.elim
  · have e : i = ds.length := by omega
    subst e
    rw [List.drop_length] at q'
    exact .inl ⟨it.stop H' S' μ' G' s'.ext A'.ag q'.1, kk.nx σ' H' ρ' S' μ' G' s' A' q'.2⟩

/-! ### while -/
def whileN (ft : WT) (body : WS) : Nat → DEnds → Rho → Store → Prop
  | 0, _, _, _ => False
  | n + 1, Dd, ρ, S => ft ρ S fun k S1 => if k = true then body { Dd with nx := fun ρ2 S2 => whileN ft body n Dd ρ2 S2, ct := fun ρ2 S2 => whileN ft body n Dd ρ2 S2, bk := Dd.nx } ρ S1 else Dd.nx ρ S1
def whileW (ft : WT) (body : WS) : WS := fun Dd ρ S => ∃ n, whileN ft body n Dd ρ S
theorem ds_while {t : Expr} {body : List Stmt} {ft : WT} {g : WS} (hp : PassesOwn (model X.prog X.w) X.A X.env X.xe) (hc : DT X b t ft) (hb : DSs X b body g) : DS X b (.While t body [] pos) (whileW ft g) := by
  obtain ⟨tc, pc, sc⟩ := hc.ex
  obtain ⟨tb, pb, sb⟩ := hb.ex
  refine ⟨_, ps_while hp pc pb, fun E Dd σ H ρ S μ G A q k => ?_⟩
  obtain ⟨n, q⟩ := q
  refine ⟨fun m σ' H' => ∃ ρ' S' μ' G', Ag (dc X b) σ' H' ρ' S' μ' G' ∧ Stp H μ G H' μ' G' ∧ whileN ft g m Dd ρ' S', ⟨n, ρ, S, μ, G, A, Stp.refl _ _ _, q⟩, ?_⟩
  rintro m σ' H' ⟨ρ', S', μ', G', A', s', q'⟩
  cases m with
  | zero => exact q'.elim
  | succ m =>
    refine sc σ' H' ρ' S' μ' G' _ _ A' q' fun z H1 S1 μ1 G1 s1 A1 q1 => ?_
    have s2 := s'.trans s1
    have k2 := k.go s2
    cases z with
    | true =>
      refine ⟨fun σ2 H2 => ∃ ρ2 S2 μ2 G2, Ag (dc X b) σ2 H2 ρ2 S2 μ2 G2 ∧ Stp H μ G H2 μ2 G2 ∧ whileN ft g m Dd ρ2 S2, ?_, ?_⟩
      · rintro σ2 H2 ⟨ρ2, S2, μ2, G2, A2, s3, q2⟩
        exact ⟨m, Nat.lt_succ_self m, ρ2, S2, μ2, G2, A2, s3, q2⟩
      · refine sb _ _ σ' H1 ρ' S1 μ1 G1 A1 q1 ?_
        exact ⟨fun σ4 H4 ρ4 S4 μ4 G4 s4 A4 q4 => ⟨ρ4, S4, μ4, G4, A4, s2.trans s4, q4⟩, k2.rt, k2.nx, fun σ4 H4 ρ4 S4 μ4 G4 s4 A4 q4 => ⟨ρ4, S4, μ4, G4, A4, s2.trans s4, q4⟩⟩
    | false => exact k2.nx σ' H1 ρ' S1 μ1 G1 (Stp.refl _ _ _) A1 q1
end
end DL
namespace DL
open PySem PySem.Spec PyProof.Rows L2
section
variable {c : Dc} {G G' H H' : Hp} {μ μ' : List Addr} {S S' : Store} {σ : L2.St} {ρ : Rho}
/-- an own object stays as it is -/
theorem Stp.stay (s : Stp H μ G H' μ' G') {p : Addr} {o : HO} (h : H p = some o) (hm : p ∉ μ) (hg : G p = none) : H' p = some o ∧ p ∉ μ' ∧ G' p = none := by
  refine ⟨s.fr p o h hm, fun z => ?_, ?_⟩
  · rcases s.nw p z with y | y
    · exact hm y
    · rw [h] at y; cases y
  · cases q : G' p with
    | none => rfl
    | some u =>
      rcases s.gn p u q with y | y | y
      · rw [hg] at y; cases y
      · rw [h] at y; cases y
      · exact absurd y hm
/-- .. is frozen -/
theorem Ag0.keep {H1 : Hp} {S1 : Store} {μ1 : List Addr} {G1 : Hp} (A1 : Ag0 c H1 S1 μ1 G1) (A : Ag0 c H S μ G) (s : Stp H1 μ1 G1 H μ G) {p : Addr} {o : HO} (h1 : H1 p = none) (hm : p ∉ μ) (hg : G p = none) (h : H p = some o) :
    Ag0 c H S μ (upd G p o) ∧ Stp H1 μ1 G1 H μ (upd G p o) ∧ Same G (upd G p o) := by
  have sg : Same G (upd G p o) := same_new hg
  have st : Stp H1 μ1 G1 H μ (upd G p o) := ⟨s.sg.trans sg, s.mu, s.fr, s.nw, fun a u hu => by
    by_cases e : a = p
    · exact .inr (.inl (e ▸ h1))
    · rw [upd_ne e] at hu; exact s.gn a u hu⟩
  refine ⟨⟨fun b u e => ?_, A.len, A.nd, fun n a cl hn hs => ?_, A1.base.trans st⟩, st, sg⟩
  · by_cases hb : b = p
    · subst hb; rw [upd_same] at e; cases e; exact h
    · rw [upd_ne hb] at e; exact A.same b u e
  · have q := A.cell n a cl hn hs
    have na : a ≠ p := fun e => hm (e ▸ List.mem_of_getElem? hn)
    cases cl with
    | dead => exact q
    | lst ds =>
      obtain ⟨h1, vs, h2, h3⟩ := q
      exact ⟨by rw [upd_ne na]; exact h1, vs, h2, h3.mono sg (fun _ _ h => h) _ _⟩
/-- .. becomes a cell -/
theorem Ag0.adopt {H1 : Hp} {S1 : Store} {μ1 : List Addr} {G1 : Hp} (A1 : Ag0 c H1 S1 μ1 G1) (A : Ag0 c H S μ G) (s : Stp H1 μ1 G1 H μ G) {p : Addr} {vs : List V} {ds : List D} (h1 : H1 p = none) (hm : p ∉ μ) (hg : G p = none) (h : H p = some (.lst vs)) (r : Reps c G μ vs ds) :
    Ag0 c H (S ++ [.lst ds]) (μ ++ [p]) G ∧ Stp H1 μ1 G1 H (μ ++ [p]) G := by
  have mono : ∀ (n : Nat) (a : Addr), μ[n]? = some a → (μ ++ [p])[n]? = some a := fun _ _ h => getElem?_snoc_old h
  have st : Stp H1 μ1 G1 H (μ ++ [p]) G := ⟨s.sg, fun n a z => mono n a (s.mu n a z), s.fr, fun a ha => by
    rcases List.mem_append.mp ha with z | z
    · exact s.nw a z
    · have e : a = p := by simpa using z
      exact .inr (e ▸ h1), s.gn⟩
  refine ⟨⟨A.same, by simp [A.len], ?_, fun n a cl hn hs => ?_, A1.base.trans st⟩, st⟩
  · rw [List.nodup_append]
    refine ⟨A.nd, by simp, fun x hx y hy e => ?_⟩
    have e2 : y = p := by simpa using hy
    subst e; subst e2
    exact hm hx
  · rcases getElem?_snoc hn with hn | ⟨hnl, ea⟩
    · have hl : n < S.length := by rw [← A.len]; exact (List.getElem?_eq_some_iff.mp hn).1
      rw [List.getElem?_append_left hl] at hs
      have q := A.cell n a cl hn hs
      cases cl with
      | dead => exact q
      | lst ds =>
        obtain ⟨h1, vs, h2, h3⟩ := q
        exact ⟨h1, vs, h2, h3.mono (Same.refl _) mono _ _⟩
    · subst ea
      rw [hnl, A.len, List.getElem?_append_right (Nat.le_refl _), Nat.sub_self] at hs
      have e : cl = .lst ds := by simpa using hs.symm
      subst e
      exact ⟨hg, vs, h, r.mono (Same.refl _) mono _ _⟩
end

/-! ### comprehensions -/
def compL (tg : Tg) (ok : Store → Prop) (ft : WT) (fe : WE) (vs : List Nat) (ρ : Rho) : List D → Store → (List D → Store → Prop) → Prop
  | [], S, Q => ok S ∧ Q [] S
  | x :: xs, S, Q => ok S ∧ match tg.put x (wipeD ρ vs) with
    | some ρ' => ft ρ' S fun k S1 => if k = true then fe ρ' S1 fun y S2 => compL tg ok ft fe vs ρ xs S2 fun ys S3 => Q (y :: ys) S3 else compL tg ok ft fe vs ρ xs S1 Q
    | none => False
def lcW (wi : WI) (tg : Tg) (ft : WT) (fe : WE) (vs : List Nat) : WE := fun ρ S Q => wi ρ S fun ds ok S1 => ds.length < sizeLine ∧ compL tg ok ft fe vs ρ ds S1 fun ys S2 => Q (.lst ys) S2
/-- .. as a new cell -/
def lcN (wi : WI) (tg : Tg) (ft : WT) (fe : WE) (vs : List Nat) : WE := fun ρ S Q => wi ρ S fun ds ok S1 => ds.length < sizeLine ∧ compL tg ok ft fe vs ρ ds S1 fun ys S2 => Q (.loc S2.length) (S2 ++ [.lst ys])
def yesW : WT := fun _ S Q => Q true S
theorem wipe_wipe (σ : L2.St) (vs : List Nat) : L2.wipe (L2.wipe σ vs) vs = L2.wipe σ vs := by
  have key : ∀ (ws us : List Nat), (∀ i ∈ ws, i ∈ us) → L2.wipe (L2.wipe σ ws) us = L2.wipe σ us := by
    intro ws
    induction ws with
    | nil => intro us _; rfl
    | cons w ws ih =>
      intro us h
      show L2.wipe ((L2.wipe σ ws).set w none) us = _
      rw [wipe_set (h w List.mem_cons_self)]
      exact ih us fun i hi => h i (List.mem_cons_of_mem _ hi)
  exact key vs vs fun _ h => h
section
variable {c : Dc} {X : Cx} {b : Bs}
theorem snd_lc0 {wi : TI} {f : WI} {tg : Tg} {tt : TT} {ft : WT} {te : TE} {fe : WE} {vs : List Nat} (hv : ∀ i ∈ tg.slots, i ∈ vs) (hi : SndI c wi f) (ht : SndT c tt ft) (he : SndE c te fe)
    {σ : L2.St} {H : Hp} {ρ : Rho} {S : Store} {μ : List Addr} {G : Hp} {Q : List D → Store → Prop} {R : VK} (A : Ag c σ H ρ S μ G)
    (h : f ρ S fun ds ok S1 => ds.length < sizeLine ∧ compL tg ok ft fe vs ρ ds S1 Q)
    (k : ∀ (H1 : Hp) (S1 : Store) (μ1 : List Addr) (G1 : Hp) (p : Addr) (xs : List V) (ds : List D) (H' : Hp) (S' : Store) (μ' : List Addr) (G' : Hp), Stp H μ G H1 μ1 G1 → Ag0 c H1 S1 μ1 G1 → H1 p = none → Stp H1 μ1 G1 H' μ' G' → Ag0 c H' S' μ' G' → p ∉ μ' → G' p = none → H' p = some (.lst xs) → Reps c G' μ' xs ds → Q ds S' → R (.ref p) H') :
    tLc wi (tgT c.K tg) tt te vs σ H R := by
  refine hi σ H ρ S μ G _ _ A h fun J H1 ds ok S1 μ1 G1 s1 A1 it q1 => ?_
  obtain ⟨hlen, q1⟩ := q1
  intro p np
  obtain ⟨pm, pg⟩ := A1.ag.fresh np
  obtain ⟨A0, s0⟩ := A1.ag.own A1.ag (Stp.refl _ _ _) (o := .lst []) np pm pg
  refine ⟨fun i m H' => ∃ S' μ' G' acc ys, Ag0 c H' S' μ' G' ∧ Stp H1 μ1 G1 H' μ' G' ∧ p ∉ μ' ∧ G' p = none ∧ H' p = some (.lst acc) ∧ Reps c G' μ' acc ys ∧ ys.length ≤ i ∧ i ≤ ds.length ∧ m = ds.length - i ∧
    compL tg ok ft fe vs ρ (ds.drop i) S' (fun zs S2 => Q (ys ++ zs) S2), ⟨ds.length, S1, μ1, G1, [], [], A0, s0, pm, pg, upd_same, .nil, Nat.le_refl _, Nat.zero_le _, rfl, q1⟩, ?_⟩
  rintro i m H' ⟨S', μ', G', acc, ys, A', s', pm', pg', hp', r', hy, hi', rfl, q'⟩
  by_cases hlt : i < ds.length
  · rw [List.drop_eq_getElem_cons hlt] at q'
    obtain ⟨o, q'⟩ := q'
    refine .inr ⟨it.go i H' S' μ' G' s'.ext A' o hlt, fun H2 => ∃ S2 μ2 G2 acc ys, Ag0 c H2 S2 μ2 G2 ∧ Stp H1 μ1 G1 H2 μ2 G2 ∧ p ∉ μ2 ∧ G2 p = none ∧ H2 p = some (.lst acc) ∧ Reps c G2 μ2 acc ys ∧ ys.length ≤ i + 1 ∧
      compL tg ok ft fe vs ρ (ds.drop (i + 1)) S2 (fun zs S2 => Q (ys ++ zs) S2), ?_, ?_⟩
    · rintro H2 ⟨S2, μ2, G2, acc2, ys2, A2, s2, pm2, pg2, hp2, r2, hy2, q2⟩
      exact ⟨ds.length - (i + 1), by omega, S2, μ2, G2, acc2, ys2, A2, s2, pm2, pg2, hp2, r2, hy2, hlt, rfl, q2⟩
    · intro x H2 y
      obtain ⟨G2, d, s2, A2, hd, r2⟩ := it.yld i H' S' μ' G' x H2 s'.ext A' o hlt y
      rw [List.getElem?_eq_getElem hlt] at hd
      cases hd
      split at q'
      · rename_i ρ2 e
        have B2 : Ag c (L2.wipe σ vs) H2 (wipeD ρ vs) S' μ' G2 := ((A1.go (s'.trans s2) A2)).wipe vs
        refine Tg.ok B2 r2 e fun σ3 A3 hw => ⟨by rw [hw vs hv, wipe_wipe], ?_⟩
        obtain ⟨hp2, pm2, pg2⟩ := s2.stay hp' pm' pg'
        refine ht σ3 H2 ρ2 S' μ' G2 _ _ A3 q' fun z H3 S3 μ3 G3 s3 A4 q3 => ?_
        obtain ⟨hp3, pm3, pg3⟩ := s3.stay hp2 pm2 pg2
        cases z with
        | false =>
          rw [if_neg Bool.false_ne_true] at q3 ⊢
          exact ⟨S3, μ3, G3, acc, ys, A4.ag, (s'.trans s2).trans s3, pm3, pg3, hp3, (r'.go s2).go s3, by omega, q3⟩
        | true =>
          rw [if_pos rfl] at q3 ⊢
          refine he σ3 H3 ρ2 S3 μ3 G3 _ _ A4 q3 fun v H4 d S4 μ4 G4 s4 A5 r4 q4 => ?_
          obtain ⟨hp4, pm4, pg4⟩ := s4.stay hp3 pm3 pg3
          have s5 := ((s'.trans s2).trans s3).trans s4
          obtain ⟨A6, s6⟩ := A1.ag.own A5.ag s5 (o := .lst (acc ++ [v])) np pm4 pg4
          refine ⟨acc, hp4, by rw [r'.length]; omega, S4, μ4, G4, acc ++ [v], ys ++ [d], A6, s6, pm4, pg4, upd_same, (((r'.go s2).go s3).go s4).append (.one r4), by simp; omega, ?_⟩
          simp only [List.append_assoc, List.singleton_append]
          exact q4
      · exact q'.elim
  · have e : i = ds.length := by omega
    subst e
    rw [List.drop_length] at q'
    have q2 : Q (ys ++ []) S' := q'.2
    rw [List.append_nil] at q2
    exact .inl ⟨it.stop H' S' μ' G' s'.ext A' q'.1, k H1 S1 μ1 G1 p acc ys H' S' μ' G' s1 A1.ag np s' A' pm' pg' hp' r' q2⟩
theorem snd_lc {wi : TI} {f : WI} {tg : Tg} {tt : TT} {ft : WT} {te : TE} {fe : WE} {vs : List Nat} (hv : ∀ i ∈ tg.slots, i ∈ vs) (hi : SndI c wi f) (ht : SndT c tt ft) (he : SndE c te fe) : SndE c (tLc wi (tgT c.K tg) tt te vs) (lcW f tg ft fe vs) := by
  intro σ H ρ S μ G Q R A h k
  refine snd_lc0 hv hi ht he (Q := fun ys S2 => Q (.lst ys) S2) A h fun H1 S1 μ1 G1 p xs ds H' S' μ' G' s1 A1 np s' A' pm pg hp r q => ?_
  obtain ⟨A2, s2, sg⟩ := A1.keep A' s' np pm pg hp
  exact k _ H' _ S' μ' _ (s1.trans s2) (A.go (s1.trans s2) A2) (.lst upd_same (r.mono sg (fun _ _ h => h) _ _)) q
theorem snd_lcN {wi : TI} {f : WI} {tg : Tg} {tt : TT} {ft : WT} {te : TE} {fe : WE} {vs : List Nat} (hv : ∀ i ∈ tg.slots, i ∈ vs) (hi : SndI c wi f) (ht : SndT c tt ft) (he : SndE c te fe) : SndE c (tLc wi (tgT c.K tg) tt te vs) (lcN f tg ft fe vs) := by
  intro σ H ρ S μ G Q R A h k
  refine snd_lc0 hv hi ht he (Q := fun ys S2 => Q (.loc S2.length) (S2 ++ [Cell.lst ys])) A h fun H1 S1 μ1 G1 p xs ds H' S' μ' G' s1 A1 np s' A' pm pg hp r q => ?_
  obtain ⟨A2, s2⟩ := A1.adopt A' s' np pm pg hp r
  exact k _ H' _ _ _ _ (s1.trans s2) (A.go (s1.trans s2) A2) A'.newL q
abbrev Blk (X : Cx) (scope : Scope) (φ : Cx → Prop) : Prop := ∀ (s : Shared) (H : Hp) (C : Addr) (cl : List (Str × Addr)) (fp : List Addr), φ (X.blk s H scope (compEnvC scope cl C X.env) fp)
structure DTs (X : Cx) (b : Bs) (ifs : List Expr) (f : WT) : Prop where
  pe : PTs X ifs (rdT (dc X b) f)
theorem dts_nil : DTs X b [] yesW := ⟨⟨fun pins s σ H Q I q => by
  obtain ⟨ρ, S, μ, G, Q', A, q1, q2⟩ := q
  exact pts_nil.run pins s σ H Q I (q2 true H S μ G (Stp.refl _ _ _) A q1)⟩⟩
theorem dts_one {e : Expr} {f : WT} (h : DT X b e f) : DTs X b [e] f := ⟨pts_one h.can⟩
variable {elt tgx iter : Expr} {ifs : List Expr} {scope : Scope} {own : List (Str × Nat)} {pos : Pos} {f : WI} {tg : Tg} {ft : WT} {fe : WE}
theorem de_lc (hc : X.calm = true) (hN : X.N.Nodup) (hv : ∀ i ∈ tg.slots, i ∈ own.map (·.2)) (hi : DI X b tgx iter f) (ok : BlkOk X.N X.env.scope scope own) (hg : Blk X scope fun Y => DG Y tgx tg) (ht : Blk X scope fun Y => DTs Y b ifs ft) (he : Blk X scope fun Y => DE Y b elt fe)
    (hs : ∀ x, foldedSetIterable iter X.env x = pure x := by intro _; rfl) : DE X b (.ListComp elt [⟨tgx, iter, ifs, 0⟩] scope pos) (lcW f tg ft fe (own.map (·.2))) :=
  ⟨_, pe_lc (te := rdE (dc X b) fe) (tt := rdT (dc X b) ft) hc hN hi.can ok hg (fun s H C cl fp => (ht s H C cl fp).pe) (fun s H C cl fp => (he s H C cl fp).can) hs, snd_lc hv sndI_can sndT_can sndE_can⟩
theorem de_lcN (hc : X.calm = true) (hN : X.N.Nodup) (hv : ∀ i ∈ tg.slots, i ∈ own.map (·.2)) (hi : DI X b tgx iter f) (ok : BlkOk X.N X.env.scope scope own) (hg : Blk X scope fun Y => DG Y tgx tg) (ht : Blk X scope fun Y => DTs Y b ifs ft) (he : Blk X scope fun Y => DE Y b elt fe)
    (hs : ∀ x, foldedSetIterable iter X.env x = pure x := by intro _; rfl) : DE X b (.ListComp elt [⟨tgx, iter, ifs, 0⟩] scope pos) (lcN f tg ft fe (own.map (·.2))) :=
  ⟨_, pe_lc (te := rdE (dc X b) fe) (tt := rdT (dc X b) ft) hc hN hi.can ok hg (fun s H C cl fp => (ht s H C cl fp).pe) (fun s H C cl fp => (he s H C cl fp).can) hs, snd_lcN hv sndI_can sndT_can sndE_can⟩
/-- name = [..] -/
theorem ds_setLc (i : Nat) {y : Str} {py spos : Pos} (hc : X.calm = true) (hN : X.N.Nodup) (hv : ∀ i ∈ tg.slots, i ∈ own.map (·.2)) (hy : X.N[i]? = some y) (hyl : X.env.scope.names.lookup y = some .local)
    (hsw : swapsWith (.ListComp elt [⟨tgx, iter, ifs, 0⟩] scope pos) (some (.Name y py)) spos.line X.env = pure true) (hi : DI X b tgx iter f) (ok : BlkOk X.N X.env.scope scope own) (hg : Blk X scope fun Y => DG Y tgx tg) (ht : Blk X scope fun Y => DTs Y b ifs ft) (he : Blk X scope fun Y => DE Y b elt fe)
    (hs : ∀ x, foldedSetIterable iter X.env x = pure x := by intro _; rfl) : DS X b (.Assign [.Name y py] (.ListComp elt [⟨tgx, iter, ifs, 0⟩] scope pos) spos) (asgW (.nm i) (lcW f tg ft fe (own.map (·.2)))) :=
  ⟨_, ps_setLc (te := rdE (dc X b) fe) (tt := rdT (dc X b) ft) hc hN hy hyl hsw hi.can ok hg (fun s H C cl fp => (ht s H C cl fp).pe) (fun s H C cl fp => (he s H C cl fp).can) hs, snd_asg (tg := .nm i) (snd_lc hv sndI_can sndT_can sndE_can)⟩
theorem ds_setLcN (i : Nat) {y : Str} {py spos : Pos} (hc : X.calm = true) (hN : X.N.Nodup) (hv : ∀ i ∈ tg.slots, i ∈ own.map (·.2)) (hy : X.N[i]? = some y) (hyl : X.env.scope.names.lookup y = some .local)
    (hsw : swapsWith (.ListComp elt [⟨tgx, iter, ifs, 0⟩] scope pos) (some (.Name y py)) spos.line X.env = pure true) (hi : DI X b tgx iter f) (ok : BlkOk X.N X.env.scope scope own) (hg : Blk X scope fun Y => DG Y tgx tg) (ht : Blk X scope fun Y => DTs Y b ifs ft) (he : Blk X scope fun Y => DE Y b elt fe)
    (hs : ∀ x, foldedSetIterable iter X.env x = pure x := by intro _; rfl) : DS X b (.Assign [.Name y py] (.ListComp elt [⟨tgx, iter, ifs, 0⟩] scope pos) spos) (asgW (.nm i) (lcN f tg ft fe (own.map (·.2)))) :=
  ⟨_, ps_setLc (te := rdE (dc X b) fe) (tt := rdT (dc X b) ft) hc hN hy hyl hsw hi.can ok hg (fun s H C cl fp => (ht s H C cl fp).pe) (fun s H C cl fp => (he s H C cl fp).can) hs, snd_asg (tg := .nm i) (snd_lcN hv sndI_can sndT_can sndE_can)⟩
end
end DL
namespace DL
open PySem PySem.Spec PyProof.Rows L2

/-! ### below a place of the store -/
mutual
def D.blw (k : Nat) : D → Bool
  | .loc n => decide (n < k)
  | .tup ds => Ds.blw k ds
  | .lst ds => Ds.blw k ds
  | .rol ds => Ds.blw k ds
  | .non => true
  | .bl _ => true
  | .int _ => true
  | .str _ => true
  | .ty _ => true
def Ds.blw (k : Nat) : List D → Bool
  | [] => true
  | d :: ds => D.blw k d && Ds.blw k ds
end
def Cell.blw (k : Nat) : Cell → Bool
  | .dead => true
  | .lst ds => Ds.blw k ds
theorem Ds.blw_ints (k : Nat) : ∀ ns : List Int, Ds.blw k (ns.map D.int) = true
  | [] => rfl
  | n :: ns => by
    show (D.blw k (.int n) && Ds.blw k (ns.map D.int)) = true
    rw [Ds.blw_ints k ns]; rfl
section
variable {c c' : Dc} {G G' H H' : Hp} {μ μ' : List Addr} {S S' : Store} {σ : L2.St} {ρ : Rho}
mutual
theorem Rep.cut {k : Nat} : ∀ (d : D) (v : V), Rep c G μ v d → D.blw k d = true → Rep c G (μ.take k) v d
  | .non, _, h, _ => by cases h; exact .non
  | .bl _, _, h, _ => by cases h; exact .bl _
  | .int _, _, h, _ => by cases h; exact .int _
  | .str _, _, h, _ => by cases h; exact .str _
  | .ty _, _, h, _ => by cases h; exact .ty _
  | .tup ds, _, h, q => by
    cases h with
    | tup h1 h2 => exact .tup h1 (Reps.cut ds _ h2 q)
  | .lst ds, _, h, q => by
    cases h with
    | lst h1 h2 => exact .lst h1 (Reps.cut ds _ h2 q)
  | .rol ds, _, h, q => by
    cases h with
    | rol h1 h2 => exact .rol h1 (Reps.cut ds _ h2 q)
  | .loc n, _, h, q => by
    cases h with
    | loc h1 =>
      have hn : n < k := of_decide_eq_true q
      exact .loc (by rw [List.getElem?_take_of_lt hn]; exact h1)
theorem Reps.cut {k : Nat} : ∀ (ds : List D) (vs : List V), Reps c G μ vs ds → Ds.blw k ds = true → Reps c G (μ.take k) vs ds
  | [], _, h, _ => by cases h; exact .nil
  | d :: ds, _, h, q => by
    have q' := Bool.and_eq_true_iff.mp (show (D.blw k d && Ds.blw k ds) = true from q)
    cases h with
    | cons h1 h2 => exact .cons (Rep.cut d _ h1 q'.1) (Reps.cut ds _ h2 q'.2)
end
mutual
theorem Rep.blw : ∀ (d : D) (v : V), Rep c G μ v d → D.blw μ.length d = true
  | .non, _, _ => rfl
  | .bl _, _, _ => rfl
  | .int _, _, _ => rfl
  | .str _, _, _ => rfl
  | .ty _, _, _ => rfl
  | .tup ds, _, h => by
    cases h with
    | tup h1 h2 => exact Reps.blw ds _ h2
  | .lst ds, _, h => by
    cases h with
    | lst h1 h2 => exact Reps.blw ds _ h2
  | .rol ds, _, h => by
    cases h with
    | rol h1 h2 => exact Reps.blw ds _ h2
  | .loc n, _, h => by
    cases h with
    | loc h1 => exact decide_eq_true (List.getElem?_eq_some_iff.mp h1).1
theorem Reps.blw : ∀ (ds : List D) (vs : List V), Reps c G μ vs ds → Ds.blw μ.length ds = true
  | [], _, _ => rfl
  | d :: ds, _, h => by
    cases h with
    | cons h1 h2 => exact Bool.and_eq_true_iff.mpr ⟨Rep.blw d _ h1, Reps.blw ds _ h2⟩
end
mutual
theorem Rep.re (e : c.K = c'.K) : ∀ (d : D) (v : V), Rep c G μ v d → Rep c' G μ v d
  | .non, _, h => by cases h; exact .non
  | .bl _, _, h => by cases h; exact .bl _
  | .int _, _, h => by cases h; exact .int _
  | .str _, _, h => by cases h; exact .str _
  | .ty _, _, h => by cases h; exact .ty _
  | .tup ds, _, h => by
    cases h with
    | tup h1 h2 => exact .tup (e ▸ h1) (Reps.re e ds _ h2)
  | .lst ds, _, h => by
    cases h with
    | lst h1 h2 => exact .lst h1 (Reps.re e ds _ h2)
  | .rol ds, _, h => by
    cases h with
    | rol h1 h2 => exact .rol (e ▸ h1) (Reps.re e ds _ h2)
  | .loc n, _, h => by
    cases h with
    | loc h1 => exact .loc h1
theorem Reps.re (e : c.K = c'.K) : ∀ (ds : List D) (vs : List V), Reps c G μ vs ds → Reps c' G μ vs ds
  | [], _, h => by cases h; exact .nil
  | d :: ds, _, h => by
    cases h with
    | cons h1 h2 => exact .cons (Rep.re e d _ h1) (Reps.re e ds _ h2)
end
theorem RepC.re (e : c.K = c'.K) {a : Addr} : ∀ {cl : Cell}, RepC c G μ H a cl → RepC c' G μ H a cl
  | .dead, h => h
  | .lst _, ⟨h1, vs, h2, h3⟩ => ⟨h1, vs, h2, h3.re e _ _⟩
theorem Ag0.re (e : c.K = c'.K) (A : Ag0 c H S μ G) (s : Stp c'.H0 c'.μ0 c'.G0 H μ G) : Ag0 c' H S μ G := ⟨A.same, A.len, A.nd, fun n a cl h1 h2 => (A.cell n a cl h1 h2).re e, s⟩
theorem Ag0.allBelow (A : Ag0 c H S μ G) : S.all (Cell.blw S.length) = true := by
  rw [List.all_eq_true]
  intro cl hc
  obtain ⟨n, hn⟩ := List.getElem?_of_mem hc
  have hl : n < μ.length := by rw [A.len]; exact (List.getElem?_eq_some_iff.mp hn).1
  have q := A.cell n _ cl (List.getElem?_eq_getElem hl) hn
  cases cl with
  | dead => rfl
  | lst ds =>
    obtain ⟨_, vs, _, r⟩ := q
    rw [← A.len]
    exact r.blw _ _
/-- the cells behind a place are let go -/
theorem Ag0.cut (A : Ag0 c H S μ G) {k : Nat} (hk : k ≤ S.length) (hb : (S.take k).all (Cell.blw k) = true) (s : Stp c.H0 c.μ0 c.G0 H (μ.take k) G) : Ag0 c H (S.take k) (μ.take k) G := by
  refine ⟨A.same, by rw [List.length_take, List.length_take, A.len], A.nd.sublist (List.take_sublist _ _), fun n a cl hn hs => ?_, s⟩
  have hnk : n < k := by
    have := (List.getElem?_eq_some_iff.mp hn).1
    rw [List.length_take] at this
    omega
  have hs' := hs
  rw [List.getElem?_take_of_lt hnk] at hn hs
  have q := A.cell n a cl hn hs
  have bb := List.all_eq_true.mp hb cl (List.mem_of_getElem? hs')
  cases cl with
  | dead => exact q
  | lst ds =>
    obtain ⟨h1, vs, h2, h3⟩ := q
    exact ⟨h1, vs, h2, h3.cut _ _ bb⟩
theorem Stp.cut (s : Stp H μ G H' μ' G') {k : Nat} (h : μ.length ≤ k) : Stp H μ G H' (μ'.take k) G' :=
  ⟨s.sg, fun n a e => by
    have hn : n < k := Nat.lt_of_lt_of_le (List.getElem?_eq_some_iff.mp e).1 h
    rw [List.getElem?_take_of_lt hn]; exact s.mu n a e, s.fr, fun a ha => s.nw a (List.mem_of_mem_take ha), s.gn⟩
end

/-! ### what a def is worth -/
abbrev Mir := List D → Store → DQ → Prop
def spD (K : PySem.W.Frag) (mg : Str → Option Value) (m : Mir) : Sp := fun vs H Q _ => ∃ (ds : List D) (S : Store) (μ : List Addr) (G : Hp) (Qd : DQ),
  Reps ⟨K, mg, H, μ, G⟩ G μ vs ds ∧ Ag0 ⟨K, mg, H, μ, G⟩ H S μ G ∧ m ds S Qd ∧
  ∀ v H' d S' μ' G', Stp H μ G H' μ' G' → Ag0 ⟨K, mg, H, μ, G⟩ H' S' μ' G' → Rep ⟨K, mg, H, μ, G⟩ G' μ' v d → Qd d S' → Q v H'
/-- the end of a def: own cells are let go -/
def exitQ (n : Nat) (Q : DQ) : DQ := fun d S => Q d S ∨ ∃ k, n ≤ k ∧ k ≤ S.length ∧ (S.take k).all (Cell.blw k) = true ∧
  ((D.blw k d = true ∧ Q d (S.take k)) ∨ ∃ m xs, d = .loc m ∧ k ≤ m ∧ S[m]? = some (.lst xs) ∧ Ds.blw k xs = true ∧ Q (.lst xs) (S.take k))
theorem exit_drop {S J : Store} {Q : DQ} {d : D} (hS : S.all (Cell.blw S.length) = true) (hd : D.blw S.length d = true) (q : Q d S) : exitQ S.length Q d (S ++ J) := by
  refine .inr ⟨S.length, Nat.le_refl _, by simp, ?_, .inl ⟨hd, ?_⟩⟩
  · rw [List.take_left]; exact hS
  · rw [List.take_left]; exact q
theorem exit_lst {S J : Store} {Q : DQ} {xs : List D} (hS : S.all (Cell.blw S.length) = true) (hx : Ds.blw S.length xs = true) (q : Q (.lst xs) S) : exitQ S.length Q (.loc S.length) (S ++ .lst xs :: J) := by
  refine .inr ⟨S.length, Nat.le_refl _, by simp, ?_, .inr ⟨S.length, xs, rfl, Nat.le_refl _, by simp, hx, ?_⟩⟩
  · rw [List.take_left]; exact hS
  · rw [List.take_left]; exact q
def startD (N : List Str) (ds : List D) : Rho := ds.map some ++ List.replicate (N.length - ds.length) none
theorem lk_append_left : ∀ {xs : List D} {r : Rho} {i : Nat} {d : D}, i < xs.length → lk (xs.map some ++ r) i = some d → xs[i]? = some d
  | [], _, _, _, h, _ => by simp at h
  | x :: xs, r, 0, d, _, e => by
    have e' : some x = some d := e
    cases e'; rfl
  | x :: xs, r, i + 1, d, h, e => lk_append_left (xs := xs) (i := i) (by simpa using h) e
theorem lk_start {N : List Str} {ds : List D} {i : Nat} {d : D} (h : lk (startD N ds) i = some d) : ds[i]? = some d := by
  unfold startD at h
  by_cases hi : i < ds.length
  · exact lk_append_left hi h
  · exfalso
    have key : ∀ (xs : List D) (m i : Nat), ¬ i < xs.length → lk (xs.map some ++ List.replicate m none) i = none := by
      intro xs
      induction xs with
      | nil =>
        intro m
        induction m with
        | zero => intro i _; rfl
        | succ m ih =>
          intro i _
          cases i with
          | zero => rfl
          | succ i => exact ih i (by simp)
      | cons x xs ih =>
        intro m i hi
        cases i with
        | zero => simp at hi
        | succ i => exact ih m i (by simpa using hi)
    rw [key ds _ i hi] at h
    cases h
section
variable {P : Program} {w : World} {K : PySem.W.Frag} {mg : Str → Option Value} {base : Heap}
theorem fn_data {x qual : Str} {st : Stmt} {f : Addr} {fd : FuncData} {N ps : List Str} {k : Nat} {m : Mir} {g : WS} (F : Fun K x qual st f fd) (Sc : FnScope N ps (defScope st)) (hl : ∀ ds S Q, m ds S Q → ds.length = ps.length)
    (body : ∀ (cdv : Value) (A : Around) (outer : List Env) (s : Shared) (H : Hp) (E : XK) (b : Bs), Room k (A.deeper (envOfC qual (defScope st) s.heap.objs.size f cdv)) → DSs (cxOf (L2.CX P w) P w K mg base N qual (defScope st) f cdv A outer s H E).nox b (defBody st) g)
    (spec : ∀ ds S (Q : DQ), S.all (Cell.blw S.length) = true → m ds S Q → g { nx := fun _ S' => exitQ S.length Q .non S', rt := exitQ S.length Q } (startD N ds) S) :
    FnOk P w K mg base (L2.CX P w) (k + 1) f fd ps (spD K mg m) := by
  refine F.okX Sc (fun vs H Q E h => ?_) (fun cdv A outer s H vs Q E hr h => ?_)
  · obtain ⟨ds, S, μ, G, Qd, r, a, hm, hk⟩ := h
    rw [r.length]; exact hl _ _ _ hm
  · obtain ⟨ds, S, μ, G, Qd, r, a, hm, hk⟩ := h
    obtain ⟨t, pt, stt⟩ := (body cdv A outer s H E ⟨H, μ, G⟩ hr).ex
    refine ⟨t, pt.nox, ?_⟩
    have ar : Ag ⟨K, mg, H, μ, G⟩ (L2.start N vs) H (startD N ds) S μ G := by
      refine ⟨a, by simp [L2.start, startD, r.length], fun i d hd => ?_⟩
      obtain ⟨v, h1, h2⟩ := r.get (lk_start hd)
      refine ⟨v, ?_, h2⟩
      unfold L2.start
      rw [List.getElem?_append_left (by rw [List.length_map]; exact (List.getElem?_eq_some_iff.mp h1).1), List.getElem?_map, h1]
      rfl
    have ends : ∀ (v : V) (H' : Hp) (d : D) (S' : Store) (μ' : List Addr) (G' : Hp), Stp H μ G H' μ' G' → Ag0 ⟨K, mg, H, μ, G⟩ H' S' μ' G' → Rep ⟨K, mg, H, μ, G⟩ G' μ' v d → exitQ S.length Qd d S' → Q v H' := by
      intro v H' d S' μ' G' s' A' r' q
      rcases q with q | ⟨k, h1, h2, h4, q⟩
      · exact hk v H' d S' μ' G' s' A' r' q
      · have s2 : Stp H μ G H' (μ'.take k) G' := s'.cut (by rw [a.len]; exact h1)
        rcases q with ⟨h3, q⟩ | ⟨m, xs, rfl, hm, hx, hb, q⟩
        · exact hk v H' d _ _ G' s2 (A'.cut h2 h4 s2) (r'.cut _ _ h3) q
        · cases r' with
          | @loc aa _ hn =>
            obtain ⟨g0, vs, hv, rv⟩ := A'.cell m aa _ hn hx
            have C := A'.cut h2 h4 s2
            have ma : aa ∉ μ'.take k := fun z => by
              obtain ⟨j, hj⟩ := List.getElem?_of_mem z
              have jk : j < k := by
                have := (List.getElem?_eq_some_iff.mp hj).1
                rw [List.length_take] at this
                omega
              rw [List.getElem?_take_of_lt jk] at hj
              have := nd_ix A'.nd hj hn
              omega
            have na : H aa = none := by
              rcases s'.nw aa (List.mem_of_getElem? hn) with z | z
              · exfalso
                obtain ⟨j, hj⟩ := List.getElem?_of_mem z
                have h5 := s'.mu j aa hj
                have jl : j < k := Nat.lt_of_lt_of_le (by have := (List.getElem?_eq_some_iff.mp hj).1; rw [a.len] at this; exact this) h1
                have := nd_ix A'.nd h5 hn
                omega
              · exact z
            obtain ⟨C2, s3, sg⟩ := a.keep C s2 na ma g0 hv
            exact hk _ H' (.lst xs) _ _ _ s3 C2 (.lst upd_same ((rv.cut _ _ hb).mono sg (fun _ _ h => h) _ _)) q
    exact stt _ _ (L2.start N vs) H (startD N ds) S μ G ar (spec ds S Qd a.allBelow hm)
      ⟨fun σ' H' ρ' S' μ' G' s' A' q => ends .non H' .non S' μ' G' s' A'.ag .non q, ends, fun _ _ _ _ _ _ _ _ q => q.elim, fun _ _ _ _ _ _ _ _ q => q.elim⟩
end
section
variable {X : Cx} {b : Bs} {e : Expr} {es : List Expr} {fs : WA} {pos : Pos}
theorem snd_fn {c : Dc} {m : Mir} {t : TA} {E : XK} (hs : SndA c t fs) : SndE c (tCall (spD c.K c.mg m) [] E t) (clW m fs) := by
  intro σ H ρ S μ G Q R A h k
  refine hs σ H ρ S μ G _ _ A h fun vs H1 ds S1 μ1 G1 s1 A1 r1 q1 => ?_
  rw [List.append_nil]
  refine ⟨ds, S1, μ1, G1, Q, Reps.re (c := c) (c' := ⟨c.K, c.mg, H1, μ1, G1⟩) rfl _ _ r1, Ag0.re (c := c) (c' := ⟨c.K, c.mg, H1, μ1, G1⟩) rfl A1.ag (Stp.refl _ _ _), q1, fun v H' d S' μ' G' s' A' r' q' => ?_⟩
  exact k v H' d S' μ' G' (s1.trans s') (A1.go s' (Ag0.re (c := ⟨c.K, c.mg, H1, μ1, G1⟩) (c' := c) rfl A' (A1.ag.base.trans s'))) (Rep.re (c := ⟨c.K, c.mg, H1, μ1, G1⟩) (c' := c) rfl _ _ r') q'
/-- f(..), f a def of the text that lets nothing out -/
theorem de_call {m : Mir} {x : Str} {p : Pos} {k : Nat} {f : Addr} {fd : FuncData} {ps : List Str} (F : FnOk X.prog X.w X.K X.mg X.base (L2.CX X.prog X.w) k f fd ps (spD X.K X.mg m)) (hr : Room k X.A) (hg : Gl X x) (hm : X.mg x = some (.ref f)) (hk : PySem.W.keepIn X.K (.ref f) = true) (hb : Binds X.K fd ps [])
    (ha : DA X b (e :: es) fs) (hdb : (x == ("__debug__" : Str)) = false := by decide) (he : starEach (e :: es) X.env = (false, eval e X.env) :: starEach es X.env := by rfl) (hpl : (backTo pos (starEach es X.env)).any (·.1) = false := by rfl) :
    DE X b (.Call (.Name x p) (e :: es) [] pos) (clW m fs) := by
  obtain ⟨t, pt, st⟩ := ha.ex
  exact ⟨_, pe_call F hr hg hm hk hb .nil passL pt hdb he hpl, snd_fn st⟩
theorem de_call0 {m : Mir} {x : Str} {p : Pos} {k : Nat} {f : Addr} {fd : FuncData} {ps : List Str} (F : FnOk X.prog X.w X.K X.mg X.base (L2.CX X.prog X.w) k f fd ps (spD X.K X.mg m)) (hr : Room k X.A) (hg : Gl X x) (hm : X.mg x = some (.ref f)) (hk : PySem.W.keepIn X.K (.ref f) = true) (hb : Binds X.K fd ps [])
    (hdb : (x == ("__debug__" : Str)) = false := by decide) : DE X b (.Call (.Name x p) [] [] pos) (clW m nilW) := by
  refine ⟨_, pe_call0 F hr hg hm hk hb .nil passL hdb, snd_fn ?_⟩
  intro σ H ρ S μ G Q R A h k
  exact k [] H [] S μ G (Stp.refl _ _ _) A .nil h

/-! ### methods of lists -/
def appW (fo fa : WE) : WE := fun ρ S Q => fo ρ S fun o S1 => match o with
  | .loc n => match S1[n]? with
    | some (.lst _) => fa ρ S1 fun d S2 => match S2[n]? with
      | some (.lst ds) => ds.length < sizeLine ∧ Q .non (S2.set n (.lst (ds ++ [d])))
      | _ => False
    | _ => False
  | _ => False
theorem de_append {o a : Expr} {fo fa : WE} {apos : Pos} (ho : DE X b o fo) (ha : DE X b a fa) (hb : attributeBase o "append" X.env (eval o X.env) = eval o X.env := by rfl)
    (hl : (apos.endLine == pos.line) = true := by rfl)
    (hf : ((backTo pos (starEach [a] X.env)).all (fun x => !x.1) && (backToKw pos (keywordEach [] X.env)).all (fun x => x.1.isSome) && decide ([a].length + ([] : List Keyword).length + (if ([] : List Keyword).isEmpty then 0 else 1) < 30)) = true := by rfl)
    (hs : starEach [a] X.env = [(false, eval a X.env)] := by rfl) : DE X b (.Call (.Attribute o "append" apos) [a] [] pos) (appW fo fa) := by
  obtain ⟨to, po, so⟩ := ho.ex
  obtain ⟨ta, pa, sa⟩ := ha.ex
  refine ⟨_, pe_bm PySem.F.plainAttrs_list PySem.F.slot_list_append PySem.F.type_list_append mt_append po (pa_cons pa pa_nil hs) hb hf hl hs rfl, fun σ H ρ S μ G Q R A h k => ?_⟩
  refine so σ H ρ S μ G _ _ A h fun x H1 dx S1 μ1 G1 s1 A1 r1 q1 => ?_
  split at q1
  · rename_i n
    split at q1
    · rename_i ds0 e1
      cases r1 with
      | loc hn =>
        obtain ⟨vs0, h1, h2⟩ := A1.ag.at hn e1
        refine ⟨.inl ⟨rfl, _, SqL.of h1⟩, ?_⟩
        refine sa σ H1 ρ S1 μ1 G1 _ _ A1 q1 fun y H2 dy S2 μ2 G2 s2 A2 r2 q2 => ?_
        split at q2
        · rename_i ds e2
          have hn2 := s2.mu _ _ hn
          obtain ⟨vs, h3, h4⟩ := A2.ag.at hn2 e2
          obtain ⟨A3, s3⟩ := A2.ag.put hn2 e2 (h4.append (.one r2))
          exact ⟨_, vs, y, rfl, rfl, h3, by rw [h4.length]; exact q2.1, k .non _ .non _ μ2 G2 ((s1.trans s2).trans s3) (A2.go s3 A3) .non q2.2⟩
        · exact q2.elim
    · exact q1.elim
  · exact q1.elim
theorem sto_get {S J : Store} {k : Nat} : (S ++ J)[S.length + k]? = J[k]? := by
  rw [List.getElem?_append_right (Nat.le_add_right _ _), Nat.add_sub_cancel_left]
theorem sto_get0 {S J : Store} {c : Cell} : (S ++ c :: J)[S.length]? = some c := by simp
theorem sto_set0 {S J : Store} {c d : Cell} : (S ++ c :: J).set S.length d = S ++ d :: J := by simp
theorem appW_top {i : Nat} {fa : WE} {ρ : Rho} {S J : Store} {xs : List D} {Q : DQ} {d : D} (h : lk ρ i = some (.loc S.length)) (hf : ∀ Q' : DQ, Q' d (S ++ .lst xs :: J) → fa ρ (S ++ .lst xs :: J) Q') (hl : xs.length < sizeLine)
    (q : Q .non (S ++ .lst (xs ++ [d]) :: J)) : appW (vW i) fa ρ (S ++ .lst xs :: J) Q := by
  unfold appW vW
  rw [h]
  simp only [sto_get0]
  refine hf _ ?_
  simp only [sto_get0, sto_set0]
  exact ⟨hl, q⟩
def popAtW (fo fa : WE) : WE := fun ρ S Q => fo ρ S fun o S1 => match o with
  | .loc n => match S1[n]? with
    | some (.lst _) => fa ρ S1 fun d S2 => match d, S2[n]? with
      | .int i, some (.lst ds) => (-(2 ^ 63) ≤ i ∧ i < 2 ^ 63) ∧ match ixN ds.length i with
        | some j => match ds[j]? with
          | some y => Q y (S2.set n (.lst (ds.eraseIdx j)))
          | none => False
        | none => False
      | _, _ => False
    | _ => False
  | _ => False
theorem de_popAt {o a : Expr} {fo fa : WE} {apos : Pos} (ho : DE X b o fo) (ha : DE X b a fa) (hb : attributeBase o "pop" X.env (eval o X.env) = eval o X.env := by rfl)
    (hs : starEach [a] X.env = [(false, eval a X.env)] := by rfl) 
    (hl : (apos.endLine == pos.line) = true := by rfl)
    (hf : ((backTo pos (starEach [a] X.env)).all (fun x => !x.1) && (backToKw pos (keywordEach [] X.env)).all (fun x => x.1.isSome) && decide ([a].length + ([] : List Keyword).length + (if ([] : List Keyword).isEmpty then 0 else 1) < 30)) = true := by rfl) : DE X b (.Call (.Attribute o "pop" apos) [a] [] pos) (popAtW fo fa) := by
  obtain ⟨to, po, so⟩ := ho.ex
  obtain ⟨ta, pa, sa⟩ := ha.ex
  refine ⟨_, pe_bm PySem.F.plainAttrs_list PySem.F.slot_list_pop PySem.F.type_list_pop mt_popAt po (pa_cons pa pa_nil hs) hb hf hl hs rfl, fun σ H ρ S μ G Q R A h k => ?_⟩
  refine so σ H ρ S μ G _ _ A h fun x H1 dx S1 μ1 G1 s1 A1 r1 q1 => ?_
  split at q1
  · rename_i n
    split at q1
    · rename_i ds0 e1
      cases r1 with
      | loc hn =>
        obtain ⟨vs0, h1, h2⟩ := A1.ag.at hn e1
        refine ⟨.inl ⟨rfl, _, SqL.of h1⟩, ?_⟩
        refine sa σ H1 ρ S1 μ1 G1 _ _ A1 q1 fun y H2 dy S2 μ2 G2 s2 A2 r2 q2 => ?_
        split at q2
        · rename_i i ds e2
          obtain ⟨⟨l1, l2⟩, q2⟩ := q2
          split at q2
          · rename_i j e3
            split at q2
            · rename_i z e4
              cases r2
              have hn2 := s2.mu _ _ hn
              obtain ⟨vs, h3, h4⟩ := A2.ag.at hn2 e2
              obtain ⟨u, h5, h6⟩ := h4.get e4
              obtain ⟨A3, s3⟩ := A2.ag.put hn2 e2 (h4.eraseIdx j)
              exact ⟨_, vs, i, j, u, rfl, rfl, h3, l1, l2, by rw [h4.length]; exact (ixN_seq e3).1, h5, k u _ z _ μ2 G2 ((s1.trans s2).trans s3) (A2.go s3 A3) (h6.go s3) q2⟩
            · exact q2.elim
          · exact q2.elim
        · exact q2.elim
    · exact q1.elim
  · exact q1.elim
end
end DL
namespace DL
open PySem PySem.Spec PyProof.Rows L2
section
variable {X : Cx} {b : Bs} {c : Dc} {pos : Pos}

/-! ### chains of two comparisons -/
def chW (w w' : W2) (fa fb fc : WE) : WE := fun ρ S Q => fa ρ S fun x S1 => fb ρ S1 fun y S2 => w x y S2 fun z S3 => match z with
  | .bl k => if k = true then fc ρ S3 fun u S4 => w' y u S4 Q else Q (.bl false) S3
  | _ => False
theorem snd_ch {r r' : R2} {w w' : W2} {ta tb tc : TE} {fa fb fc : WE} (hr : Snd2 c r w) (hr' : Snd2 c r' w') (ha : SndE c ta fa) (hb : SndE c tb fb) (hc : SndE c tc fc) : SndE c (tChain r r' ta tb tc) (chW w w' fa fb fc) := by
  intro σ H ρ S μ G Q R A h k
  refine ha σ H ρ S μ G _ _ A h fun x H1 dx S1 μ1 G1 s1 A1 r1 q1 => ?_
  refine hb σ H1 ρ S1 μ1 G1 _ _ A1 q1 fun y H2 dy S2 μ2 G2 s2 A2 r2 q2 => ?_
  refine hr H2 S2 μ2 G2 x y dx dy _ _ A2.ag (r1.go s2) r2 q2 fun z H3 dz S3 μ3 G3 s3 A3 r3 q3 => ?_
  have s13 := (s1.trans s2).trans s3
  cases r3 with
  | bl kk =>
    refine ⟨kk, rfl, ?_⟩
    cases kk with
    | true =>
      refine hc σ H3 ρ S3 μ3 G3 _ _ (A2.go s3 A3) q3 fun u H4 du S4 μ4 G4 s4 A4 r4 q4 => ?_
      exact hr' H4 S4 μ4 G4 y u dy du Q R A4.ag ((r2.go s3).go s4) r4 q4 fun v H5 d S5 μ5 G5 s5 A5 r5 q5 => k v H5 d S5 μ5 G5 ((s13.trans s4).trans s5) (A4.go s5 A5) r5 q5
    | false => exact k _ H3 _ S3 μ3 G3 s13 (A2.go s3 A3) (.bl _) q3
  | _ => exact q3.elim
variable {a b' c' : Expr} {fa fb fc : WE}
theorem de_ch {op op' : CmpOp} {r r' : R2} {w w' : W2} (ho : OpR X (compareOp op) r) (hs : Snd2 (dc X b) r w) (ho' : OpR X (compareOp op') r') (hs' : Snd2 (dc X b) r' w') (ha : DE X b a fa) (hb : DE X b b' fb) (hc : DE X b c' fc)
    (hm : lastMarks [op, op'] [b', c'] = false := by with_unfolding_all rfl) : DE X b (.Compare a [op, op'] [b', c'] pos) (chW w w' fa fb fc) := by
  obtain ⟨ta, pa, sa⟩ := ha.ex
  obtain ⟨tb, pb, sb⟩ := hb.ex
  obtain ⟨tc, pc, sc⟩ := hc.ex
  exact ⟨_, pe_chain ho ho' pa pb pc hm, snd_ch hs hs' sa sb sc⟩
theorem dt_ch {op op' : CmpOp} {r r' : R2} {w w' : W2} (ho : OpR X (compareOp op) r) (hs : Snd2 (dc X b) r w) (ho' : OpR X (compareOp op') r') (hs' : Snd2 (dc X b) r' w') (ha : DE X b a fa) (hb : DE X b b' fb) (hc : DE X b c' fc)
    (hm : lastMarks [op, op'] [b', c'] = false := by with_unfolding_all rfl) : DT X b (.Compare a [op, op'] [b', c'] pos) (tsW (chW w w' fa fb fc)) := by
  obtain ⟨ta, pa, sa⟩ := ha.ex
  obtain ⟨tb, pb, sb⟩ := hb.ex
  obtain ⟨tc, pc, sc⟩ := hc.ex
  exact ⟨_, pt_chain ho ho' pa pb pc hm, snd_test (snd_ch hs hs' sa sb sc)⟩

/-! ### comprehensions of two clauses -/
def comp2L (tg tg1 : Tg) (ok : Store → Prop) (ft : WT) (wi1 : WI) (ft1 : WT) (fe : WE) (vs vs1 : List Nat) (ρ : Rho) : Nat → List D → Store → (List D → Store → Prop) → Prop
  | _, [], S, Q => ok S ∧ Q [] S
  | n, x :: xs, S, Q => ok S ∧ match tg.put x (wipeD ρ vs) with
    | some ρ' => ft ρ' S fun k S1 => if k = true then wi1 ρ' S1 fun es ok1 S2 => n + es.length < sizeLine ∧ compL tg1 ok1 ft1 fe vs1 ρ' es S2 fun ys S3 => comp2L tg tg1 ok ft wi1 ft1 fe vs vs1 ρ (n + es.length) xs S3 fun zs S4 => Q (ys ++ zs) S4
      else comp2L tg tg1 ok ft wi1 ft1 fe vs vs1 ρ n xs S1 Q
    | none => False
def lc2W (wi : WI) (tg : Tg) (ft : WT) (wi1 : WI) (tg1 : Tg) (ft1 : WT) (fe : WE) (vs vs1 : List Nat) : WE := fun ρ S Q => wi ρ S fun ds ok S1 => comp2L tg tg1 ok ft wi1 ft1 fe vs vs1 ρ 0 ds S1 fun ys S2 => Q (.lst ys) S2
theorem snd_lc2 {wi wi1 : TI} {f f1 : WI} {tg tg1 : Tg} {tt tt1 : TT} {ft ft1 : WT} {te : TE} {fe : WE} {vs vs1 : List Nat} (hv : ∀ i ∈ tg.slots, i ∈ vs) (hv1 : ∀ i ∈ tg1.slots, i ∈ vs1) (hi : SndI c wi f) (ht : SndT c tt ft) (hi1 : SndI c wi1 f1) (ht1 : SndT c tt1 ft1) (he : SndE c te fe) :
    SndE c (tLc2 wi (tgT c.K tg) tt wi1 (tgT c.K tg1) tt1 te vs vs1) (lc2W f tg ft f1 tg1 ft1 fe vs vs1) := by
  intro σ H ρ S μ G Q R A h k
  refine hi σ H ρ S μ G _ _ A h fun J H1 ds ok S1 μ1 G1 s1 A1 it q1 => ?_
  intro p np
  obtain ⟨pm, pg⟩ := A1.ag.fresh np
  obtain ⟨A0, s0⟩ := A1.ag.own A1.ag (Stp.refl _ _ _) (o := .lst []) np pm pg
  refine ⟨fun i m H' => ∃ S' μ' G' acc ys n, Ag0 c H' S' μ' G' ∧ Stp H1 μ1 G1 H' μ' G' ∧ p ∉ μ' ∧ G' p = none ∧ H' p = some (.lst acc) ∧ Reps c G' μ' acc ys ∧ ys.length ≤ n ∧ i ≤ ds.length ∧ m = ds.length - i ∧
    comp2L tg tg1 ok ft f1 ft1 fe vs vs1 ρ n (ds.drop i) S' (fun zs S2 => Q (.lst (ys ++ zs)) S2), ⟨ds.length, S1, μ1, G1, [], [], 0, A0, s0, pm, pg, upd_same, .nil, Nat.le_refl _, Nat.zero_le _, rfl, q1⟩, ?_⟩
  rintro i m H' ⟨S', μ', G', acc, ys, n, A', s', pm', pg', hp', r', hy, hi', rfl, q'⟩
  by_cases hlt : i < ds.length
  · rw [List.drop_eq_getElem_cons hlt] at q'
    obtain ⟨o, q'⟩ := q'
    refine .inr ⟨it.go i H' S' μ' G' s'.ext A' o hlt, fun H2 => ∃ S2 μ2 G2 acc ys n, Ag0 c H2 S2 μ2 G2 ∧ Stp H1 μ1 G1 H2 μ2 G2 ∧ p ∉ μ2 ∧ G2 p = none ∧ H2 p = some (.lst acc) ∧ Reps c G2 μ2 acc ys ∧ ys.length ≤ n ∧
      comp2L tg tg1 ok ft f1 ft1 fe vs vs1 ρ n (ds.drop (i + 1)) S2 (fun zs S2 => Q (.lst (ys ++ zs)) S2), ?_, ?_⟩
    · rintro H2 ⟨S2, μ2, G2, acc2, ys2, n2, A2, s2, pm2, pg2, hp2, r2, hy2, q2⟩
      exact ⟨ds.length - (i + 1), by omega, S2, μ2, G2, acc2, ys2, n2, A2, s2, pm2, pg2, hp2, r2, hy2, hlt, rfl, q2⟩
    · intro x H2 y
      obtain ⟨G2, d, s2, A2, hd, r2⟩ := it.yld i H' S' μ' G' x H2 s'.ext A' o hlt y
      rw [List.getElem?_eq_getElem hlt] at hd
      cases hd
      split at q'
      · rename_i ρ2 e
        have B2 : Ag c (L2.wipe σ vs) H2 (wipeD ρ vs) S' μ' G2 := ((A1.go (s'.trans s2) A2)).wipe vs
        refine Tg.ok B2 r2 e fun σ3 A3 hw => ⟨by rw [hw vs hv, wipe_wipe], ?_⟩
        obtain ⟨hp2, pm2, pg2⟩ := s2.stay hp' pm' pg'
        refine ht σ3 H2 ρ2 S' μ' G2 _ _ A3 q' fun z H3 S3 μ3 G3 s3 A4 q3 => ?_
        obtain ⟨hp3, pm3, pg3⟩ := s3.stay hp2 pm2 pg2
        cases z with
        | false =>
          rw [if_neg Bool.false_ne_true] at q3 ⊢
          exact ⟨S3, μ3, G3, acc, ys, n, A4.ag, (s'.trans s2).trans s3, pm3, pg3, hp3, (r'.go s2).go s3, hy, q3⟩
        | true =>
          rw [if_pos rfl] at q3 ⊢
          refine hi1 σ3 H3 ρ2 S3 μ3 G3 _ _ A4 q3 fun J1 H4 es ok1 S4 μ4 G4 s4 A5 it1 q4 => ?_
          obtain ⟨hl4, q4⟩ := q4
          obtain ⟨hp4, pm4, pg4⟩ := s4.stay hp3 pm3 pg3
          have s14 := ((s'.trans s2).trans s3).trans s4
          refine ⟨fun j k H5 => ∃ S5 μ5 G5 acc5 ys5, Ag0 c H5 S5 μ5 G5 ∧ Stp H1 μ1 G1 H5 μ5 G5 ∧ Ext μ4 G4 μ5 G5 ∧ p ∉ μ5 ∧ G5 p = none ∧ H5 p = some (.lst acc5) ∧ Reps c G5 μ5 acc5 ys5 ∧ ys5.length ≤ n + j ∧ j ≤ es.length ∧ k = es.length - j ∧
            compL tg1 ok1 ft1 fe vs1 ρ2 (es.drop j) S5 (fun us S6 => comp2L tg tg1 ok ft f1 ft1 fe vs vs1 ρ (n + es.length) (ds.drop (i + 1)) S6 fun zs S7 => Q (.lst (ys5 ++ (us ++ zs))) S7),
            ⟨es.length, S4, μ4, G4, acc, ys, A5.ag, s14, Ext.refl _ _, pm4, pg4, hp4, ((r'.go s2).go s3).go s4, by omega, Nat.zero_le _, rfl, ?_⟩, ?_⟩
          · simp only [List.drop_zero]
            exact q4
          · rintro j k5 H5 ⟨S5, μ5, G5, acc5, ys5, A6, s15, s45, pm5, pg5, hp5, r5, hy5, hj5, rfl, q5⟩
            by_cases hlt5 : j < es.length
            · rw [List.drop_eq_getElem_cons hlt5] at q5
              obtain ⟨o5, q5⟩ := q5
              refine .inr ⟨it1.go j H5 S5 μ5 G5 s45 A6 o5 hlt5, fun H6 => ∃ S6 μ6 G6 acc6 ys6, Ag0 c H6 S6 μ6 G6 ∧ Stp H1 μ1 G1 H6 μ6 G6 ∧ Ext μ4 G4 μ6 G6 ∧ p ∉ μ6 ∧ G6 p = none ∧ H6 p = some (.lst acc6) ∧ Reps c G6 μ6 acc6 ys6 ∧ ys6.length ≤ n + (j + 1) ∧
                compL tg1 ok1 ft1 fe vs1 ρ2 (es.drop (j + 1)) S6 (fun us S7 => comp2L tg tg1 ok ft f1 ft1 fe vs vs1 ρ (n + es.length) (ds.drop (i + 1)) S7 fun zs S8 => Q (.lst (ys6 ++ (us ++ zs))) S8), ?_, ?_⟩
              · rintro H6 ⟨S6, μ6, G6, acc6, ys6, A7, s16, s46, pm6, pg6, hp6, r6, hy6, q6⟩
                exact ⟨es.length - (j + 1), by omega, S6, μ6, G6, acc6, ys6, A7, s16, s46, pm6, pg6, hp6, r6, hy6, hlt5, rfl, q6⟩
              · intro x6 H6 y6
                obtain ⟨G6, d6, s56, A7, hd6, r6⟩ := it1.yld j H5 S5 μ5 G5 x6 H6 s45 A6 o5 hlt5 y6
                rw [List.getElem?_eq_getElem hlt5] at hd6
                cases hd6
                split at q5
                · rename_i ρ6 e6
                  have s16 := s15.trans s56
                  have B6 : Ag c (L2.wipe σ3 vs1) H6 (wipeD ρ2 vs1) S5 μ5 G6 := Ag.wipe ⟨A7, A3.len, fun i d h => let ⟨v, h1, h2⟩ := (A5.slot i d h); ⟨v, h1, h2.mono (s45.sg.trans s56.sg) (fun n a z => s56.mu n a (s45.mu n a z)) _ _⟩⟩ vs1
                  refine Tg.ok B6 r6 e6 fun σ7 A8 hw7 => ⟨by rw [hw7 vs1 hv1, wipe_wipe], ?_⟩
                  obtain ⟨hp6, pm6, pg6⟩ := s56.stay hp5 pm5 pg5
                  refine ht1 σ7 H6 ρ6 S5 μ5 G6 _ _ A8 q5 fun z H7 S7 μ7 G7 s7 A9 q7 => ?_
                  obtain ⟨hp7, pm7, pg7⟩ := s7.stay hp6 pm6 pg6
                  cases z with
                  | false =>
                    rw [if_neg Bool.false_ne_true] at q7 ⊢
                    exact ⟨S7, μ7, G7, acc5, ys5, A9.ag, s16.trans s7, s45.trans ((s56.trans s7).ext), pm7, pg7, hp7, (r5.go s56).go s7, by omega, q7⟩
                  | true =>
                    rw [if_pos rfl] at q7 ⊢
                    refine he σ7 H7 ρ6 S7 μ7 G7 _ _ A9 q7 fun v H8 d S8 μ8 G8 s8 A10 r8 q8 => ?_
                    obtain ⟨hp8, pm8, pg8⟩ := s8.stay hp7 pm7 pg7
                    obtain ⟨A11, s11⟩ := A1.ag.own A10.ag ((s16.trans s7).trans s8) (o := .lst (acc5 ++ [v])) np pm8 pg8
                    refine ⟨acc5, hp8, by rw [r5.length]; omega, S8, μ8, G8, acc5 ++ [v], ys5 ++ [d], A11, s11, s45.trans (((s56.trans s7).trans s8).ext), pm8, pg8, upd_same, (((r5.go s56).go s7).go s8).append (.one r8), by simp; omega, ?_⟩
                    simp only [List.append_assoc, List.singleton_append, List.cons_append]
                    exact q8
                · exact q5.elim
            · have e5 : j = es.length := by omega
              subst e5
              rw [List.drop_length] at q5
              have q6 := q5.2
              simp only [List.nil_append] at q6
              exact .inl ⟨it1.stop H5 S5 μ5 G5 s45 A6 q5.1, S5, μ5, G5, acc5, ys5, n + es.length, A6, s15, pm5, pg5, hp5, r5, hy5, q6⟩
      · exact q'.elim
  · have e : i = ds.length := by omega
    subst e
    rw [List.drop_length] at q'
    have q2 : Q (.lst (ys ++ [])) S' := q'.2
    rw [List.append_nil] at q2
    obtain ⟨A2, s2, sg⟩ := A1.ag.keep A' s' np pm' pg' hp'
    exact .inl ⟨it.stop H' S' μ' G' s'.ext A' q'.1, k _ H' _ S' μ' _ (s1.trans s2) (A1.go s2 A2) (.lst upd_same (r'.mono sg (fun _ _ h => h) _ _)) q2⟩
end
end DL
namespace DL
open PySem PySem.Spec PyProof.Rows L2
section
variable {X : Cx} {b : Bs} {c : Dc} {pos : Pos} {elt tgx iter tgx1 iter1 : Expr} {ifs ifs1 : List Expr} {scope : Scope} {own : List (Str × Nat)} {vs1 : List Nat} {f f1 : WI} {tg tg1 : Tg} {ft ft1 : WT} {fe : WE}
theorem de_lc2 (hc : X.calm = true) (hN : X.N.Nodup) (hv : ∀ i ∈ tg.slots, i ∈ own.map (·.2)) (hv1 : ∀ i ∈ tg1.slots, i ∈ vs1) (hv2 : ∀ i ∈ vs1, i ∈ own.map (·.2)) (hi : DI X b tgx iter f) (ok : BlkOk X.N X.env.scope scope own) (hg : Blk X scope fun Y => DG Y tgx tg) (ht : Blk X scope fun Y => DTs Y b ifs ft)
    (hi1 : Blk X scope fun Y => DI Y b tgx1 iter1 f1) (hg1 : Blk X scope fun Y => DG Y tgx1 tg1) (ht1 : Blk X scope fun Y => DTs Y b ifs1 ft1) (he : Blk X scope fun Y => DE Y b elt fe)
    (hs : ∀ x, foldedSetIterable iter X.env x = pure x := by intro _; rfl) (hs1 : ∀ env x, foldedSetIterable iter1 env x = pure x := by intro _ _; rfl) : DE X b (.ListComp elt [⟨tgx, iter, ifs, 0⟩, ⟨tgx1, iter1, ifs1, 0⟩] scope pos) (lc2W f tg ft f1 tg1 ft1 fe (own.map (·.2)) vs1) :=
  ⟨_, pe_lc2 (te := rdE (dc X b) fe) (tt := rdT (dc X b) ft) (wi1 := rdI (dc X b) f1) (tt1 := rdT (dc X b) ft1) hc hN hi.can ok hv2 hg (fun s H C cl fp => (ht s H C cl fp).pe) (fun s H C cl fp => (hi1 s H C cl fp).can) hg1 (fun s H C cl fp => (ht1 s H C cl fp).pe) (fun s H C cl fp => (he s H C cl fp).can) hs hs1,
    snd_lc2 hv hv1 sndI_can sndT_can sndI_can sndT_can sndE_can⟩
theorem ds_setLc2 (i : Nat) {y : Str} {py spos : Pos} (hc : X.calm = true) (hN : X.N.Nodup) (hv : ∀ i ∈ tg.slots, i ∈ own.map (·.2)) (hv1 : ∀ i ∈ tg1.slots, i ∈ vs1) (hv2 : ∀ i ∈ vs1, i ∈ own.map (·.2)) (hy : X.N[i]? = some y) (hyl : X.env.scope.names.lookup y = some .local)
    (hsw : swapsWith (.ListComp elt [⟨tgx, iter, ifs, 0⟩, ⟨tgx1, iter1, ifs1, 0⟩] scope pos) (some (.Name y py)) spos.line X.env = pure true) (hi : DI X b tgx iter f) (ok : BlkOk X.N X.env.scope scope own) (hg : Blk X scope fun Y => DG Y tgx tg) (ht : Blk X scope fun Y => DTs Y b ifs ft)
    (hi1 : Blk X scope fun Y => DI Y b tgx1 iter1 f1) (hg1 : Blk X scope fun Y => DG Y tgx1 tg1) (ht1 : Blk X scope fun Y => DTs Y b ifs1 ft1) (he : Blk X scope fun Y => DE Y b elt fe)
    (hs : ∀ x, foldedSetIterable iter X.env x = pure x := by intro _; rfl) (hs1 : ∀ env x, foldedSetIterable iter1 env x = pure x := by intro _ _; rfl) :
    DS X b (.Assign [.Name y py] (.ListComp elt [⟨tgx, iter, ifs, 0⟩, ⟨tgx1, iter1, ifs1, 0⟩] scope pos) spos) (asgW (.nm i) (lc2W f tg ft f1 tg1 ft1 fe (own.map (·.2)) vs1)) :=
  ⟨_, ps_setLc2 (te := rdE (dc X b) fe) (tt := rdT (dc X b) ft) (wi1 := rdI (dc X b) f1) (tt1 := rdT (dc X b) ft1) hc hN hy hyl hsw hi.can ok hv2 hg (fun s H C cl fp => (ht s H C cl fp).pe) (fun s H C cl fp => (hi1 s H C cl fp).can) hg1 (fun s H C cl fp => (ht1 s H C cl fp).pe) (fun s H C cl fp => (he s H C cl fp).can) hs hs1,
    snd_asg (tg := .nm i) (snd_lc2 hv hv1 sndI_can sndT_can sndI_can sndT_can sndE_can)⟩
end

/-! ### slices -/
abbrev WP := Rho → Store → (Option Int → Store → Prop) → Prop
def SndP (c : Dc) (t : TO) (f : WP) : Prop := ∀ (σ : L2.St) (H : Hp) (ρ : Rho) (S : Store) (μ : List Addr) (G : Hp) (Q : Option Int → Store → Prop) (R : Option Int → Hp → Prop), Ag c σ H ρ S μ G → f ρ S Q →
  (∀ o H' S' μ' G', Stp H μ G H' μ' G' → Ag c σ H' ρ S' μ' G' → Q o S' → R o H') → t σ H R
structure DP (X : Cx) (b : Bs) (e : Option Expr) (f : WP) : Prop where
  ex : ∃ t, PO X e t ∧ SndP (dc X b) t f
def noP : WP := fun _ S Q => Q none S
def soP (fe : WE) : WP := fun ρ S Q => fe ρ S fun d S1 => match d with
  | .int i => Q (some i) S1
  | _ => False
/-- the items xs[lo:hi] -/
def cutD (xs : List D) (lo hi : Option Int) : List D := (xs.drop (HT.sIx xs.length 0 lo)).take (HT.sIx xs.length xs.length hi - HT.sIx xs.length 0 lo)
def slW (fe : WE) (fl fh : WP) : WE := fun ρ S Q => fe ρ S fun d S1 => fl ρ S1 fun lo S2 => fh ρ S2 fun hi S3 => match d with
  | .str z => z.length ≤ sizeLine ∧ Q (.str (cutS z lo hi)) S3
  | .tup xs => ¬ (HT.sIx xs.length 0 lo = 0 ∧ HT.sIx xs.length xs.length hi = xs.length) ∧ Q (.tup (cutD xs lo hi)) S3
  | d => match lsqOf S3 d with
    | some xs => Q (.lst (cutD xs lo hi)) S3
    | none => False
section
variable {X : Cx} {b : Bs} {c : Dc} {pos : Pos} {e : Expr} {fe : WE} {lo hi : Option Expr} {fl fh : WP} {p2 : Pos}
theorem po0 : DP X b none noP := ⟨_, po_none, fun σ H ρ S μ G Q R A h k => k none H S μ G (Stp.refl _ _ _) A h⟩
theorem po1 (h : DE X b e fe) : DP X b (some e) (soP fe) := by
  obtain ⟨t, p, s⟩ := h.ex
  refine ⟨_, po_some p, fun σ H ρ S μ G Q R A h k => ?_⟩
  refine s σ H ρ S μ G _ _ A h fun v H1 d S1 μ1 G1 s1 A1 r1 q1 => ?_
  cases r1 with
  | int i => exact ⟨i, rfl, k (some i) H1 S1 μ1 G1 s1 A1 q1⟩
  | _ => exact q1.elim
theorem Reps.cutV {G : Hp} {μ : List Addr} {vs : List V} {ds : List D} (r : Reps c G μ vs ds) (lo hi : Option Int) : Reps c G μ (L2.cutV vs lo hi) (cutD ds lo hi) := by
  unfold L2.cutV cutD
  rw [r.length]
  exact (r.drop _).take _
theorem de_sl (he : DE X b e fe) (hl : DP X b lo fl) (hh : DP X b hi fh) : DE X b (.Subscript e (.Slice lo hi none p2) pos) (slW fe fl fh) := by
  obtain ⟨te, pe, se⟩ := he.ex
  obtain ⟨tl, pl, sl⟩ := hl.ex
  obtain ⟨th, ph, sh⟩ := hh.ex
  refine ⟨_, pe_slice (sl_str.or (sl_tup.or sl_list)) pe pl ph, fun σ H ρ S μ G Q R A h k => ?_⟩
  refine se σ H ρ S μ G _ _ A h fun v H1 d S1 μ1 G1 s1 A1 r1 q1 => ?_
  refine sl σ H1 ρ S1 μ1 G1 _ _ A1 q1 fun l H2 S2 μ2 G2 s2 A2 q2 => ?_
  refine sh σ H2 ρ S2 μ2 G2 _ _ A2 q2 fun u H3 S3 μ3 G3 s3 A3 q3 => ?_
  have s13 := (s1.trans s2).trans s3
  have r3 := (r1.go s2).go s3
  have lists : ∀ xs, lsqOf S3 d = some xs → Q (.lst (cutD xs l u)) S3 → (rSlS v l u H3 R ∨ (rSlT X.K v l u H3 R ∨ rSlL X.K v l u H3 R)) := by
    intro xs e q
    obtain ⟨a, ws, rfl, ha, r4⟩ := A3.ag.lsqR r3 e
    refine .inr (.inr ⟨a, ws, rfl, ha, fun p np => ?_⟩)
    obtain ⟨A4, s4⟩ := A3.ag.frz (o := .lst (L2.cutV ws l u)) np
    exact k _ _ _ S3 μ3 _ (s13.trans s4) (A3.go s4 A4) (A3.ag.frzL np (r4.cutV l u)) q
  split at q3
  · cases r3
    exact .inl ⟨_, rfl, q3.1, k _ H3 _ S3 μ3 G3 s13 A3 (.str _) q3.2⟩
  · rename_i xs
    obtain ⟨a, ws, rfl, ha, r4⟩ := A3.ag.tupR r3
    refine .inr (.inl ⟨a, ws, rfl, ha, by rw [r4.length]; exact q3.1, fun p np => ?_⟩)
    obtain ⟨A4, s4⟩ := A3.ag.frz (o := .tup (L2.cutV ws l u)) np
    exact k _ _ _ S3 μ3 _ (s13.trans s4) (A3.go s4 A4) (A3.ag.frzT np (r4.cutV l u)) q3.2
  · split at q3
    · rename_i xs e
      exact lists xs e q3
    · exact q3.elim
end

/-! ### a, b, c = e1, e2, e3 -/
def par3W (i j l : Nat) (fs : WA) : WS := fun Dd ρ S => fs ρ S fun ds S1 => match ds with
  | [x, y, z] => Dd.nx (((ρ.set i (some x)).set j (some y)).set l (some z)) S1
  | _ => False
section
variable {X : Cx} {b : Bs} {c : Dc} {pos : Pos}
theorem Reps.three' {G : Hp} {μ : List Addr} {vs : List V} {d e f : D} (r : Reps c G μ vs [d, e, f]) : ∃ u v w, vs = [u, v, w] ∧ Rep c G μ u d ∧ Rep c G μ v e ∧ Rep c G μ w f := by
  cases r with
  | cons h1 h2 => obtain ⟨v, w, rfl, h3, h4⟩ := h2.two'; exact ⟨_, _, _, rfl, h1, h3, h4⟩
theorem ds_par3 {i j l : Nat} {x y z : Str} {p q r : Expr} {fs : WA} {px py pz pt : Pos} {kt k2 : Nat} {pt2 : Pos} (hc : X.calm = true) (hN : X.N.Nodup) (hi : X.N[i]? = some x) (hj : X.N[j]? = some y) (hl : X.N[l]? = some z) (hij : i ≠ j) (hil : i ≠ l) (hjl : j ≠ l)
    (hx : X.env.scope.names.lookup x = some .local) (hy : X.env.scope.names.lookup y = some .local) (hz : X.env.scope.names.lookup z = some .local) (ha : DA X b [p, q, r] fs)
    (hw : swappedStores [.Tuple [.Name x px, .Name y py, .Name z pz] kt pt] (.Tuple [p, q, r] k2 pt2) X.env = pure (some [x, y, z]))
    (hs : swapsWithSole [.Tuple [.Name x px, .Name y py, .Name z pz] kt pt] (.Tuple [p, q, r] k2 pt2) pos.line X.env = pure false := by rfl) :
    DS X b (.Assign [.Tuple [.Name x px, .Name y py, .Name z pz] kt pt] (.Tuple [p, q, r] k2 pt2) pos) (par3W i j l fs) := by
  obtain ⟨t, p1, s⟩ := ha.ex
  refine ⟨_, ps_par3 hc hN hi hj hl hij hil hjl hx hy hz p1 hw hs, fun E Dd σ H ρ S μ G A w k => ?_⟩
  refine s σ H ρ S μ G _ _ A w fun vs H1 ds S1 μ1 G1 s1 A1 r1 q1 => ?_
  split at q1
  · obtain ⟨u, v, w', rfl, r2, r3, r4⟩ := r1.three'
    exact ⟨u, v, w', rfl, k.nx _ H1 _ S1 μ1 G1 s1 (((A1.set r2).set r3).set r4) q1⟩
  · exact q1.elim
end

/-! ### a def that is never called -/
def mNo : Mir := fun _ _ _ => False
def prv (m : Nat → Mir) : Nat → Mir
  | 0 => mNo
  | n + 1 => m n
theorem fn_never {P : Program} {w : World} {K : PySem.W.Frag} {mg : Str → Option Value} {base : Heap} {CX : CXT} {k : Nat} {f : Addr} {fd : FuncData} {ps : List Str} : FnOk P w K mg base CX k f fd ps (spD K mg mNo) :=
  ⟨fun vs H Q E h => by obtain ⟨_, _, _, _, _, _, _, h, _⟩ := h; exact h.elim, fun A outer s H args us vs Q E _ _ _ _ h => by obtain ⟨_, _, _, _, _, _, _, h, _⟩ := h; exact h.elim⟩

/-! ### sorted, of ints -/
def isSorted : List Int → Prop := fun ns => ns.Pairwise (· ≤ ·)
def wSorted : WC := fun ds S Q => match ds with
  | [x] => match lsqOf S x with
    | some xs => match intsOf xs with
      | some ns => ∀ ms : List Int, ms.Perm ns → ms.Pairwise (· ≤ ·) → Q (.lst (ms.map D.int)) S
      | none => False
    | none => False
  | _ => False
section
variable {X : Cx} {b : Bs} {c : Dc} {pos : Pos} {e : Expr} {es : List Expr} {fs : WA}
theorem c_sorted : SndC c (rSortedI c.K) wSorted := by
  intro H S μ G vs ds Q R A r h k
  unfold wSorted at h
  split at h
  · split at h
    · rename_i xs q
      split at h
      · rename_i ns q2
        obtain ⟨v, rfl, r1⟩ := r.one'
        obtain ⟨a, ws, rfl, ha, r2⟩ := A.lsqR r1 q
        rw [of_intsOf q2] at r2
        rw [r2.ints] at ha
        refine ⟨a, ns, rfl, ha, fun ms p hp hs np => ?_⟩
        obtain ⟨A2, s2⟩ := A.frz (o := .lst (ms.map V.int)) np
        exact k _ _ _ S μ _ s2 A2 (A.frzL np (Reps.of_ints ms)) (h ms hp hs)
      · exact h.elim
    · exact h.elim
  · exact h.elim
theorem de_sorted {p : Pos} (hc : X.calm = true) (hg : Gl X "sorted") (hm : X.mg "sorted" = none) (ha : DA X b (e :: es) fs) (he : starEach (e :: es) X.env = (false, eval e X.env) :: starEach es X.env := by rfl) (hpl : (backTo pos (starEach es X.env)).any (·.1) = false := by rfl) :
    DE X b (.Call (.Name "sorted" p) (e :: es) [] pos) (clW wSorted fs) := de_callB cr_sortedI c_sorted hg hm (by decide +kernel) ha (by decide) (by decide) he hpl
end
end DL
/-! DLs: transformers evaluated, statement by statement -/
namespace DL
open PySem PySem.Spec L2
abbrev D0 (S : Store) (Q : DQ) : DEnds := { nx := fun _ S' => exitQ S.length Q .non S', rt := exitQ S.length Q }
theorem sz0 : (0 : Nat) ≤ sizeLine := by decide
theorem sz1 : (1 : Nat) ≤ sizeLine := by decide
theorem sz2 : (2 : Nat) ≤ sizeLine := by decide
theorem sz3 : (3 : Nat) ≤ sizeLine := by decide
theorem sz4 : (4 : Nat) ≤ sizeLine := by decide
theorem szl {n : Nat} (h : n < 100000) : n < sizeLine := Nat.lt_of_lt_of_le h (by decide)
theorem sze {n : Nat} (h : n ≤ 100000) : n ≤ sizeLine := Nat.le_trans h (by decide)
theorem ite_d {p : Prop} [Decidable p] {A B : Prop} (h1 : p → A) (h2 : ¬ p → B) : if decide p = true then A else B := by
  by_cases h : p
  · rw [if_pos (decide_eq_true h)]; exact h1 h
  · rw [if_neg (by simp [h])]; exact h2 h
theorem ite_n {p : Prop} [Decidable p] {A B : Prop} (h1 : ¬ p → A) (h2 : p → B) : if (!decide p) = true then A else B := by
  by_cases h : p
  · rw [if_neg (by simp [h])]; exact h2 h
  · rw [if_pos (by simp [h])]; exact h1 h
/-- an expression's value, a test's answer -/
def EvE (fe : WE) (ρ : Rho) (S : Store) (d : D) : Prop := ∀ Q : DQ, Q d S → fe ρ S Q
def EvT (ft : WT) (ρ : Rho) (S : Store) (k : Bool) : Prop := ∀ Q : Bool → Store → Prop, Q k S → ft ρ S Q
section
variable {fe fa fb : WE} {ft fu : WT} {ρ : Rho} {S : Store} {d x y : D} {k j : Bool} {Dd : DEnds} {rest g h : WS} {i : Nat}
theorem seq_asg (he : EvE fe ρ S d) (q : rest Dd (ρ.set i (some d)) S) : seqW (asgW (.nm i) fe) rest Dd ρ S := he _ q
theorem seq_asgQ (he : fe ρ S fun d S' => rest Dd (ρ.set i (some d)) S') : seqW (asgW (.nm i) fe) rest Dd ρ S := he
theorem seq_par {i j : Nat} (ha : EvE fa ρ S x) (hb : EvE fb ρ S y) (q : rest Dd ((ρ.set i (some x)).set j (some y)) S) : seqW (parW i j (consW fa (consW fb nilW))) rest Dd ρ S := ha _ (hb _ q)
theorem seq_tup {is : List Nat} {ds : List D} (he : EvE fe ρ S (.tup ds)) (hl : ds.length = is.length) (q : rest Dd (puts is ds ρ) S) : seqW (asgW (.tp is) fe) rest Dd ρ S := by
  refine he _ ?_
  simp only [Tg.put, if_pos hl]
  exact q
theorem seq_new (q : rest Dd (ρ.set i (some (.loc S.length))) (S ++ .lst [] :: [])) : seqW (asgW (.nm i) (lstN nilW)) rest Dd ρ S := ⟨sz0, q⟩
theorem seq_if (ht : EvT ft ρ S k) (h1 : k = true → seqW g rest Dd ρ S) (h2 : k = false → seqW h rest Dd ρ S) : seqW (ifS ft g h) rest Dd ρ S := by
  refine ht _ ?_
  cases k with
  | true => exact h1 rfl
  | false => exact h2 rfl
theorem seq_nx (q : rest Dd ρ S) : seqW nxW rest Dd ρ S := q
theorem seq_seq (q : seqW g (seqW h rest) Dd ρ S) : seqW (seqW g h) rest Dd ρ S := q
theorem seq_ret (he : EvE fe ρ S d) (q : Dd.rt d S) : seqW (retW fe) rest Dd ρ S := he _ q
theorem ret_of (he : EvE fe ρ S d) (q : Dd.rt d S) : retW fe Dd ρ S := he _ q
theorem ret_Q (he : fe ρ S Dd.rt) : retW fe Dd ρ S := he
theorem seq_retQ (he : fe ρ S Dd.rt) : seqW (retW fe) rest Dd ρ S := he
theorem evt_and (h1 : EvT ft ρ S k) (h2 : k = true → EvT fu ρ S j) : EvT (andW ft fu) ρ S (k && j) := fun Q q => h1 _ (by
  cases k with
  | true => exact h2 rfl Q q
  | false => exact q)
theorem evt_or (h1 : EvT ft ρ S k) (h2 : k = false → EvT fu ρ S j) : EvT (orW ft fu) ρ S (k || j) := fun Q q => h1 _ (by
  cases k with
  | true => exact q
  | false => exact h2 rfl Q q)
theorem evt_not (h1 : EvT ft ρ S k) : EvT (notW ft) ρ S (!k) := fun Q q => h1 _ q
theorem eve_if (ht : EvT ft ρ S k) (h1 : k = true → EvE fa ρ S x) (h2 : k = false → EvE fb ρ S x) : EvE (ifW ft fa fb) ρ S x := fun Q q => ht _ (by
  cases k with
  | true => exact h1 rfl Q q
  | false => exact h2 rfl Q q)
/-- an if, added to a list of one's own -/
theorem seq_ifapp {S J : Store} {xs : List D} (ht : EvT ft ρ (S ++ .lst xs :: J) k) (h : lk ρ i = some (.loc S.length)) (hf : EvE fa ρ (S ++ .lst xs :: J) d) (hl : xs.length < sizeLine)
    (q : rest Dd ρ (S ++ .lst (xs ++ if k = true then [d] else []) :: J)) : seqW (ifS ft (dropW (appW (vW i) fa)) nxW) rest Dd ρ (S ++ .lst xs :: J) := by
  refine ht _ ?_
  cases k with
  | true => exact appW_top (Q := fun _ S1 => rest Dd ρ S1) h (fun Q' q' => hf Q' q') hl q
  | false =>
    have q' : rest Dd ρ (S ++ .lst (xs ++ []) :: J) := q
    rw [List.append_nil] at q'
    exact q'
theorem seq_app {S J : Store} {xs : List D} (h : lk ρ i = some (.loc S.length)) (hf : EvE fa ρ (S ++ .lst xs :: J) d) (hl : xs.length < sizeLine)
    (q : rest Dd ρ (S ++ .lst (xs ++ [d]) :: J)) : seqW (dropW (appW (vW i) fa)) rest Dd ρ (S ++ .lst xs :: J) :=
  appW_top (Q := fun _ S1 => rest Dd ρ S1) h (fun Q' q' => hf Q' q') hl q
/-! reading a list of one's own -/
theorem eve_len {S J : Store} {xs : List D} (h : lk ρ i = some (.loc S.length)) : EvE (clW wLen (consW (vW i) nilW)) ρ (S ++ .lst xs :: J) (.int xs.length) := fun Q q => by
  simp only [clW, consW, nilW, vW, h, wLen, seqOf, sto_get0]
  exact q
theorem eve_ix {S J : Store} {xs : List D} {n : Int} (h : lk ρ i = some (.loc S.length)) (hx : ixD xs n = some d) : EvE (opW wIx (vW i) (cW (.int n))) ρ (S ++ .lst xs :: J) d := fun Q q => by
  simp only [opW, cW, vW, h, wIx, seqOf, sto_get0, hx]
  exact q
theorem eve_eqnil {S J : Store} {xs : List D} {ps : List PyData} (h : lk ρ i = some (.loc S.length)) (hp : pysD (S ++ .lst xs :: J) xs = some ps) (hs : SeqAt.shaped (.list ps) = true) : EvE (opW wEq (vW i) (lstW nilW)) ρ (S ++ .lst xs :: J) (.bl xs.isEmpty) := fun Q q => by
  simp only [opW, lstW, nilW, vW, h, wEq, pyT, sto_get0, hp]
  refine ⟨sz0, hs, rfl, ?_⟩
  have e : PyData.eqv (.list ps) (.list []) = xs.isEmpty := by
    cases xs with
    | nil => simp only [pysD] at hp; cases hp; rfl
    | cons x xs =>
      simp only [pysD] at hp
      split at hp
      · cases hp; rfl
      · cases hp
  rw [e]
  exact q
end
end DL
/-! DLt: sorted(set(xs)) of a list of ints -/
namespace DL
open PySem PySem.Spec PyProof.Rows L2
/-- a set without members, just made -/
abbrev oSet (w : World) : Obj := { cls := .type "set", dict := none, data := .set #[] 0 (.fresh 0 0 (!w.params.followText "set-order")) }
section
variable {P : Program} {w : World} {A : Around} {E : Value → Shared → Prop} {s : Shared}
theorem set_ints_list {l : Addr} {its : Array Value} (ns : List Int) {Q : Value → Shared → Prop} (hd0 : A.handled = none) (L0 : s.heap.IsList l its) (I0 : IntsAre its.toList ns) (room : ns.length + 1 < scanBound)
    (go : ∀ (h' : Heap) (tk c : Nat), SetR w h' s.heap.objs.size (fun j => decide (j ∈ ns)) c → c ≤ ns.length → (∀ b o, s.heap.get? b = some o → h'.get? b = some o) → Q (.ref s.heap.objs.size) { s with heap := h', toks := tk }) :
    wpAny (model P w) A (call (.type "set") [.ref l]) Q E s := by
  have sz : its.size = ns.length := by
    have q := IntsAre.length I0
    rw [Array.length_toList] at q; exact q
  obtain ⟨c, tl, mro⟩ := F.called_set.mro
  have made := F.called_set.made
  have sub1 := F.called_set.sub
  refine wpAny_call (codeAny_of_tree ?_)
  show wpAny _ _ (callAny (.type "set") _) _ _ _
  refine wpAny_pure ⟨Code.quiet_builtin _ (by decide +kernel), codeAny_builtin F.entry_type_call ?_⟩
  rw [Around.under_plain (weight_type_call_type "set" [.ref l] []) rfl]
  have a1 := F.called_set.notType
  have a2 := F.called_set.canCreate
  have a3 := F.typeCall_set_1 (.ref l)
  repeat (any_goals (first | assumption | wp_step))
  refine codeAny_mono (code_set_led1 (.ref l) (E := E) (Q₁ := fun o1 s₁ => o1 = .ref s.heap.objs.size ∧ s₁ = { s with heap := s.heap.push (oSet w) }) ⟨rfl, rfl⟩) fun r s₁ hr => ?_
  cases r with
  | error e => exact hr
  | ok fl => cases fl with
    | ret o1 =>
      obtain ⟨rfl, rfl⟩ := hr
      have oS : (s.heap.push (oSet w)).get? s.heap.objs.size = some (oSet w) := Heap.get?_push_size _ rfl
      have tS : Shared.TypeIs { s with heap := s.heap.push (oSet w) } (.ref s.heap.objs.size) "set" := ⟨_, oS, rfl⟩
      have b1 := F.called_set.init.lookup
      have b2 := F.called_set.init.bind (.ref s.heap.objs.size)
      repeat (any_goals (first | assumption | wp_step))
      refine codeAny_mono (codeAny_call_builtin (R := wants (fun r s₂ => r = .none ∧ ∃ h' tk c, s₂ = { s with heap := h', toks := tk } ∧ SetR w h' s.heap.objs.size (fun j => decide (j ∈ ns)) c ∧ c ≤ ns.length ∧ ∀ b o, s.heap.get? b = some o → h'.get? b = some o) E)
        F.called_set.init.plain F.entry_set_init (check_set_init_1 tS ?_)) fun r2 s2 hr2 => ?_
      · obtain ⟨ol, hol, hcl, nl, hdl⟩ := L0
        obtain ⟨oc, od, odt, osl⟩ := ol
        simp only at hcl hdl
        subst hcl; subst hdl
        have hol2 : (s.heap.push (oSet w)).get? l = some { cls := .type "list", dict := od, data := .seq its nl, slots := osl } := Heap.get?_push_of_some _ hol
        have n1 := F.sub_list_set
        have n2 := F.sub_list_frozenset
        have n3 : (Value.type "list" == Value.type "dict") = false := by decide
        have L1 : (s.heap.push (oSet w)).IsList l its := ⟨_, hol2, rfl, nl, rfl⟩
        unfold Builtin.«set.__init__» noKeywords Builtin.Frozenset.updateFrom
        generalize hPI : pyIter = PI
        wp_walk
        subst hPI
        refine wpAny_pyIter_list L1 ?_
        refine wpAny_bind (wpAny_runValue ?_)
        have lS : l < s.heap.objs.size := Heap.lt_size hol
        have hd3 : A.in1.in1.in1.handled = none := by simp [hd0]
        have z1 : (s.heap.push (oSet w)).objs.size = s.heap.objs.size + 1 := Heap.size_push ..
        have neI : l ≠ (s.heap.push (oSet w)).objs.size := by
          rw [z1]; exact Nat.ne_of_lt (Nat.lt_succ_of_lt lS)
        have nSf : s.heap.objs.size ∉ [(s.heap.push (oSet w)).objs.size, l] := by
          rw [z1]
          simp only [List.mem_cons, List.mem_singleton, List.not_mem_nil, or_false, not_or]
          exact ⟨Nat.ne_of_lt (Nat.lt_succ_self _), Nat.ne_of_gt lS⟩
        have val : ∀ (i : Nat) (v : Value), its[i]? = some v → ∃ k t, ns[i]? = some k ∧ v = .int k t := by
          intro i v hv
          have hi : i < ns.length := by rw [← sz]; exact (Array.getElem?_eq_some_iff.mp hv).1
          obtain ⟨t, e⟩ := PyProof.Rows.IntsAre.int_at I0 i v (by rw [Array.getElem?_toList]; exact hv)
          exact ⟨ns[i], t, List.getElem?_eq_getElem hi, by rw [e, List.getD_eq_getElem?_getD, List.getElem?_eq_getElem hi] <;> rfl⟩
        refine set_update_ints ((Walks.list hd3 _ l neI its).toS) s.heap.objs.size nSf ns sz room val (its.size - 0) 0 _ (by omega) (Nat.zero_le _) ⟨⟨_, Heap.get?_push_size _ rfl, rfl, rfl⟩, (L1.push _)⟩ ?hS0 ?hR
        case hS0 => exact ⟨0, Nat.le_refl 0, setR_new_at (Heap.get?_push_of_some _ oS)⟩
        case hR =>
          intro s' c' hm hc' hS'
          obtain ⟨h', g2, d', tk', os'⟩ := s'
          have e1 : g2 = s.gens := hm.gens
          have e2 : d' = s.drawn := hm.drawn
          have e3 : os' = s.os := hm.os
          subst e1; subst e2; subst e3
          show wpAny _ _ _ _ _ _
          refine wpAny_pure ?_
          show wpAny _ _ (ret Value.none) _ _ _
          rw [sz] at hc'
          refine wpAny_pure ⟨rfl, h', tk', c', rfl, hS', hc', fun b o e => ?_⟩
          have q0 : b < s.heap.objs.size := Heap.lt_size e
          have q2 : b ≠ (s.heap.push (oSet w)).objs.size := by
            rw [z1]; exact Nat.ne_of_lt (Nat.lt_succ_of_lt q0)
          refine hm.heap b o (by
            simp only [List.mem_cons, List.mem_singleton, List.not_mem_nil, or_false, not_or]
            exact ⟨Nat.ne_of_lt q0, q2⟩) ?_
          exact Heap.get?_push_of_some _ (Heap.get?_push_of_some _ e)
      · cases r2 with
        | error e => exact hr2
        | ok fl2 => cases fl2 with
          | ret r =>
            obtain ⟨rfl, h', tk, c, rfl, hS', hc', hk⟩ := hr2
            repeat (any_goals (first | assumption | wp_step))
            exact go _ _ _ hS' hc' hk
          | _ => exact hr2.elim
    | _ => exact hr.elim
end

/-- set(xs), xs a list of ints -/
def rSetL (K : PySem.W.Frag) (w : World) : List V → Hp → VK → Prop := fun vs H Q => ∃ (l : Addr) (ns : List Int), vs = [V.ref l] ∧ SqL K H l (ns.map V.int) ∧ ns.length < 1000 ∧
  ∀ (p : Addr) (k : Nat), k ≤ ns.length → H p = none → Q (.ref p) (upd H p (SetO w p (fun j => decide (j ∈ ns)) k))
theorem cr_setL {X : Cx} (hc : X.calm = true) : CallR X (.type "set") (rSetL X.K X.w) := by
  intro pins s σ H vs us Q I r h
  obtain ⟨l, ns, rfl, hs, hn, q⟩ := h
  obtain ⟨its, rv, hl, hz⟩ := I.list hs
  rw [Vals.ref1 r]
  refine set_ints_list ns (I.ok.hd hc) hl.isList (by simpa using rv.ints) (by unfold scanBound; omega) fun h' tk k R1 hk kept => ?_
  exact ⟨.ref _, upd H s.heap.objs.size (SetO X.w s.heap.objs.size (fun j => decide (j ∈ ns)) k), I.laid (t' := tk) kept (Nat.le_refl _) (setO_new R1), rfl, q _ _ hk (I.hok.fresh (Nat.le_refl _))⟩
def wSortSet : WC := fun ds S Q => match ds with
  | [x] => match lsqOf S x with
    | some xs => match intsOf xs with
      | some ns => ns.length < 60 ∧ ∀ ms : List Int, ms.Pairwise (· < ·) → (∀ k, k ∈ ms ↔ k ∈ ns) → ms.length ≤ ns.length → Q (.lst (ms.map D.int)) S
      | none => False
    | none => False
  | _ => False
theorem de_sortset {X : Cx} {b : Bs} {e : Expr} {es : List Expr} {fs : WA} {p p2 q pos : Pos} (hc : X.calm = true) (hg : Gl X "sorted") (hm : X.mg "sorted" = none) (hg2 : Gl X "set") (hm2 : X.mg "set" = none) (ha : DA X b (e :: es) fs)
    (he : starEach (e :: es) X.env = (false, eval e X.env) :: starEach es X.env := by rfl) (hpl : (backTo q (starEach es X.env)).any (·.1) = false := by rfl)
    (he2 : starEach [Expr.Call (.Name "set" p2) (e :: es) [] q] X.env = (false, eval (Expr.Call (.Name "set" p2) (e :: es) [] q) X.env) :: starEach [] X.env := by rfl) (hpl2 : (backTo pos (starEach [] X.env)).any (·.1) = false := by rfl) :
    DE X b (.Call (.Name "sorted" p) [.Call (.Name "set" p2) (e :: es) [] q] [] pos) (clW wSortSet fs) := by
  obtain ⟨t, pt, st⟩ := ha.ex
  refine ⟨_, pe_callB (cr_sortedSet hc) hg hm (by decide +kernel) (pa_cons (pe_callTy (cr_setL hc) hg2 hm2 boot_set pt (by decide) (by decide) he hpl) pa_nil) (by decide) (by decide) he2 hpl2, ?_⟩
  intro σ H ρ S μ G Q R A h k
  refine st σ H ρ S μ G _ _ A h fun vs H1 ds S1 μ1 G1 s1 A1 r1 q1 => ?_
  unfold wSortSet at q1
  split at q1
  · split at q1
    · rename_i xs q2
      split at q1
      · rename_i ns q3
        obtain ⟨v, rfl, r2⟩ := r1.one'
        obtain ⟨a, ws, rfl, hl, r3⟩ := A1.ag.lsqR r2 q2
        rw [of_intsOf q3] at r3
        rw [r3.ints] at hl
        refine ⟨a, ns, rfl, hl, by omega, fun p1 k1 hk1 np1 => ?_⟩
        obtain ⟨A2, s2⟩ := A1.ag.frz (o := SetO X.w p1 (fun j => decide (j ∈ ns)) k1) np1
        refine ⟨p1, _, k1, rfl, upd_same .., by omega, fun ms p3 hs hm3 hml np3 => ?_⟩
        obtain ⟨A3, s3⟩ := A2.frz (o := .lst (ms.map V.int)) np3
        exact k _ _ _ S1 μ1 _ (s1.trans (s2.trans s3)) (A1.go (s2.trans s3) A3) (A2.frzL np3 (Reps.of_ints ms)) (q1.2 ms hs (fun k => by rw [hm3 k, decide_eq_true_eq]) (by omega))
      · exact q1.elim
    · exact q1.elim
  · exact q1.elim
end DL
/-! DLu: loops and comprehensions by what stays true; equality -/
namespace DL
open PySem PySem.Spec L2
theorem yes_go {ρ : Rho} {S : Store} {A B : Store → Prop} (h : A S) : yesW ρ S fun k S1 => if k = true then A S1 else B S1 := by
  show (if (true : Bool) = true then A S else B S)
  rw [if_pos rfl]
  exact h
section
variable {tg tg1 : Tg} {ok ok1 : Store → Prop} {ft ft1 : WT} {fe : WE} {vs vs1 : List Nat} {ρ : Rho} {S : Store} {wi1 : WI}
/-- a comprehension whose turns change no cell -/
theorem comp_pure (k : D → Bool) (f : D → D) : ∀ {xs : List D} {Q : List D → Store → Prop}, ok S → (∀ x ∈ xs, ∃ ρ', tg.put x (wipeD ρ vs) = some ρ' ∧ EvT ft ρ' S (k x) ∧ (k x = true → EvE fe ρ' S (f x))) →
    Q ((xs.filter k).map f) S → compL tg ok ft fe vs ρ xs S Q
  | [], Q, o, _, q => ⟨o, q⟩
  | x :: xs, Q, o, h, q => by
    obtain ⟨ρ', e, h1, h2⟩ := h x List.mem_cons_self
    refine ⟨o, ?_⟩
    rw [e]
    refine h1 _ ?_
    cases hk : k x with
    | true =>
      rw [if_pos rfl]
      refine h2 hk _ (comp_pure k f o (fun y hy => h y (List.mem_cons_of_mem _ hy)) ?_)
      rw [List.filter_cons_of_pos hk] at q
      exact q
    | false =>
      rw [if_neg Bool.false_ne_true]
      refine comp_pure k f o (fun y hy => h y (List.mem_cons_of_mem _ hy)) ?_
      rw [List.filter_cons_of_neg (by simp [hk])] at q
      exact q
theorem comp_yes (f : D → D) {xs : List D} {Q : List D → Store → Prop} (o : ok S) (h : ∀ x ∈ xs, ∃ ρ', tg.put x (wipeD ρ vs) = some ρ' ∧ EvE fe ρ' S (f x)) (q : Q (xs.map f) S) : compL tg ok yesW fe vs ρ xs S Q := by
  refine comp_pure (fun _ => true) f o (fun x hx => ?_) ?_
  · obtain ⟨ρ', e, h1⟩ := h x hx
    exact ⟨ρ', e, fun Q q => q, fun _ => h1⟩
  · rw [List.filter_eq_self.mpr (fun _ _ => rfl)]; exact q
/-- .. that may change cells: P of what is left, what is found -/
theorem comp_inv (P : List D → List D → Store → Prop) {Q : List D → Store → Prop}
    (step : ∀ x xs ys S, P (x :: xs) ys S → ok S ∧ ∃ ρ', tg.put x (wipeD ρ vs) = some ρ' ∧ ∀ Q' : DQ, (∀ y S2, P xs (ys ++ [y]) S2 → Q' y S2) → fe ρ' S Q') : ∀ (xs ys : List D) (S : Store), P xs ys S → (∀ zs S, P [] (ys ++ zs) S → ok S ∧ Q zs S) → compL tg ok yesW fe vs ρ xs S Q
  | [], ys, S, p, q => by
    have z := q [] S (by rwa [List.append_nil])
    exact ⟨z.1, z.2⟩
  | x :: xs, ys, S, p, q => by
    obtain ⟨o, ρ', e, h⟩ := step x xs ys S p
    refine ⟨o, ?_⟩
    rw [e]
    refine yes_go ?_
    refine h _ fun y S2 p2 => ?_
    exact comp_inv P (Q := fun zs S3 => Q (y :: zs) S3) step xs (ys ++ [y]) S2 p2 fun zs S3 p3 => q (y :: zs) S3 (by rwa [List.append_assoc] at p3)
/-- two clauses, no cell changed -/
theorem comp2_pure (es : D → List D) (f : D → D → D) : ∀ {xs : List D} {n : Nat} {Q : List D → Store → Prop}, ok S → n + (xs.flatMap es).length < 100000 →
    (∀ x ∈ xs, ∃ ρ', tg.put x (wipeD ρ vs) = some ρ' ∧ (∀ R : List D → (Store → Prop) → Store → Prop, R (es x) ok1 S → wi1 ρ' S R) ∧ ok1 S ∧ ∀ y ∈ es x, ∃ ρ'', tg1.put y (wipeD ρ' vs1) = some ρ'' ∧ EvE fe ρ'' S (f x y)) →
    Q (xs.flatMap fun x => (es x).map (f x)) S → comp2L tg tg1 ok yesW wi1 yesW fe vs vs1 ρ n xs S Q
  | [], n, Q, o, _, _, q => ⟨o, q⟩
  | x :: xs, n, Q, o, hl, h, q => by
    obtain ⟨ρ', e, h1, o1, h2⟩ := h x List.mem_cons_self
    rw [List.flatMap_cons, List.length_append] at hl
    refine ⟨o, ?_⟩
    rw [e]
    refine yes_go ?_
    refine h1 _ ⟨szl (by omega), comp_yes (f x) o1 h2 ?_⟩
    refine comp2_pure es f o (by omega) (fun y hy => h y (List.mem_cons_of_mem _ hy)) ?_
    rw [List.flatMap_cons] at q
    exact q
/-- a loop: P of what is left -/
theorem for_inv {body : WS} {Dd : DEnds} (P : List D → Rho → Store → Prop)
    (step : ∀ x xs ρ S, P (x :: xs) ρ S → ok S ∧ ∃ ρ', tg.put x ρ = some ρ' ∧ ∀ De : DEnds, (∀ ρ2 S2, P xs ρ2 S2 → De.nx ρ2 S2) → (∀ ρ2 S2, P xs ρ2 S2 → De.ct ρ2 S2) → De.bk = Dd.nx → De.rt = Dd.rt → body De ρ' S) :
    ∀ (xs : List D) (ρ : Rho) (S : Store), P xs ρ S → (∀ ρ S, P [] ρ S → ok S ∧ Dd.nx ρ S) → forL tg ok body xs Dd ρ S
  | [], ρ, S, p, q => q ρ S p
  | x :: xs, ρ, S, p, q => by
    obtain ⟨o, ρ', e, h⟩ := step x xs ρ S p
    refine ⟨o, ?_⟩
    rw [e]
    exact h _ (fun ρ2 S2 p2 => for_inv P step xs ρ2 S2 p2 q) (fun ρ2 S2 p2 => for_inv P step xs ρ2 S2 p2 q) rfl rfl
theorem while_inv {body : WS} {Dd : DEnds} (P : Nat → Rho → Store → Prop)
    (step : ∀ n ρ S, P n ρ S → ∀ De : DEnds, (∀ m ρ2 S2, m < n → P m ρ2 S2 → De.nx ρ2 S2) → (∀ m ρ2 S2, m < n → P m ρ2 S2 → De.ct ρ2 S2) → De.bk = Dd.nx → De.rt = Dd.rt → ∀ Q' : Bool → Store → Prop, (∀ S1, body De ρ S1 → Q' true S1) → (∀ S1, Dd.nx ρ S1 → Q' false S1) → ft ρ S Q')
    :
    ∀ (n : Nat) (ρ : Rho) (S : Store), P n ρ S → whileN ft body (n + 1) Dd ρ S := by
  have key : ∀ (k n : Nat) (ρ : Rho) (S : Store), n < k → P n ρ S → whileN ft body k Dd ρ S := by
    intro k
    induction k with
    | zero => intro n ρ S h; omega
    | succ k ih =>
      intro n ρ S h p
      unfold whileN
      refine step n ρ S p { Dd with nx := fun ρ2 S2 => whileN ft body k Dd ρ2 S2, ct := fun ρ2 S2 => whileN ft body k Dd ρ2 S2, bk := Dd.nx } (fun m ρ2 S2 hm p2 => ih m ρ2 S2 (by omega) p2) (fun m ρ2 S2 hm p2 => ih m ρ2 S2 (by omega) p2) rfl rfl _ (fun S1 h1 => ?_) fun S1 h1 => ?_
      · rw [if_pos rfl]; exact h1
      · rw [if_neg Bool.false_ne_true]; exact h1
  exact fun n ρ S p => key (n + 1) n ρ S (Nat.lt_succ_self _) p
end
section
variable {fa fb : WE} {ρ : Rho} {S : Store} {Q : DQ}
theorem wEq_int {i j : Int} (q : Q (.bl (decide (i = j))) S) : wEq (.int i) (.int j) S Q := ⟨rfl, rfl, q⟩
theorem wNe_int {i j : Int} (q : Q (.bl (!decide (i = j))) S) : wNe (.int i) (.int j) S Q := ⟨rfl, rfl, q⟩
end
end DL
/-! DLd: the laws' tape and draws -/
namespace DL
open PySem PySem.Spec L2
/-- a tape: its numbers, its seed -/
def tst (ns : List Int) (s : Int) : Store := [.lst (ns.map .int), .lst [.loc 0, .int s]]
def Tk (ns : List Int) (s : Int) : Prop := ns.length < 100000 ∧ (∀ n ∈ ns, 0 ≤ n) ∧ 0 ≤ s
def m_tape : Mir := fun ds S Q => match ds with
  | [.rol xs] => match intsOf xs with
    | some ns => ns.length < 100000 ∧ S = [] ∧ ∀ ns' s, Tk ns' s → Q (.loc 1) (tst ns' s)
    | none => False
  | _ => False
theorem l_tape (ds : List D) (S : Store) (Q : DQ) (h : m_tape ds S Q) : ds.length = 1 := by
  unfold m_tape at h
  split at h
  · rfl
  · exact h.elim
def m_draw : Mir := fun ds S Q => match ds with
  | [.loc 1, .int many] => 0 < many ∧ many < 1000000 ∧ ∃ ns s J, S = tst ns s ++ J ∧ Tk ns s ∧ ∀ r ns' s', 0 ≤ r → r < many → Tk ns' s' → Q (.int r) (tst ns' s' ++ J)
  | _ => False
theorem l_draw (ds : List D) (S : Store) (Q : DQ) (h : m_draw ds S Q) : ds.length = 2 := by
  unfold m_draw at h
  split at h
  · rfl
  · exact h.elim
def rowOf : D → Option (List D)
  | .tup ds => some ds
  | .lst ds => some ds
  | .rol ds => some ds
  | _ => none
theorem rowOf_seq {d : D} {xs : List D} (S : Store) (h : rowOf d = some xs) : seqOf S d = some xs := by
  cases d <;> first | exact h | cases h
def m_pick : Mir := fun ds S Q => match ds with
  | [.loc 1, row] => match rowOf row with
    | some xs => 0 < xs.length ∧ xs.length < 1000000 ∧ ∃ ns s J, S = tst ns s ++ J ∧ Tk ns s ∧ ∀ x ns' s', x ∈ xs → Tk ns' s' → Q x (tst ns' s' ++ J)
    | none => False
  | _ => False
theorem l_pick (ds : List D) (S : Store) (Q : DQ) (h : m_pick ds S Q) : ds.length = 2 := by
  unfold m_pick at h
  split at h
  · rfl
  · exact h.elim
/-- plain data, at most n tuples deep -/
def plD : Nat → D → Bool
  | _, .non => true
  | _, .bl _ => true
  | _, .int _ => true
  | _, .str z => SeqAt.shaped (.str z)
  | 0, .tup ds => ds.isEmpty
  | n + 1, .tup ds => ds.all (plD n) && decide (ds.length < 100000)
  | _, _ => false
def m_same (n : Nat) : Mir := fun ds S Q => match ds with
  | [x, y] => plD n x = true ∧ y = x ∧ Q (.bl true) S
  | _ => False
theorem l_same (n : Nat) (ds : List D) (S : Store) (Q : DQ) (h : m_same n ds S Q) : ds.length = 2 := by
  unfold m_same at h
  split at h
  · rfl
  · exact h.elim
def dg_tape : WS :=
    (seqW (asgW (.nm 1) (cW (.int 7)))
    (seqW (forW (sqI (vW 0)) (.nm 2) (asgW (.nm 1) (opW wMod (clW wInt (consW (opW wAdd (opW wMul (vW 1) (cW (.int 31))) (vW 2)) nilW)) (cW (.int 1000003)))))
    (retW (lstN (consW (lcN (sqI (vW 0)) (.nm 2) yesW (clW wAbs (consW (clW wInt (consW (vW 2) nilW)) nilW)) [2]) (consW (opW wAdd (vW 1) (cW (.int 1))) nilW))))))
def dg_draw : WS :=
    (seqW (asgW (.nm 2) (opW wIx (vW 0) (cW (.int 0))))
    (seqW (whileW (andW (tsW (opW wGt (clW wLen (consW (vW 2) nilW)) (cW (.int 0)))) (tsW (opW wEq (opW wIx (vW 2) (cW (.int 0))) (cW (.int 0))))) (dropW (popAtW (vW 2) (cW (.int 0)))))
    (seqW (ifS (tsW (opW wGt (clW wLen (consW (vW 2) nilW)) (cW (.int 0)))) (seqW (asgW (.nm 3) (opW wIx (vW 2) (cW (.int 0))))
    (seqW (putW (opW wDiv (vW 3) (vW 1)) (vW 2) (cW (.int 0)))
    (retW (opW wMod (clW wInt (consW (vW 3) nilW)) (vW 1))))) nxW)
    (seqW (putW (opW wMod (clW wInt (consW (opW wAdd (opW wMul (opW wIx (vW 0) (cW (.int 1))) (cW (.int 48271))) (cW (.int 12345))) nilW)) (cW (.int 2147483647))) (vW 0) (cW (.int 1)))
    (retW (opW wMod (clW wInt (consW (opW wDiv (opW wIx (vW 0) (cW (.int 1))) (cW (.int 64))) nilW)) (vW 1)))))))
def dg_pick : WS :=
    (retW (opW wIx (vW 1) (clW m_draw (consW (vW 0) (consW (clW wLen (consW (vW 1) nilW)) nilW)))))
def dg_same (n : Nat) : WS :=
    (seqW (ifS (tsW (opW wIs (vW 1) (cW .non))) (retW (opW wIs (vW 0) (cW .non))) nxW)
    (seqW (ifS (truW (clW wIsi (consW (vW 1) (consW (cW (.ty "bool")) nilW)))) (retW (andV (clW wIsi (consW (vW 0) (consW (cW (.ty "bool")) nilW))) (opW wEq (vW 0) (vW 1)))) nxW)
    (seqW (ifS (truW (clW wIsi (consW (vW 1) (consW (cW (.ty "tuple")) nilW)))) (seqW (ifS (orW (notW (truW (clW wIsi (consW (vW 0) (consW (cW (.ty "tuple")) nilW))))) (tsW (opW wNe (clW wLen (consW (vW 0) nilW)) (clW wLen (consW (vW 1) nilW))))) (retW (cW (.bl false))) nxW)
    (retW (clW wAll (consW (lcW (rgI1 (consW (clW wLen (consW (vW 1) nilW)) nilW)) (.nm 2) yesW (clW (prv m_same n) (consW (opW wIx (vW 0) (vW 2)) (consW (opW wIx (vW 1) (vW 2)) nilW))) [2]) nilW)))) nxW)
    (seqW (ifS (truW (clW wIsi (consW (vW 1) (consW (cW (.ty "str")) nilW)))) (retW (andV (clW wIsi (consW (vW 0) (consW (cW (.ty "str")) nilW))) (opW wEq (vW 0) (vW 1)))) nxW)
    (retW (andV (clW wIsi (consW (vW 0) (consW (cW (.ty "int")) nilW))) (andV (notV (clW wIsi (consW (vW 0) (consW (cW (.ty "bool")) nilW)))) (opW wEq (vW 0) (vW 1)))))))))
theorem cmul_r {i j : Int} (h1 : -(2 ^ 64) < j := by decide) (h2 : j < 2 ^ 64 := by decide) : CMul i j := .inr ⟨h1, h2⟩
theorem fmod_lo {i j : Int} (h : 0 < j) : 0 ≤ i.fmod j := Int.fmod_nonneg_of_pos i h
theorem fmod_hi {i j : Int} (h : 0 < j) : i.fmod j < j := Int.fmod_lt_of_pos i h
theorem sp_tape (ds : List D) (S : Store) (Q : DQ) (hS : S.all (Cell.blw S.length) = true) (h : m_tape ds S Q) : dg_tape (D0 S Q) (startD ["script", "seed", "cell"] ds) S := by
  unfold m_tape at h
  split at h
  · split at h
    · rename_i xs ns e
      obtain rfl := of_intsOf e
      obtain ⟨hl, rfl, q⟩ := h
      refine seq_asg (d := .int 7) (fun Q q => q) ?_
      show forL _ _ _ (ns.map .int) _ _ _
      refine for_inv (fun xs ρ S' => ∃ s c ms, xs = List.map D.int ms ∧ S' = [] ∧ ρ = [some (D.rol (ns.map .int)), some (.int s), c] ∧ 0 ≤ s) ?_ _ _ _ ⟨7, none, ns, rfl, rfl, rfl, by decide⟩ ?_
      · rintro x xs ρ S' ⟨s, c, ms, e, rfl, rfl, h0⟩
        cases ms with
        | nil => cases e
        | cons m ms =>
          cases e
          refine ⟨trivial, _, rfl, fun De h1 _ _ _ => ?_⟩
          refine ⟨cmul_r, (by decide : (1000003 : Int) ≠ 0), ?_⟩
          exact h1 _ _ ⟨_, _, ms, rfl, rfl, rfl, fmod_lo (by decide)⟩
      · rintro ρ S' ⟨s, c, ms, e, rfl, rfl, h0⟩
        refine ⟨trivial, ?_⟩
        show _ ∧ compL _ _ _ _ _ _ (ns.map .int) _ _
        refine ⟨szl (by simpa using hl), ?_⟩
        refine comp_yes (fun d => match d with | .int i => .int (if i < 0 then -i else i) | d => d) trivial ?_ ?_
        · intro x hx
          obtain ⟨n, _, rfl⟩ := List.mem_map.mp hx
          exact ⟨_, rfl, fun Q q => q⟩
        · refine ⟨sz2, .inl ?_⟩
          have e2 : (ns.map D.int).map (fun d => match d with | .int i => .int (if i < 0 then -i else i) | d => d) = (ns.map fun i => if i < 0 then -i else i).map D.int := by
            rw [List.map_map, List.map_map]; rfl
          rw [e2]
          refine q _ (s + 1) ⟨by simpa using hl, fun n hn => ?_, by omega⟩
          obtain ⟨i, _, rfl⟩ := List.mem_map.mp hn
          split <;> omega
    · exact h.elim
  · exact h.elim
theorem ix0 {n : Nat} (h : 0 < n) : ixN n 0 = some 0 := by
  unfold ixN
  rw [if_pos (by decide), if_pos (by omega)]; rfl
theorem sp_draw (ds : List D) (S : Store) (Q : DQ) (hS : S.all (Cell.blw S.length) = true) (h : m_draw ds S Q) : dg_draw (D0 S Q) (startD ["tape", "many", "cells", "number"] ds) S := by
  unfold m_draw at h
  split at h
  · rename_i many
    obtain ⟨h0, h1, ns0, s, J, rfl, ⟨k1, k2, k3⟩, q⟩ := h
    refine seq_asg (d := .loc 0) (fun Q q => q) ?_
    generalize hD : D0 (tst ns0 s ++ J) Q = Dd
    have hrt : ∀ r S', Q (.int r) S' → Dd.rt (.int r) S' := fun r S' q => by subst hD; exact .inl q
    clear hD
    refine ⟨ns0.length + 1, ?_⟩
    refine while_inv (fun n ρ S' => ∃ ns, n = ns.length ∧ ns.length < 100000 ∧ (∀ n ∈ ns, 0 ≤ n) ∧ ρ = [some (.loc 1), some (.int many), some (.loc 0), none] ∧ S' = tst ns s ++ J) ?_ _ _ _ ⟨ns0, rfl, k1, k2, rfl, rfl⟩
    rintro n ρ S' ⟨ns, rfl, j1, j2, rfl, rfl⟩ De e1 _ _ _ Q' hT hF
    have hF := hF (tst ns s ++ J)
    have hT := hT (tst ns s ++ J)
    cases ns with
    | nil =>
      refine hF ?_
      refine ⟨cmul_r, (by decide : (2147483647 : Int) ≠ 0), ?_⟩
      refine ⟨⟨by decide, by decide⟩, (by omega : many ≠ 0), ?_⟩
      refine hrt _ _ (q _ [] _ (fmod_lo h0) (fmod_hi h0) ⟨by decide, by simp, fmod_lo (by decide)⟩)
    | cons n ns =>
      have hn : 0 ≤ n := j2 n List.mem_cons_self
      have hl : (List.map D.int (n :: ns)).length < 100000 := by simpa using j1
      have hp : (0 : Int) < ((List.map D.int (n :: ns)).length : Nat) := by simp
      refine (if_pos (decide_eq_true hp)).mpr ?_
      refine ⟨rfl, rfl, ?_⟩
      show Q' (n == 0) _
      by_cases hz : n = 0
      · rw [hz, beq_self_eq_true]
        rw [hz] at hT
        refine hT ?_
        refine ⟨⟨by decide, by decide⟩, ?_⟩
        rw [ix0 (by simp)]
        exact e1 ns.length _ _ (Nat.lt_succ_self _) ⟨ns, rfl, by simp at j1; omega, fun m hm => j2 m (List.mem_cons_of_mem _ hm), rfl, rfl⟩
      · rw [beq_eq_false_iff_ne.mpr hz]
        refine hF ?_
        refine (if_pos (decide_eq_true hp)).mpr ?_
        refine ⟨⟨by omega, by omega⟩, ?_⟩
        show match ixN _ 0 with | some j => _ | none => False
        rw [ix0 (by simp)]
        refine ⟨(by omega : many ≠ 0), ?_⟩
        refine hrt _ _ (q _ (n.fdiv many :: ns) s (fmod_lo h0) (fmod_hi h0) ⟨by simpa using j1, fun m hm => ?_, k3⟩)
        rcases List.mem_cons.mp hm with rfl | hm
        · exact Int.fdiv_nonneg hn (by omega)
        · exact j2 m (List.mem_cons_of_mem _ hm)
  · exact h.elim
theorem sp_pick (ds : List D) (S : Store) (Q : DQ) (hS : S.all (Cell.blw S.length) = true) (h : m_pick ds S Q) : dg_pick (D0 S Q) (startD ["tape", "row"] ds) S := by
  unfold m_pick at h
  split at h
  · rename_i row
    split at h
    · rename_i xs e
      obtain ⟨h0, h1, ns, s, J, rfl, k, q⟩ := h
      have len : ∀ S' Q', Q' (.int xs.length) S' → wLen [row] S' Q' := fun S' Q' q' => by
        cases row <;> first | (cases e; exact q') | cases e
      show wLen [row] (tst ns s ++ J) fun d S2 => m_draw [.loc 1, d] S2 fun d2 S3 => wIx row d2 S3 (exitQ (tst ns s ++ J).length Q)
      refine len _ _ ?_
      refine ⟨by omega, by omega, ns, s, J, rfl, k, fun r ns' s' r0 r1 k' => ?_⟩
      have hr : r.toNat < xs.length := by omega
      have ix : ∀ S' Q', Q' xs[r.toNat] S' → wIx row (.int r) S' Q' := fun S' Q' q' => by
        have e3 : ixD xs r = some xs[r.toNat] := by
          unfold ixD
          rw [if_pos r0, List.getElem?_eq_getElem hr]
        cases row <;> first | (cases e; show (match ixD xs r with | some d => Q' d S' | none => False); rw [e3]; exact q') | cases e
      exact ix _ _ (.inl (q _ ns' s' (List.getElem_mem hr) k'))
    · exact h.elim
  · exact h.elim
theorem sp_same (n : Nat) (ds : List D) (S : Store) (Q : DQ) (hS : S.all (Cell.blw S.length) = true) (h : m_same n ds S Q) : dg_same n (D0 S Q) (startD ["actual", "due", "k"] ds) S := by
  unfold m_same at h
  split at h
  · rename_i x y
    obtain ⟨hp, e, q⟩ := h
    subst e
    cases y with
    | non => exact .inl q
    | bl b => cases b <;> exact ⟨rfl, rfl, .inl q⟩
    | int i =>
      refine ⟨rfl, rfl, .inl ?_⟩
      show Q (.bl (i == i)) S
      rw [beq_self_eq_true]; exact q
    | str z =>
      have hz : SeqAt.shaped (.str z) = true := by
        cases n <;> exact hp
      refine ⟨hz, hz, .inl ?_⟩
      show Q (.bl (z == z)) S
      rw [beq_self_eq_true]; exact q
    | tup xs =>
      have hl : xs.length < 100000 := by
        cases n with
        | zero =>
          have z : xs = [] := List.isEmpty_iff.mp hp
          subst z; decide
        | succ n =>
          have z : (xs.all (plD n) && decide (xs.length < 100000)) = true := hp
          rw [Bool.and_eq_true] at z
          exact of_decide_eq_true z.2
      refine ⟨rfl, rfl, ?_⟩
      show (if (!((xs.length : Int) == (xs.length : Int))) = true then _ else _)
      rw [beq_self_eq_true, if_neg (by decide)]
      refine ⟨by omega, by omega, ?_⟩
      refine ⟨szl (by rw [rngD_length]; omega), ?_⟩
      refine comp_yes (fun _ => .bl true) trivial ?_ ?_
      · intro x hx
        obtain ⟨i, hi, rfl⟩ := List.mem_map.mp hx
        have hi' : i < xs.length := by simpa using List.mem_range.mp hi
        refine ⟨_, rfl, fun Q' q' => ?_⟩
        have e3 : ixD xs (0 + (i : Int)) = some xs[i] := by
          unfold ixD
          rw [if_pos (by omega), show ((0 : Int) + (i : Int)).toNat = i by omega, List.getElem?_eq_getElem hi']
        show (match ixD xs (0 + (i : Int)) with | some d => _ | none => False)
        rw [e3]
        show (match ixD xs (0 + (i : Int)) with | some d => _ | none => False)
        rw [e3]
        cases n with
        | zero =>
          have z : xs = [] := List.isEmpty_iff.mp hp
          subst z; exact absurd hi' (Nat.not_lt_zero _)
        | succ n =>
          have z : (xs.all (plD n) && decide (xs.length < 100000)) = true := hp
          rw [Bool.and_eq_true] at z
          exact ⟨List.all_eq_true.mp z.1 _ (List.getElem_mem hi'), rfl, q'⟩
      · show wAll [.lst _] S _
        have e4 : (rngD 0 xs.length).map (fun _ => D.bl true) = ((rngD 0 xs.length).map fun _ => true).map D.bl := by rw [List.map_map]; rfl
        have e5 : (xs.length : Int).toNat = xs.length := by omega
        rw [e5, e4]
        show (match blsOf (((rngD 0 xs.length).map fun _ => true).map D.bl) with | some bs => _ | _ => False)
        rw [blsOf_map]
        show exitQ S.length Q (.bl (((rngD 0 xs.length).map fun _ => true).all id)) S
        have e6 : ((rngD 0 xs.length).map fun _ => true).all id = true := by simp
        rw [e6]
        exact .inl q
    | _ => cases n <;> cases hp
  · exact h.elim
end DL
/-! DLv: values of expressions -/
namespace DL
open PySem PySem.Spec L2
section
variable {ρ : Rho} {S : Store} {fe fa fb fc : WE} {ft : WT} {x y d : D} {i : Nat} {k j : Bool} {m n : Int}
theorem ev_v (h : lk ρ i = some d) : EvE (vW i) ρ S d := fun Q q => by
  unfold vW; rw [h]; exact q
theorem ev_c : EvE (cW d) ρ S d := fun Q q => q
theorem ev_op {w : W2} (h1 : EvE fa ρ S x) (h2 : EvE fb ρ S y) (h : ∀ Q : DQ, Q d S → w x y S Q) : EvE (opW w fa fb) ρ S d := fun Q q => h1 _ (h2 _ (h _ q))
theorem ev_neg (h1 : EvE fa ρ S (.int n)) : EvE (unW wNeg fa) ρ S (.int (-n)) := fun Q q => h1 _ q
theorem ev_add (h1 : EvE fa ρ S (.int m)) (h2 : EvE fb ρ S (.int n)) : EvE (opW wAdd fa fb) ρ S (.int (m + n)) := fun Q q => h1 _ (h2 _ q)
theorem ev_sub (h1 : EvE fa ρ S (.int m)) (h2 : EvE fb ρ S (.int n)) : EvE (opW wSub fa fb) ρ S (.int (m - n)) := fun Q q => h1 _ (h2 _ q)
theorem ev_mul (h1 : EvE fa ρ S (.int m)) (h2 : EvE fb ρ S (.int n)) (c : CMul m n) : EvE (opW wMul fa fb) ρ S (.int (m * n)) := fun Q q => h1 _ (h2 _ ⟨c, q⟩)
theorem ev_div (h1 : EvE fa ρ S (.int m)) (h2 : EvE fb ρ S (.int n)) (c : CDivN m n) : EvE (opW wDiv fa fb) ρ S (.int (m.fdiv n)) := fun Q q => h1 _ (h2 _ ⟨c, q⟩)
theorem ev_mod (h1 : EvE fa ρ S (.int m)) (h2 : EvE fb ρ S (.int n)) (c : n ≠ 0) : EvE (opW wMod fa fb) ρ S (.int (m.fmod n)) := fun Q q => h1 _ (h2 _ ⟨c, q⟩)
theorem ev_lt (h1 : EvE fa ρ S (.int m)) (h2 : EvE fb ρ S (.int n)) : EvE (opW wLt fa fb) ρ S (.bl (decide (m < n))) := fun Q q => h1 _ (h2 _ q)
theorem ev_le (h1 : EvE fa ρ S (.int m)) (h2 : EvE fb ρ S (.int n)) : EvE (opW wLe fa fb) ρ S (.bl (decide (m ≤ n))) := fun Q q => h1 _ (h2 _ q)
theorem ev_gt (h1 : EvE fa ρ S (.int m)) (h2 : EvE fb ρ S (.int n)) : EvE (opW wGt fa fb) ρ S (.bl (decide (n < m))) := fun Q q => h1 _ (h2 _ q)
theorem ev_ge (h1 : EvE fa ρ S (.int m)) (h2 : EvE fb ρ S (.int n)) : EvE (opW wGe fa fb) ρ S (.bl (decide (n ≤ m))) := fun Q q => h1 _ (h2 _ q)
theorem ev_eq (h1 : EvE fa ρ S (.int m)) (h2 : EvE fb ρ S (.int n)) : EvE (opW wEq fa fb) ρ S (.bl (decide (m = n))) := fun Q q => h1 _ (h2 _ (wEq_int q))
theorem ev_ne (h1 : EvE fa ρ S (.int m)) (h2 : EvE fb ρ S (.int n)) : EvE (opW wNe fa fb) ρ S (.bl (!decide (m = n))) := fun Q q => h1 _ (h2 _ (wNe_int q))
theorem ev_isn (h1 : EvE fa ρ S x) : EvE (opW wIs fa (cW .non)) ρ S (.bl x.isNon) := fun Q q => h1 _ q
theorem ev_isnn (h1 : EvE fa ρ S x) : EvE (opW wIsnt fa (cW .non)) ρ S (.bl (!x.isNon)) := fun Q q => h1 _ q
theorem ev_isb (h1 : EvE fa ρ S (.bl k)) : EvE (opW wIs fa (cW (.bl j))) ρ S (.bl (decide (k = j))) := fun Q q => h1 _ q
theorem ev_tix {xs : List D} (h1 : EvE fa ρ S (.tup xs)) (h : ixD xs n = some d) : EvE (opW wIx fa (cW (.int n))) ρ S d := fun Q q => h1 _ (by
  show (match ixD xs n with | some d => Q d S | none => False)
  rw [h]; exact q)
theorem ev_lix {xs : List D} (h1 : EvE fa ρ S (.lst xs)) (h2 : EvE fb ρ S (.int n)) (h : ixD xs n = some d) : EvE (opW wIx fa fb) ρ S d := fun Q q => h1 _ (h2 _ (by
  show (match ixD xs n with | some d => Q d S | none => False)
  rw [h]; exact q))
theorem evt_ts (h : EvE fe ρ S (.bl k)) : EvT (tsW fe) ρ S k := fun Q q => h _ q
theorem evt_tru (h : EvE fe ρ S (.bl k)) : EvT (truW fe) ρ S k := fun Q q => h _ q
theorem ev_not (h : EvE fe ρ S (.bl k)) : EvE (notV fe) ρ S (.bl (!k)) := fun Q q => h _ q
theorem ev_and (h1 : EvE fa ρ S (.bl k)) (h2 : k = true → EvE fb ρ S (.bl j)) : EvE (andV fa fb) ρ S (.bl (k && j)) := fun Q q => h1 _ (by
  cases k with
  | true => exact h2 rfl Q q
  | false => exact q)
theorem ev_or (h1 : EvE fa ρ S (.bl k)) (h2 : k = false → EvE fb ρ S (.bl j)) : EvE (orV fa fb) ρ S (.bl (k || j)) := fun Q q => h1 _ (by
  cases k with
  | true => exact q
  | false => exact h2 rfl Q q)
theorem ev_tup2 (h1 : EvE fa ρ S x) (h2 : EvE fb ρ S y) : EvE (tupW (consW fa (consW fb nilW))) ρ S (.tup [x, y]) := fun Q q => h1 _ (h2 _ ⟨sz2, q⟩)
theorem ev_abs (h1 : EvE fa ρ S (.int n)) : EvE (clW wAbs (consW fa nilW)) ρ S (.int (if n < 0 then -n else n)) := fun Q q => h1 _ q
theorem ev_min2 (h1 : EvE fa ρ S (.int m)) (h2 : EvE fb ρ S (.int n)) : EvE (clW wMin (consW fa (consW fb nilW))) ρ S (.int (if n < m then n else m)) := fun Q q => h1 _ (h2 _ q)
theorem ev_max2 (h1 : EvE fa ρ S (.int m)) (h2 : EvE fb ρ S (.int n)) : EvE (clW wMax (consW fa (consW fb nilW))) ρ S (.int (if m < n then n else m)) := fun Q q => h1 _ (h2 _ q)
theorem ev_all {bs : List Bool} (h1 : EvE fa ρ S (.lst (bs.map .bl))) : EvE (clW wAll (consW fa nilW)) ρ S (.bl (bs.all id)) := fun Q q => h1 _ (by
  show (match blsOf (bs.map D.bl) with | some bs => Q (.bl (bs.all id)) S | _ => False)
  rw [blsOf_map]; exact q)
theorem ev_any {bs : List Bool} (h1 : EvE fa ρ S (.lst (bs.map .bl))) : EvE (clW wAny (consW fa nilW)) ρ S (.bl (bs.any id)) := fun Q q => h1 _ (by
  show (match blsOf (bs.map D.bl) with | some bs => Q (.bl (bs.any id)) S | _ => False)
  rw [blsOf_map]; exact q)
end
/-! calls that may change the store -/
section
variable {ρ : Rho} {S : Store} {fe fa fb fc : WE} {ft fu : WT} {x y z : D} {w : WC} {w2 : W2} {Q : DQ} {R : Bool → Store → Prop} {g h rest : WS} {Dd : DEnds}
theorem q_call1 (h1 : EvE fa ρ S x) (q : w [x] S Q) : clW w (consW fa nilW) ρ S Q := h1 _ q
theorem q_call2 (h1 : EvE fa ρ S x) (h2 : EvE fb ρ S y) (q : w [x, y] S Q) : clW w (consW fa (consW fb nilW)) ρ S Q := h1 _ (h2 _ q)
theorem q_call3 (h1 : EvE fa ρ S x) (h2 : EvE fb ρ S y) (h3 : EvE fc ρ S z) (q : w [x, y, z] S Q) : clW w (consW fa (consW fb (consW fc nilW))) ρ S Q := h1 _ (h2 _ (h3 _ q))
theorem q_opl (h2 : ∀ S1, EvE fb ρ S1 y) (q : fa ρ S fun x S1 => w2 x y S1 Q) (mono : ∀ P P' : DQ, (∀ d S, P d S → P' d S) → fa ρ S P → fa ρ S P') : opW w2 fa fb ρ S Q := mono _ _ (fun x S1 q => h2 S1 _ q) q
theorem q_opr (h1 : EvE fa ρ S x) (q : fb ρ S fun y S1 => w2 x y S1 Q) : opW w2 fa fb ρ S Q := h1 _ q
theorem q_or (h1 : EvT ft ρ S false) (q : fu ρ S R) : orW ft fu ρ S R := h1 _ q
theorem q_nottru (q : fe ρ S fun x S1 => match truD S1 x with | some k => R (!k) S1 | none => False) : notW (truW fe) ρ S R := q
theorem q_tru (q : fe ρ S fun x S1 => match truD S1 x with | some k => R k S1 | none => False) : truW fe ρ S R := q
theorem seq_ifQ (q : ft ρ S fun k S1 => if k = true then seqW g rest Dd ρ S1 else seqW h rest Dd ρ S1) : seqW (ifS ft g h) rest Dd ρ S := q
end
/-! walks -/
def WIv (wi : WI) (ρ : Rho) (S : Store) (xs : List D) : Prop := ∀ R : List D → (Store → Prop) → Store → Prop, R xs (fun _ => True) S → wi ρ S R
theorem wiv_l {ρ : Rho} {S : Store} {fe : WE} {xs : List D} (h : EvE fe ρ S (.lst xs)) : WIv (sqI fe) ρ S xs := fun R r => h _ r
theorem wiv_t {ρ : Rho} {S : Store} {fe : WE} {xs : List D} (h : EvE fe ρ S (.tup xs)) : WIv (sqI fe) ρ S xs := fun R r => h _ r
theorem wiv_r1 {ρ : Rho} {S : Store} {fe : WE} {n : Int} (h : EvE fe ρ S (.int n)) (h1 : -(2 ^ 62) ≤ n) (h2 : n < 2 ^ 62) : WIv (rgI1 (consW fe nilW)) ρ S (rngD 0 n.toNat) := fun R r => h _ ⟨h1, h2, r⟩
theorem wiv_r2 {ρ : Rho} {S : Store} {fa fb : WE} {m n : Int} (h : EvE fa ρ S (.int m)) (h' : EvE fb ρ S (.int n)) (h1 : -(2 ^ 62) ≤ m) (h2 : m < 2 ^ 62) (h3 : -(2 ^ 62) ≤ n) (h4 : n < 2 ^ 62) : WIv (rgI2 (consW fa (consW fb nilW))) ρ S (rngD m (n - m).toNat) := fun R r => h _ (h' _ ⟨⟨h1, h2, h3, h4⟩, r⟩)
theorem seq_for {wi : WI} {ρ : Rho} {S : Store} {xs : List D} {tg : Tg} {body rest : WS} {Dd : DEnds} (h : WIv wi ρ S xs) (q : forL tg (fun _ => True) body xs { Dd with nx := rest Dd } ρ S) : seqW (forW wi tg body) rest Dd ρ S := h _ q
/-- the ints of a range -/
def rng (lo : Int) (n : Nat) : List Int := (List.range n).map fun (i : Nat) => lo + (i : Int)
theorem rngD_eq (lo : Int) (n : Nat) : rngD lo n = (rng lo n).map .int := by
  unfold rng
  rw [List.map_map]; rfl
theorem rng_len (lo : Int) (n : Nat) : (rng lo n).length = n := by unfold rng; simp
theorem mem_rng {lo : Int} {n : Nat} {x : Int} : x ∈ rng lo n ↔ lo ≤ x ∧ x < lo + n := by
  unfold rng
  simp only [List.mem_map, List.mem_range]
  constructor
  · rintro ⟨i, h, rfl⟩; omega
  · intro h; exact ⟨(x - lo).toNat, by omega, by omega⟩
/-- [e for i in xs if t], ints, ints -/
theorem ev_lcI {wi : WI} {ρ : Rho} {S : Store} {i : Nat} {vs : List Nat} {ft : WT} {fe : WE} {ns : List Int} (k : Int → Bool) (f : Int → D) (hw : WIv wi ρ S (ns.map .int)) (hl : ns.length < 100000)
    (h : ∀ n ∈ ns, EvT ft ((wipeD ρ vs).set i (some (.int n))) S (k n) ∧ (k n = true → EvE fe ((wipeD ρ vs).set i (some (.int n))) S (f n))) : EvE (lcW wi (.nm i) ft fe vs) ρ S (.lst ((ns.filter k).map f)) := by
  intro Q q
  refine hw _ ⟨szl (by rw [List.length_map]; exact hl), ?_⟩
  refine comp_pure (fun d => match d with | .int n => k n | _ => false) (fun d => match d with | .int n => f n | d => d) trivial ?_ ?_
  · intro x hx
    obtain ⟨n, hn, rfl⟩ := List.mem_map.mp hx
    exact ⟨_, rfl, h n hn⟩
  · have e : ((ns.map D.int).filter fun d => match d with | .int n => k n | _ => false).map (fun d => match d with | .int n => f n | d => d) = (ns.filter k).map f := by
      rw [List.filter_map, List.map_map]; rfl
    rw [e]; exact q
theorem ev_lcIy {wi : WI} {ρ : Rho} {S : Store} {i : Nat} {vs : List Nat} {fe : WE} {ns : List Int} (f : Int → D) (hw : WIv wi ρ S (ns.map .int)) (hl : ns.length < 100000)
    (h : ∀ n ∈ ns, EvE fe ((wipeD ρ vs).set i (some (.int n))) S (f n)) : EvE (lcW wi (.nm i) yesW fe vs) ρ S (.lst (ns.map f)) := by
  have g := ev_lcI (ft := yesW) (fun _ => true) f hw hl fun n hn => ⟨fun Q q => q, fun _ => h n hn⟩
  rwa [List.filter_eq_self.mpr (fun _ _ => rfl)] at g
/-! lists of ints against [] -/
theorem pysD_ints (S : Store) : ∀ ns : List Int, pysD S (ns.map .int) = some (ns.map .int)
  | [] => rfl
  | n :: ns => by
    show (match pyD S (.int n), pysD S (ns.map .int) with | some p, some ps => some (p :: ps) | _, _ => none) = _
    rw [pysD_ints S ns]; rfl
theorem lay_all : ∀ {ps : List PyData}, (∀ p ∈ ps, p.canLay0 = true ∧ p.depth ≤ 63) → PyData.canLayAll0 ps = true ∧ PyData.depthAll ps ≤ 63
  | [], _ => ⟨rfl, by decide⟩
  | p :: ps, h => by
    have h1 := h p List.mem_cons_self
    have h2 := lay_all fun q hq => h q (List.mem_cons_of_mem _ hq)
    refine ⟨?_, ?_⟩
    · rw [PyData.canLayAll0, h1.1, h2.1]; rfl
    · rw [PyData.depthAll]; exact Nat.max_le.mpr ⟨h1.2, h2.2⟩
theorem shaped_list {ps : List PyData} (h : ∀ p ∈ ps, p.canLay0 = true ∧ p.depth ≤ 63) : SeqAt.shaped (.list ps) = true := by
  have q := lay_all h
  unfold SeqAt.shaped
  rw [PyData.canLay0, q.1, PyData.depth]
  simp only [Bool.true_and, decide_eq_true_eq]
  omega
theorem shaped_ints (ns : List Int) : SeqAt.shaped (.list (ns.map .int)) = true := shaped_list fun p hp => by
  obtain ⟨n, _, rfl⟩ := List.mem_map.mp hp
  exact ⟨by rw [PyData.canLay0], by rw [PyData.depth]; omega⟩
theorem eqv_nil : ∀ ps : List PyData, PyData.eqv (.list ps) (.list []) = ps.isEmpty
  | [] => rfl
  | _ :: _ => rfl
section
variable {ρ : Rho} {S : Store} {fe : WE} {ns : List Int}
theorem pyT_ints (S : Store) (ns : List Int) : pyT S (.lst (ns.map .int)) = some (.list (ns.map .int)) := by
  show (match pysD S (ns.map .int) with | some ps => some (PyData.list ps) | none => none) = _
  rw [pysD_ints]
theorem ev_eqnil (h : EvE fe ρ S (.lst (ns.map .int))) : EvE (opW wEq fe (lstW nilW)) ρ S (.bl ns.isEmpty) := fun Q q => h _ ⟨sz0, by
  show (match pyT S (.lst (ns.map .int)), pyT S (.lst []) with | some p, some q => SeqAt.shaped p = true ∧ SeqAt.shaped q = true ∧ Q (.bl (PyData.eqv p q)) S | _, _ => False)
  rw [pyT_ints]
  refine ⟨shaped_ints ns, rfl, ?_⟩
  rw [eqv_nil, List.isEmpty_map]; exact q⟩
theorem ev_nenil (h : EvE fe ρ S (.lst (ns.map .int))) : EvE (opW wNe fe (lstW nilW)) ρ S (.bl (!ns.isEmpty)) := fun Q q => h _ ⟨sz0, by
  show (match pyT S (.lst (ns.map .int)), pyT S (.lst []) with | some p, some q => SeqAt.shaped p = true ∧ SeqAt.shaped q = true ∧ Q (.bl (!PyData.eqv p q)) S | _, _ => False)
  rw [pyT_ints]
  refine ⟨shaped_ints ns, rfl, ?_⟩
  rw [eqv_nil, List.isEmpty_map]; exact q⟩
theorem inD_ints (n : Int) (ns : List Int) : inD (.int n) (ns.map .int) = ns.any fun k => k == n := by
  induction ns with
  | nil => rfl
  | cons m ns ih => rw [List.map_cons, List.any_cons, ← ih]; rfl
theorem flt_ints (ns : List Int) : (ns.map D.int).all D.flt = true := by
  induction ns with
  | nil => rfl
  | cons m ns ih => rw [List.map_cons, List.all_cons, ih]; rfl
theorem ev_in {n : Int} {fa fb : WE} (h1 : EvE fa ρ S (.int n)) (h2 : EvE fb ρ S (.lst (ns.map .int))) : EvE (opW (wIn false) fa fb) ρ S (.bl (ns.any fun k => k == n)) := fun Q q => h1 _ (h2 _ (by
  refine ⟨rfl, flt_ints ns, ?_⟩
  show Q (.bl (inD (.int n) (ns.map .int))) S
  rw [inD_ints]; exact q))
end
theorem ixD_last {a : D} {xs : List D} : ixD (xs ++ [a]) (-1) = some a := by
  have e : (xs ++ [a]).length = xs.length + 1 := by simp
  unfold ixD
  rw [if_neg (by decide), if_pos (by rw [e]; omega), e, show (((-1 : Int) + ((xs.length + 1 : Nat) : Int)).toNat) = xs.length by omega]
  simp
end DL
namespace K40
open PySem PySem.Spec PyProof.Rows L2 DL
def topS (i : Nat) : Stmt := PySem.Challenge.pw_foreseen_k40_whole_spans.main.body.getD i (.Pass ⟨0, 0, 0, 0⟩)
abbrev s_is_span : Stmt := topS 3
theorem sc_is_span : FnScope ["value", "end"] ["value"] (defScope s_is_span) := ⟨rfl, rfl, rfl, by decide +kernel, rfl, by decide +kernel, by decide +kernel⟩
abbrev s_of : Stmt := topS 4
theorem sc_of : FnScope ["number"] ["number"] (defScope s_of) := ⟨rfl, rfl, rfl, by decide +kernel, rfl, by decide +kernel, by decide +kernel⟩
abbrev s_tamed : Stmt := topS 5
theorem sc_tamed : FnScope ["one", "low", "high"] ["one"] (defScope s_tamed) := ⟨rfl, rfl, rfl, by decide +kernel, rfl, by decide +kernel, by decide +kernel⟩
abbrev s_holds : Stmt := topS 6
theorem sc_holds : FnScope ["one", "number"] ["one", "number"] (defScope s_holds) := ⟨rfl, rfl, rfl, by decide +kernel, rfl, by decide +kernel, by decide +kernel⟩
abbrev s_is_within : Stmt := topS 7
theorem sc_is_within : FnScope ["one", "other", "low"] ["one", "other"] (defScope s_is_within) := ⟨rfl, rfl, rfl, by decide +kernel, rfl, by decide +kernel, by decide +kernel⟩
abbrev s_join : Stmt := topS 8
theorem sc_join : FnScope ["one", "other", "low"] ["one", "other"] (defScope s_join) := ⟨rfl, rfl, rfl, by decide +kernel, rfl, by decide +kernel, by decide +kernel⟩
abbrev s_meet : Stmt := topS 9
theorem sc_meet : FnScope ["one", "other", "low", "high"] ["one", "other"] (defScope s_meet) := ⟨rfl, rfl, rfl, by decide +kernel, rfl, by decide +kernel, by decide +kernel⟩
abbrev s_widen : Stmt := topS 10
theorem sc_widen : FnScope ["one", "other", "marks", "low", "high", "below", "above", "mark"] ["one", "other", "marks"] (defScope s_widen) := ⟨rfl, rfl, rfl, by decide +kernel, rfl, by decide +kernel, by decide +kernel⟩
abbrev s_narrow : Stmt := topS 11
theorem sc_narrow : FnScope ["one", "other"] ["one", "other"] (defScope s_narrow) := ⟨rfl, rfl, rfl, by decide +kernel, rfl, by decide +kernel, by decide +kernel⟩
abbrev s_add : Stmt := topS 12
theorem sc_add : FnScope ["one", "other", "low"] ["one", "other"] (defScope s_add) := ⟨rfl, rfl, rfl, by decide +kernel, rfl, by decide +kernel, by decide +kernel⟩
abbrev s_contrary : Stmt := topS 13
theorem sc_contrary : FnScope ["one"] ["one"] (defScope s_contrary) := ⟨rfl, rfl, rfl, by decide +kernel, rfl, by decide +kernel, by decide +kernel⟩
abbrev s_size_of : Stmt := topS 24
theorem sc_size_of : FnScope ["one"] ["one"] (defScope s_size_of) := ⟨rfl, rfl, rfl, by decide +kernel, rfl, by decide +kernel, by decide +kernel⟩
abbrev s_law_tape : Stmt := topS 26
theorem sc_law_tape : FnScope ["script", "seed", "cell"] ["script"] (defScope s_law_tape) := ⟨rfl, rfl, rfl, by decide +kernel, rfl, by decide +kernel, by decide +kernel⟩
abbrev s_law_draw : Stmt := topS 27
theorem sc_law_draw : FnScope ["tape", "many", "cells", "number"] ["tape", "many"] (defScope s_law_draw) := ⟨rfl, rfl, rfl, by decide +kernel, rfl, by decide +kernel, by decide +kernel⟩
abbrev s_law_far : Stmt := topS 31
theorem sc_law_far : FnScope ["span"] ["span"] (defScope s_law_far) := ⟨rfl, rfl, rfl, by decide +kernel, rfl, by decide +kernel, by decide +kernel⟩
abbrev s_law_near : Stmt := topS 32
theorem sc_law_near : FnScope ["low", "high"] ["low", "high"] (defScope s_law_near) := ⟨rfl, rfl, rfl, by decide +kernel, rfl, by decide +kernel, by decide +kernel⟩
abbrev s_law_numbers : Stmt := topS 33
theorem sc_law_numbers : FnScope ["span", "number"] ["span"] (defScope s_law_numbers) := ⟨rfl, rfl, rfl, by decide +kernel, rfl, by decide +kernel, by decide +kernel⟩
abbrev s_law_in : Stmt := topS 34
theorem sc_law_in : FnScope ["span", "number"] ["span", "number"] (defScope s_law_in) := ⟨rfl, rfl, rfl, by decide +kernel, rfl, by decide +kernel, by decide +kernel⟩
abbrev s_subtract : Stmt := topS 14
theorem sc_subtract : FnScope ["one", "other"] ["one", "other"] (defScope s_subtract) := ⟨rfl, rfl, rfl, by decide +kernel, rfl, by decide +kernel, by decide +kernel⟩
abbrev s_end_signs : Stmt := topS 16
theorem sc_end_signs : FnScope ["one", "found"] ["one"] (defScope s_end_signs) := ⟨rfl, rfl, rfl, by decide +kernel, rfl, by decide +kernel, by decide +kernel⟩
abbrev s_known_ends : Stmt := topS 20
theorem sc_known_ends : FnScope ["one", "found", "end"] ["one"] (defScope s_known_ends) := ⟨rfl, rfl, rfl, by decide +kernel, rfl, by decide +kernel, by decide +kernel⟩
abbrev s_by_part : Stmt := topS 22
theorem sc_by_part : FnScope ["one", "part", "near", "far", "low", "high"] ["one", "part"] (defScope s_by_part) := ⟨rfl, rfl, rfl, by decide +kernel, rfl, by decide +kernel, by decide +kernel⟩
abbrev s_remainder : Stmt := topS 23
theorem sc_remainder : FnScope ["one", "other", "parts", "up", "down"] ["one", "other"] (defScope s_remainder) := ⟨rfl, rfl, rfl, by decide +kernel, rfl, by decide +kernel, by decide +kernel⟩
abbrev s_law_pick : Stmt := topS 28
theorem sc_law_pick : FnScope ["tape", "row"] ["tape", "row"] (defScope s_law_pick) := ⟨rfl, rfl, rfl, by decide +kernel, rfl, by decide +kernel, by decide +kernel⟩
abbrev s_law_held : Stmt := topS 36
theorem sc_law_held : FnScope ["tape", "one", "other", "marks", "both", "wide", "less", "k"] ["tape", "one", "other"] (defScope s_law_held) := ⟨rfl, rfl, rfl, by decide +kernel, rfl, by decide +kernel, by decide +kernel⟩
abbrev s_open_towards : Stmt := topS 17
theorem sc_open_towards : FnScope ["one", "other", "sign", "left", "right"] ["one", "other", "sign"] (defScope s_open_towards) := ⟨rfl, rfl, rfl, by decide +kernel, rfl, by decide +kernel, by decide +kernel⟩
abbrev s_least_product : Stmt := topS 18
theorem sc_least_product : FnScope ["one", "other", "found", "left", "right"] ["one", "other"] (defScope s_least_product) := ⟨rfl, rfl, rfl, by decide +kernel, rfl, by decide +kernel, by decide +kernel⟩
abbrev s_greatest_product : Stmt := topS 19
theorem sc_greatest_product : FnScope ["one", "other", "found", "left", "right"] ["one", "other"] (defScope s_greatest_product) := ⟨rfl, rfl, rfl, by decide +kernel, rfl, by decide +kernel, by decide +kernel⟩
abbrev s_divide : Stmt := topS 21
theorem sc_divide : FnScope ["one", "other", "parts", "half", "part"] ["one", "other"] (defScope s_divide) := ⟨rfl, rfl, rfl, by decide +kernel, rfl, by decide +kernel, by decide +kernel⟩
abbrev s_law_span : Stmt := topS 30
theorem sc_law_span : FnScope ["tape", "low", "high"] ["tape"] (defScope s_law_span) := ⟨rfl, rfl, rfl, by decide +kernel, rfl, by decide +kernel, by decide +kernel⟩
abbrev s_multiply : Stmt := topS 15
theorem sc_multiply : FnScope ["one", "other", "found", "signs", "low", "high", "left", "right"] ["one", "other"] (defScope s_multiply) := ⟨rfl, rfl, rfl, by decide +kernel, rfl, by decide +kernel, by decide +kernel⟩
abbrev s_law_divided : Stmt := topS 35
theorem sc_law_divided : FnScope ["one", "other", "numbers", "told", "left", "number", "mate"] ["one", "other"] (defScope s_law_divided) := ⟨rfl, rfl, rfl, by decide +kernel, rfl, by decide +kernel, by decide +kernel⟩
abbrev s_law_same : Stmt := topS 29
theorem sc_law_same : FnScope ["actual", "due", "k"] ["actual", "due"] (defScope s_law_same) := ⟨rfl, rfl, rfl, by decide +kernel, rfl, by decide +kernel, by decide +kernel⟩
abbrev s_law : Stmt := topS 37
theorem sc_law : FnScope ["script", "tape", "turn", "one", "other", "a", "b", "ends", "due", "low", "high", "known", "great", "number", "wrong", "right", "left", "value"] ["script"] (defScope s_law) := ⟨rfl, rfl, rfl, by decide +kernel, rfl, by decide +kernel, by decide +kernel⟩
structure Txt (K : PySem.W.Frag) (mg : Str → Option Value) where
  f_is_span : Addr
  fd_is_span : FuncData
  F_is_span : Fun K "is_span" "is_span" s_is_span f_is_span fd_is_span
  g_is_span : mg "is_span" = some (.ref f_is_span)
  b_is_span : Binds K fd_is_span ["value"] []
  f_of : Addr
  fd_of : FuncData
  F_of : Fun K "of" "of" s_of f_of fd_of
  g_of : mg "of" = some (.ref f_of)
  b_of : Binds K fd_of ["number"] []
  f_tamed : Addr
  fd_tamed : FuncData
  F_tamed : Fun K "tamed" "tamed" s_tamed f_tamed fd_tamed
  g_tamed : mg "tamed" = some (.ref f_tamed)
  b_tamed : Binds K fd_tamed ["one"] []
  f_holds : Addr
  fd_holds : FuncData
  F_holds : Fun K "holds" "holds" s_holds f_holds fd_holds
  g_holds : mg "holds" = some (.ref f_holds)
  b_holds : Binds K fd_holds ["one", "number"] []
  f_is_within : Addr
  fd_is_within : FuncData
  F_is_within : Fun K "is_within" "is_within" s_is_within f_is_within fd_is_within
  g_is_within : mg "is_within" = some (.ref f_is_within)
  b_is_within : Binds K fd_is_within ["one", "other"] []
  f_join : Addr
  fd_join : FuncData
  F_join : Fun K "join" "join" s_join f_join fd_join
  g_join : mg "join" = some (.ref f_join)
  b_join : Binds K fd_join ["one", "other"] []
  f_meet : Addr
  fd_meet : FuncData
  F_meet : Fun K "meet" "meet" s_meet f_meet fd_meet
  g_meet : mg "meet" = some (.ref f_meet)
  b_meet : Binds K fd_meet ["one", "other"] []
  f_widen : Addr
  fd_widen : FuncData
  F_widen : Fun K "widen" "widen" s_widen f_widen fd_widen
  g_widen : mg "widen" = some (.ref f_widen)
  b_widen : Binds K fd_widen ["one", "other", "marks"] []
  f_narrow : Addr
  fd_narrow : FuncData
  F_narrow : Fun K "narrow" "narrow" s_narrow f_narrow fd_narrow
  g_narrow : mg "narrow" = some (.ref f_narrow)
  b_narrow : Binds K fd_narrow ["one", "other"] []
  f_add : Addr
  fd_add : FuncData
  F_add : Fun K "add" "add" s_add f_add fd_add
  g_add : mg "add" = some (.ref f_add)
  b_add : Binds K fd_add ["one", "other"] []
  f_contrary : Addr
  fd_contrary : FuncData
  F_contrary : Fun K "contrary" "contrary" s_contrary f_contrary fd_contrary
  g_contrary : mg "contrary" = some (.ref f_contrary)
  b_contrary : Binds K fd_contrary ["one"] []
  f_size_of : Addr
  fd_size_of : FuncData
  F_size_of : Fun K "size_of" "size_of" s_size_of f_size_of fd_size_of
  g_size_of : mg "size_of" = some (.ref f_size_of)
  b_size_of : Binds K fd_size_of ["one"] []
  f_law_tape : Addr
  fd_law_tape : FuncData
  F_law_tape : Fun K "_law_tape" "_law_tape" s_law_tape f_law_tape fd_law_tape
  g_law_tape : mg "_law_tape" = some (.ref f_law_tape)
  b_law_tape : Binds K fd_law_tape ["script"] []
  f_law_draw : Addr
  fd_law_draw : FuncData
  F_law_draw : Fun K "_law_draw" "_law_draw" s_law_draw f_law_draw fd_law_draw
  g_law_draw : mg "_law_draw" = some (.ref f_law_draw)
  b_law_draw : Binds K fd_law_draw ["tape", "many"] []
  f_law_far : Addr
  fd_law_far : FuncData
  F_law_far : Fun K "_law_far" "_law_far" s_law_far f_law_far fd_law_far
  g_law_far : mg "_law_far" = some (.ref f_law_far)
  b_law_far : Binds K fd_law_far ["span"] []
  f_law_near : Addr
  fd_law_near : FuncData
  F_law_near : Fun K "_law_near" "_law_near" s_law_near f_law_near fd_law_near
  g_law_near : mg "_law_near" = some (.ref f_law_near)
  b_law_near : Binds K fd_law_near ["low", "high"] []
  f_law_numbers : Addr
  fd_law_numbers : FuncData
  F_law_numbers : Fun K "_law_numbers" "_law_numbers" s_law_numbers f_law_numbers fd_law_numbers
  g_law_numbers : mg "_law_numbers" = some (.ref f_law_numbers)
  b_law_numbers : Binds K fd_law_numbers ["span"] []
  f_law_in : Addr
  fd_law_in : FuncData
  F_law_in : Fun K "_law_in" "_law_in" s_law_in f_law_in fd_law_in
  g_law_in : mg "_law_in" = some (.ref f_law_in)
  b_law_in : Binds K fd_law_in ["span", "number"] []
  f_subtract : Addr
  fd_subtract : FuncData
  F_subtract : Fun K "subtract" "subtract" s_subtract f_subtract fd_subtract
  g_subtract : mg "subtract" = some (.ref f_subtract)
  b_subtract : Binds K fd_subtract ["one", "other"] []
  f_end_signs : Addr
  fd_end_signs : FuncData
  F_end_signs : Fun K "end_signs" "end_signs" s_end_signs f_end_signs fd_end_signs
  g_end_signs : mg "end_signs" = some (.ref f_end_signs)
  b_end_signs : Binds K fd_end_signs ["one"] []
  f_known_ends : Addr
  fd_known_ends : FuncData
  F_known_ends : Fun K "known_ends" "known_ends" s_known_ends f_known_ends fd_known_ends
  g_known_ends : mg "known_ends" = some (.ref f_known_ends)
  b_known_ends : Binds K fd_known_ends ["one"] []
  f_by_part : Addr
  fd_by_part : FuncData
  F_by_part : Fun K "by_part" "by_part" s_by_part f_by_part fd_by_part
  g_by_part : mg "by_part" = some (.ref f_by_part)
  b_by_part : Binds K fd_by_part ["one", "part"] []
  f_remainder : Addr
  fd_remainder : FuncData
  F_remainder : Fun K "remainder" "remainder" s_remainder f_remainder fd_remainder
  g_remainder : mg "remainder" = some (.ref f_remainder)
  b_remainder : Binds K fd_remainder ["one", "other"] []
  f_law_pick : Addr
  fd_law_pick : FuncData
  F_law_pick : Fun K "_law_pick" "_law_pick" s_law_pick f_law_pick fd_law_pick
  g_law_pick : mg "_law_pick" = some (.ref f_law_pick)
  b_law_pick : Binds K fd_law_pick ["tape", "row"] []
  f_law_held : Addr
  fd_law_held : FuncData
  F_law_held : Fun K "_law_held" "_law_held" s_law_held f_law_held fd_law_held
  g_law_held : mg "_law_held" = some (.ref f_law_held)
  b_law_held : Binds K fd_law_held ["tape", "one", "other"] []
  f_open_towards : Addr
  fd_open_towards : FuncData
  F_open_towards : Fun K "open_towards" "open_towards" s_open_towards f_open_towards fd_open_towards
  g_open_towards : mg "open_towards" = some (.ref f_open_towards)
  b_open_towards : Binds K fd_open_towards ["one", "other", "sign"] []
  f_least_product : Addr
  fd_least_product : FuncData
  F_least_product : Fun K "least_product" "least_product" s_least_product f_least_product fd_least_product
  g_least_product : mg "least_product" = some (.ref f_least_product)
  b_least_product : Binds K fd_least_product ["one", "other"] []
  f_greatest_product : Addr
  fd_greatest_product : FuncData
  F_greatest_product : Fun K "greatest_product" "greatest_product" s_greatest_product f_greatest_product fd_greatest_product
  g_greatest_product : mg "greatest_product" = some (.ref f_greatest_product)
  b_greatest_product : Binds K fd_greatest_product ["one", "other"] []
  f_divide : Addr
  fd_divide : FuncData
  F_divide : Fun K "divide" "divide" s_divide f_divide fd_divide
  g_divide : mg "divide" = some (.ref f_divide)
  b_divide : Binds K fd_divide ["one", "other"] []
  f_law_span : Addr
  fd_law_span : FuncData
  F_law_span : Fun K "_law_span" "_law_span" s_law_span f_law_span fd_law_span
  g_law_span : mg "_law_span" = some (.ref f_law_span)
  b_law_span : Binds K fd_law_span ["tape"] []
  f_multiply : Addr
  fd_multiply : FuncData
  F_multiply : Fun K "multiply" "multiply" s_multiply f_multiply fd_multiply
  g_multiply : mg "multiply" = some (.ref f_multiply)
  b_multiply : Binds K fd_multiply ["one", "other"] []
  f_law_divided : Addr
  fd_law_divided : FuncData
  F_law_divided : Fun K "_law_divided" "_law_divided" s_law_divided f_law_divided fd_law_divided
  g_law_divided : mg "_law_divided" = some (.ref f_law_divided)
  b_law_divided : Binds K fd_law_divided ["one", "other"] []
  f_law_same : Addr
  fd_law_same : FuncData
  F_law_same : Fun K "_law_same" "_law_same" s_law_same f_law_same fd_law_same
  g_law_same : mg "_law_same" = some (.ref f_law_same)
  b_law_same : Binds K fd_law_same ["actual", "due"] []
  f_law : Addr
  fd_law : FuncData
  F_law : Fun K "law" "law" s_law f_law fd_law
  g_law : mg "law" = some (.ref f_law)
  b_law : Binds K fd_law ["script"] []
  n_abs : mg "abs" = none
  n_all : mg "all" = none
  n_any : mg "any" = none
  n_bool : mg "bool" = none
  n_int : mg "int" = none
  n_isinstance : mg "isinstance" = none
  n_len : mg "len" = none
  n_max : mg "max" = none
  n_min : mg "min" = none
  n_range : mg "range" = none
  n_set : mg "set" = none
  n_sorted : mg "sorted" = none
  n_str : mg "str" = none
  n_tuple : mg "tuple" = none
  c_ALL : ∀ {X : Cx} {b : Bs} {pos : Pos}, X.K = K → X.mg = mg → Gl X "ALL" → DE X b (.Name "ALL" pos) (cW (.tup [.non, .non]))
  c_MOST : ∀ {X : Cx} {b : Bs} {pos : Pos}, X.K = K → X.mg = mg → Gl X "MOST" → DE X b (.Name "MOST" pos) (cW (.int (10 ^ 60)))
end K40
namespace K40
open PySem PySem.Spec PyProof.Rows L2 DL

/-! ### spans -/
abbrev SpT := Option Int × Option Int
def eD : Option Int → D
  | none => .non
  | some i => .int i
def eOf : D → Option (Option Int)
  | .non => some none
  | .int i => some (some i)
  | _ => none
@[simp] theorem eOf_eD (o : Option Int) : eOf (eD o) = some o := by cases o <;> rfl
def sp (a : SpT) : D := .tup [eD a.1, eD a.2]
def spOf : D → Option SpT
  | .tup [x, y] => match eOf x, eOf y with
    | some a, some b => some (a, b)
    | _, _ => none
  | _ => none
@[simp] theorem spOf_sp (a : SpT) : spOf (sp a) = some a := by
  unfold sp spOf
  simp
def m1 (f : SpT → D) : Mir := fun ds S Q => match ds with
  | [x] => match spOf x with
    | some a => Q (f a) S
    | none => False
  | _ => False
def m2 (f : SpT → SpT → D) : Mir := fun ds S Q => match ds with
  | [x, y] => match spOf x, spOf y with
    | some a, some b => Q (f a b) S
    | _, _ => False
  | _ => False
theorem of_eOf {d : D} {o : Option Int} (h : eOf d = some o) : d = eD o := by
  cases d <;> simp [eOf] at h <;> subst h <;> rfl
theorem of_spOf {d : D} {a : SpT} (h : spOf d = some a) : d = sp a := by
  unfold spOf at h
  split at h
  · split at h
    · rename_i x y _ _ e1 e2
      cases h
      rw [of_eOf e1, of_eOf e2]; rfl
    · cases h
  · cases h
theorem m1_inv {f : SpT → D} {ds : List D} {S : Store} {Q : DQ} (h : m1 f ds S Q) : ∃ a, ds = [sp a] ∧ Q (f a) S := by
  unfold m1 at h
  split at h
  · split at h
    · rename_i a e
      exact ⟨a, by rw [of_spOf e], h⟩
    · exact h.elim
  · exact h.elim
theorem m2_inv {f : SpT → SpT → D} {ds : List D} {S : Store} {Q : DQ} (h : m2 f ds S Q) : ∃ a b, ds = [sp a, sp b] ∧ Q (f a b) S := by
  unfold m2 at h
  split at h
  · split at h
    · rename_i a b e1 e2
      exact ⟨a, b, by rw [of_spOf e1, of_spOf e2], h⟩
    · exact h.elim
  · exact h.elim


/-! ### what the defs are worth -/
def okE : D → Option Bool
  | .non => some true
  | .int _ => some true
  | .bl _ => some false
  | .str _ => some false
  | _ => none
def leE : D → D → Bool
  | .int i, .int j => decide (i ≤ j)
  | _, _ => true
def isSpanB : D → Option Bool
  | .tup [x, y] => match okE x, okE y with
    | some a, some b => some (a && b && leE x y)
    | _, _ => none
  | .tup ds => if ds.length = 2 then none else some false
  | .non => some false
  | .bl _ => some false
  | .int _ => some false
  | .str _ => some false
  | .lst _ => some false
  | _ => none
def m_is_span : Mir := fun ds S Q => match ds with
  | [d] => match isSpanB d with
    | some b => Q (.bl b) S
    | none => False
  | _ => False
def m_of : Mir := fun ds S Q => match ds with
  | [d] => Q (.tup [d, d]) S
  | _ => False
def most : Int := 10 ^ 60
def tamS (a : SpT) : SpT := (match a.1 with | some x => if x < -most then none else some x | none => none, match a.2 with | some x => if most < x then none else some x | none => none)
def m_tamed : Mir := m1 fun a => sp (tamS a)
def loB (a : SpT) (n : Int) : Bool := match a.1 with | some x => decide (x ≤ n) | none => true
def hiB (a : SpT) (n : Int) : Bool := match a.2 with | some x => decide (n ≤ x) | none => true
def holdsB (a : SpT) (n : Int) : Bool := loB a n && hiB a n
def mI (f : SpT → Int → D) : Mir := fun ds S Q => match ds with
  | [x, .int n] => match spOf x with
    | some a => Q (f a n) S
    | none => False
  | _ => False
theorem mI_inv {f : SpT → Int → D} {ds : List D} {S : Store} {Q : DQ} (h : mI f ds S Q) : ∃ a n, ds = [sp a, .int n] ∧ Q (f a n) S := by
  unfold mI at h
  split at h
  · split at h
    · rename_i a e
      exact ⟨a, _, by rw [of_spOf e], h⟩
    · exact h.elim
  · exact h.elim
def m_holds : Mir := mI fun a n => .bl (holdsB a n)
def m_law_in : Mir := mI fun a n => .bl (holdsB a n)
def withinB (a b : SpT) : Bool := (match b.1 with | none => true | some y => match a.1 with | none => false | some x => decide (y ≤ x)) && (match b.2 with | none => true | some y => match a.2 with | none => false | some x => decide (x ≤ y))
def m_is_within : Mir := m2 fun a b => .bl (withinB a b)
def joinS (a b : SpT) : SpT := (match a.1, b.1 with | some x, some y => some (if y < x then y else x) | _, _ => none, match a.2, b.2 with | some x, some y => some (if x < y then y else x) | _, _ => none)
def m_join : Mir := m2 fun a b => sp (joinS a b)
def meet0 (a b : SpT) : SpT := (match b.1 with | none => a.1 | some y => match a.1 with | none => some y | some x => some (if x < y then y else x), match b.2 with | none => a.2 | some y => match a.2 with | none => some y | some x => some (if y < x then y else x))
def meetS (a b : SpT) : Option SpT := match meet0 a b with
  | (some x, some y) => if y < x then none else some (some x, some y)
  | o => some o
def osp : Option SpT → D
  | none => .non
  | some a => sp a
def m_meet : Mir := m2 fun a b => osp (meetS a b)
def addS (a b : SpT) : SpT := (match a.1, b.1 with | some x, some y => some (x + y) | _, _ => none, match a.2, b.2 with | some x, some y => some (x + y) | _, _ => none)
def conS (a : SpT) : SpT := (a.2.map fun x => -x, a.1.map fun x => -x)
def subS (a b : SpT) : SpT := addS a (conS b)
def m_add : Mir := m2 fun a b => sp (addS a b)
def m_contrary : Mir := m1 fun a => sp (conS a)
def m_subtract : Mir := m2 fun a b => sp (subS a b)
def narS (a b : SpT) : SpT := (match a.1 with | none => b.1 | some x => some x, match a.2 with | none => b.2 | some x => some x)
def m_narrow : Mir := m2 fun a b => sp (narS a b)
/-- widening, marks ascending: an end goes to a mark or away -/
def below (m : List Int) (y : Int) : List Int := m.filter fun k => decide (k ≤ y)
def above (m : List Int) (y : Int) : List Int := m.filter fun k => decide (y ≤ k)
def widLo (m : List Int) : Option Int → Option Int → Option Int
  | none, _ => none
  | some x, none => none
  | some x, some y => if y < x then (below m y).getLast? else some x
def widHi (m : List Int) : Option Int → Option Int → Option Int
  | none, _ => none
  | some x, none => none
  | some x, some y => if x < y then (above m y).head? else some x
def widS (a b : SpT) (m : List Int) : SpT := (widLo m a.1 b.1, widHi m a.2 b.2)
def m_widen : Mir := fun ds S Q => match ds with
  | [x, y, .tup ms] => match spOf x, spOf y, intsOf ms with
    | some a, some b, some m => m.length < 1000 ∧ Q (sp (widS a b m)) S
    | _, _, _ => False
  | _ => False
def sizS (a : SpT) : D := match a.1, a.2 with
  | some x, some y => .int (y - x + 1)
  | _, _ => .non
def m_size_of : Mir := m1 sizS
/-! products -/
def eSigns (a : SpT) : List Int := (match a.1 with | none => ([-1] : List Int) | some x => if x < 0 then [-1] else []) ++ ((if holdsB a 0 = true then ([0] : List Int) else []) ++ (match a.2 with | none => ([1] : List Int) | some x => if 0 < x then [1] else []))
def m_end_signs : Mir := m1 fun a => .lst ((eSigns a).map .int)
def kEnds (a : SpT) : List Int := (match a.1 with | none => ([] : List Int) | some x => [x]) ++ (match a.2 with | none => [] | some x => [x]) ++ (if holdsB a 0 = true then [0] else [])
def m_known_ends : Mir := m1 fun a => .lst ((kEnds a).map .int)
def open1 (a b : SpT) (s : Int) : Bool := (a.2.isNone && (eSigns b).any fun k => k == s) || (a.1.isNone && (eSigns b).any fun k => k == -s)
def openT (a b : SpT) (s : Int) : Bool := open1 a b s || open1 b a s
def m_open_towards : Mir := fun ds S Q => match ds with
  | [x, y, .int s] => match spOf x, spOf y with
    | some a, some b => Q (.bl (openT a b s)) S
    | _, _ => False
  | _ => False
def prods (xs ys : List Int) : List Int := xs.flatMap fun x => ys.map fun y => x * y
def lstM : List Int → Option Int
  | [] => none
  | m :: r => some (minL m r)
def lstX : List Int → Option Int
  | [] => none
  | m :: r => some (maxL m r)
/-- small ends -/
def smE : Option Int → Prop
  | none => True
  | some x => -1000000 ≤ x ∧ x ≤ 1000000
def smS (a : SpT) : Prop := smE a.1 ∧ smE a.2
def m_least_product : Mir := fun ds S Q => match ds with
  | [x, y] => match spOf x, spOf y with
    | some a, some b => (smS a ∧ smS b) ∧ match lstM (prods (kEnds a) (kEnds b)) with
      | some n => Q (.int n) S
      | none => False
    | _, _ => False
  | _ => False
def m_greatest_product : Mir := fun ds S Q => match ds with
  | [x, y] => match spOf x, spOf y with
    | some a, some b => (smS a ∧ smS b) ∧ match lstX (prods (kEnds a) (kEnds b)) with
      | some n => Q (.int n) S
      | none => False
    | _, _ => False
  | _ => False
def zz : SpT := (some 0, some 0)
/-- the product of spans, where the ends that are asked for are there -/
def mulS (a b : SpT) : Option SpT :=
  if a = zz ∨ b = zz then some zz else match a, b with
    | (some x, some y), (some u, some v) => some (some (minL (x * u) [x * v, y * u, y * v]), some (maxL (x * u) [x * v, y * u, y * v]))
    | a, b =>
      let g := prods (eSigns a) (eSigns b)
      let lo := if ((g.any fun k => k == -1) && openT a b (-1)) = true then some none else (lstM (prods (kEnds a) (kEnds b))).map some
      let hi := if ((g.any fun k => k == 1) && openT a b 1) = true then some none else (lstX (prods (kEnds a) (kEnds b))).map some
      match lo, hi with
      | some l, some h => some (l, h)
      | _, _ => none
def m_multiply : Mir := fun ds S Q => match ds with
  | [x, y] => match spOf x, spOf y with
    | some a, some b => (smS a ∧ smS b) ∧ match mulS a b with
      | some r => Q (sp r) S
      | none => False
    | _, _ => False
  | _ => False
/-! quotients, rests -/
def tailS (a : SpT) (near : Int) (far : Option Int) : SpT :=
  (match a.1 with
    | none => none
    | some x => some (if x < 0 then x.fdiv near else match far with | none => 0 | some f => x.fdiv f),
   match a.2 with
    | none => none
    | some x => some (if 0 ≤ x then x.fdiv near else match far with | none => -1 | some f => x.fdiv f))
def negE : Option Int → Bool
  | none => true
  | some x => decide (x < 0)
def partS (a p : SpT) : SpT := if negE p.1 = true then tailS (conS a) ((conS p).1.getD 1) (conS p).2 else tailS a (p.1.getD 1) p.2
/-- a part: numbers of one sign, small -/
def isPart (p : SpT) : Prop := smS p ∧ ((∃ x, p.1 = some x ∧ 1 ≤ x ∧ ∀ y, p.2 = some y → x ≤ y) ∨ (∃ y, p.2 = some y ∧ y ≤ -1 ∧ ∀ x, p.1 = some x → x ≤ y))
def m_by_part : Mir := fun ds S Q => match ds with
  | [x, y] => match spOf x, spOf y with
    | some a, some p => isPart p ∧ Q (sp (partS a p)) S
    | _, _ => False
  | _ => False
def divS (a b : SpT) : Option SpT := match meetS b (some 1, none), meetS b (none, some (-1)) with
  | none, none => none
  | some p, none => some (partS a p)
  | none, some p => some (partS a p)
  | some p, some q => some (joinS (partS a p) (partS a q))
def m_divide : Mir := fun ds S Q => match ds with
  | [x, y] => match spOf x, spOf y with
    | some a, some b => smS b ∧ (∀ p, meetS b (some 1, none) = some p → isPart p) ∧ (∀ p, meetS b (none, some (-1)) = some p → isPart p) ∧ Q (osp (divS a b)) S
    | _, _ => False
  | _ => False
def upS (a p : SpT) : SpT :=
  let h := p.2.map fun x => x - 1
  match a.1, a.2 with
  | some l, some u => if 0 ≤ l then (some 0, match h with | none => some u | some k => some (if k < u then k else u)) else (some 0, h)
  | _, _ => (some 0, h)
def dnS (p : SpT) : SpT := (p.1.map fun x => x + 1, some 0)
def remS (a b : SpT) : Option SpT := match meetS b (some 1, none), meetS b (none, some (-1)) with
  | none, none => none
  | some p, none => some (upS a p)
  | none, some p => some (dnS p)
  | some p, some q => some (joinS (upS a p) (dnS q))
def m_remainder : Mir := m2 fun a b => osp (remS a b)

/-! the law's own -/
def InDom (a : SpT) : Prop := (∀ x, a.1 = some x → -8 ≤ x ∧ x ≤ 8) ∧ (∀ y, a.2 = some y → -8 ≤ y ∧ y ≤ 16) ∧ ∀ x y, a.1 = some x → a.2 = some y → x ≤ y
abbrev m_law_tape : Mir := m_tape
abbrev m_law_draw : Mir := m_draw
abbrev m_law_pick : Mir := m_pick
abbrev m_law_same (n : Nat) : Mir := m_same n
def m_law_span : Mir := fun ds S Q => match ds with
  | [.loc 1] => ∃ ns s J, S = tst ns s ++ J ∧ Tk ns s ∧ ∀ a ns' s', InDom a → Tk ns' s' → Q (sp a) (tst ns' s' ++ J)
  | _ => False
def farL (a : SpT) : Int := a.1.getD (-10 ^ 12)
def farH (a : SpT) : Int := a.2.getD (10 ^ 12)
def m_law_far : Mir := m1 fun a => .tup [.int (farL a), .int (farH a)]
def nearS (l h : Int) : SpT := (if l < -10 ^ 9 then none else some l, if 10 ^ 9 < h then none else some h)
def m_law_near : Mir := fun ds S Q => match ds with
  | [.int l, .int h] => Q (sp (nearS l h)) S
  | _ => False
def nums (a : SpT) : List Int := ((List.range 49).map fun (i : Nat) => (-24 : Int) + i).filter (holdsB a)
def m_law_numbers : Mir := m1 fun a => .lst ((nums a).map .int)
def m_law_divided : Mir := fun ds S Q => match ds with
  | [x, y] => match spOf x, spOf y with
    | some a, some b => InDom a ∧ InDom b ∧ Q (.bl true) S
    | _, _ => False
  | _ => False
def m_law_held : Mir := fun ds S Q => match ds with
  | [.loc 1, x, y] => match spOf x, spOf y with
    | some a, some b => ∃ ns s J, S = tst ns s ++ J ∧ Tk ns s ∧ ∀ ns' s', Tk ns' s' → Q (.bl true) (tst ns' s' ++ J)
    | _, _ => False
  | _ => False
def m_law : Mir := fun ds S Q => match ds with
  | [.rol xs] => match intsOf xs with
    | some ns => ns.length < 100000 ∧ S = [] ∧ ∀ S', Q (.bl true) S'
    | none => False
  | _ => False
end K40
namespace K40
open PySem PySem.Spec L2 DL
/-- is_span -/
def g_is_span : WS :=
    (seqW (ifS (orW (notW (truW (clW wIsi (consW (vW 0) (consW (cW (.ty "tuple")) nilW))))) (tsW (opW wNe (clW wLen (consW (vW 0) nilW)) (cW (.int 2))))) (retW (cW (.bl false))) nxW)
    (seqW (forW (sqI (vW 0)) (.nm 1) (ifS (andW (tsW (opW wIsnt (vW 1) (cW .non))) (orW (truW (clW wIsi (consW (vW 1) (consW (cW (.ty "bool")) nilW)))) (notW (truW (clW wIsi (consW (vW 1) (consW (cW (.ty "int")) nilW))))))) (retW (cW (.bl false))) nxW))
    (retW (orV (opW (wIn false) (cW .non) (vW 0)) (opW wLe (opW wIx (vW 0) (cW (.int 0))) (opW wIx (vW 0) (cW (.int 1))))))))

/-- of -/
def g_of : WS :=
    (retW (tupW (consW (vW 0) (consW (vW 0) nilW))))

/-- tamed -/
def g_tamed : WS :=
    (seqW (asgW (.tp [1, 2]) (vW 0))
    (seqW (asgW (.nm 1) (ifW (andW (tsW (opW wIsnt (vW 1) (cW .non))) (tsW (opW wLt (vW 1) (unW wNeg (cW (.int (10 ^ 60))))))) (cW .non) (vW 1)))
    (retW (tupW (consW (vW 1) (consW (ifW (andW (tsW (opW wIsnt (vW 2) (cW .non))) (tsW (opW wGt (vW 2) (cW (.int (10 ^ 60)))))) (cW .non) (vW 2)) nilW))))))

/-- holds -/
def g_holds : WS :=
    (retW (andV (orV (opW wIs (opW wIx (vW 0) (cW (.int 0))) (cW .non)) (opW wLe (opW wIx (vW 0) (cW (.int 0))) (vW 1))) (orV (opW wIs (opW wIx (vW 0) (cW (.int 1))) (cW .non)) (opW wLe (vW 1) (opW wIx (vW 0) (cW (.int 1)))))))

/-- is_within -/
def g_is_within : WS :=
    (seqW (asgW (.nm 2) (orV (opW wIs (opW wIx (vW 1) (cW (.int 0))) (cW .non)) (andV (opW wIsnt (opW wIx (vW 0) (cW (.int 0))) (cW .non)) (opW wLe (opW wIx (vW 1) (cW (.int 0))) (opW wIx (vW 0) (cW (.int 0)))))))
    (retW (andV (vW 2) (orV (opW wIs (opW wIx (vW 1) (cW (.int 1))) (cW .non)) (andV (opW wIsnt (opW wIx (vW 0) (cW (.int 1))) (cW .non)) (opW wLe (opW wIx (vW 0) (cW (.int 1))) (opW wIx (vW 1) (cW (.int 1)))))))))

/-- join -/
def g_join : WS :=
    (seqW (asgW (.nm 2) (ifW (orW (tsW (opW wIs (opW wIx (vW 0) (cW (.int 0))) (cW .non))) (tsW (opW wIs (opW wIx (vW 1) (cW (.int 0))) (cW .non)))) (cW .non) (clW wMin (consW (opW wIx (vW 0) (cW (.int 0))) (consW (opW wIx (vW 1) (cW (.int 0))) nilW)))))
    (retW (tupW (consW (vW 2) (consW (ifW (orW (tsW (opW wIs (opW wIx (vW 0) (cW (.int 1))) (cW .non))) (tsW (opW wIs (opW wIx (vW 1) (cW (.int 1))) (cW .non)))) (cW .non) (clW wMax (consW (opW wIx (vW 0) (cW (.int 1))) (consW (opW wIx (vW 1) (cW (.int 1))) nilW)))) nilW)))))

/-- meet -/
def g_meet : WS :=
    (seqW (asgW (.nm 2) (ifW (tsW (opW wIs (opW wIx (vW 1) (cW (.int 0))) (cW .non))) (opW wIx (vW 0) (cW (.int 0))) (ifW (tsW (opW wIs (opW wIx (vW 0) (cW (.int 0))) (cW .non))) (opW wIx (vW 1) (cW (.int 0))) (clW wMax (consW (opW wIx (vW 0) (cW (.int 0))) (consW (opW wIx (vW 1) (cW (.int 0))) nilW))))))
    (seqW (asgW (.nm 3) (ifW (tsW (opW wIs (opW wIx (vW 1) (cW (.int 1))) (cW .non))) (opW wIx (vW 0) (cW (.int 1))) (ifW (tsW (opW wIs (opW wIx (vW 0) (cW (.int 1))) (cW .non))) (opW wIx (vW 1) (cW (.int 1))) (clW wMin (consW (opW wIx (vW 0) (cW (.int 1))) (consW (opW wIx (vW 1) (cW (.int 1))) nilW))))))
    (retW (ifW (andW (tsW (opW wIsnt (vW 2) (cW .non))) (andW (tsW (opW wIsnt (vW 3) (cW .non))) (tsW (opW wGt (vW 2) (vW 3))))) (cW .non) (tupW (consW (vW 2) (consW (vW 3) nilW)))))))

/-- widen -/
def g_widen : WS :=
    (seqW (asgW (.tp [3, 4]) (vW 0))
    (seqW (ifS (andW (tsW (opW wIsnt (vW 3) (cW .non))) (orW (tsW (opW wIs (opW wIx (vW 1) (cW (.int 0))) (cW .non))) (tsW (opW wLt (opW wIx (vW 1) (cW (.int 0))) (vW 3))))) (seqW (asgW (.nm 5) (lcW (sqI (vW 2)) (.nm 7) (andW (tsW (opW wIsnt (opW wIx (vW 1) (cW (.int 0))) (cW .non))) (tsW (opW wLe (vW 7) (opW wIx (vW 1) (cW (.int 0)))))) (vW 7) [7]))
    (asgW (.nm 3) (ifW (tsW (opW wNe (vW 5) (lstW nilW))) (opW wIx (vW 5) (unW wNeg (cW (.int 1)))) (cW .non)))) nxW)
    (seqW (ifS (andW (tsW (opW wIsnt (vW 4) (cW .non))) (orW (tsW (opW wIs (opW wIx (vW 1) (cW (.int 1))) (cW .non))) (tsW (opW wGt (opW wIx (vW 1) (cW (.int 1))) (vW 4))))) (seqW (asgW (.nm 6) (lcW (sqI (vW 2)) (.nm 7) (andW (tsW (opW wIsnt (opW wIx (vW 1) (cW (.int 1))) (cW .non))) (tsW (opW wGe (vW 7) (opW wIx (vW 1) (cW (.int 1)))))) (vW 7) [7]))
    (asgW (.nm 4) (ifW (tsW (opW wNe (vW 6) (lstW nilW))) (opW wIx (vW 6) (cW (.int 0))) (cW .non)))) nxW)
    (retW (tupW (consW (vW 3) (consW (vW 4) nilW)))))))

/-- narrow -/
def g_narrow : WS :=
    (retW (tupW (consW (ifW (tsW (opW wIs (opW wIx (vW 0) (cW (.int 0))) (cW .non))) (opW wIx (vW 1) (cW (.int 0))) (opW wIx (vW 0) (cW (.int 0)))) (consW (ifW (tsW (opW wIs (opW wIx (vW 0) (cW (.int 1))) (cW .non))) (opW wIx (vW 1) (cW (.int 1))) (opW wIx (vW 0) (cW (.int 1)))) nilW))))

/-- add -/
def g_add : WS :=
    (seqW (asgW (.nm 2) (ifW (orW (tsW (opW wIs (opW wIx (vW 0) (cW (.int 0))) (cW .non))) (tsW (opW wIs (opW wIx (vW 1) (cW (.int 0))) (cW .non)))) (cW .non) (opW wAdd (opW wIx (vW 0) (cW (.int 0))) (opW wIx (vW 1) (cW (.int 0))))))
    (retW (tupW (consW (vW 2) (consW (ifW (orW (tsW (opW wIs (opW wIx (vW 0) (cW (.int 1))) (cW .non))) (tsW (opW wIs (opW wIx (vW 1) (cW (.int 1))) (cW .non)))) (cW .non) (opW wAdd (opW wIx (vW 0) (cW (.int 1))) (opW wIx (vW 1) (cW (.int 1))))) nilW)))))

/-- contrary -/
def g_contrary : WS :=
    (retW (tupW (consW (ifW (tsW (opW wIs (opW wIx (vW 0) (cW (.int 1))) (cW .non))) (cW .non) (unW wNeg (opW wIx (vW 0) (cW (.int 1))))) (consW (ifW (tsW (opW wIs (opW wIx (vW 0) (cW (.int 0))) (cW .non))) (cW .non) (unW wNeg (opW wIx (vW 0) (cW (.int 0))))) nilW))))

/-- size_of -/
def g_size_of : WS :=
    (retW (ifW (tsW (opW (wIn false) (cW .non) (vW 0))) (cW .non) (opW wAdd (opW wSub (opW wIx (vW 0) (cW (.int 1))) (opW wIx (vW 0) (cW (.int 0)))) (cW (.int 1)))))

/-- _law_tape -/
def g_law_tape : WS :=
    (seqW (asgW (.nm 1) (cW (.int 7)))
    (seqW (forW (sqI (vW 0)) (.nm 2) (asgW (.nm 1) (opW wMod (clW wInt (consW (opW wAdd (opW wMul (vW 1) (cW (.int 31))) (vW 2)) nilW)) (cW (.int 1000003)))))
    (retW (lstN (consW (lcN (sqI (vW 0)) (.nm 2) yesW (clW wAbs (consW (clW wInt (consW (vW 2) nilW)) nilW)) [2]) (consW (opW wAdd (vW 1) (cW (.int 1))) nilW))))))

/-- _law_draw -/
def g_law_draw : WS :=
    (seqW (asgW (.nm 2) (opW wIx (vW 0) (cW (.int 0))))
    (seqW (whileW (andW (tsW (opW wGt (clW wLen (consW (vW 2) nilW)) (cW (.int 0)))) (tsW (opW wEq (opW wIx (vW 2) (cW (.int 0))) (cW (.int 0))))) (dropW (popAtW (vW 2) (cW (.int 0)))))
    (seqW (ifS (tsW (opW wGt (clW wLen (consW (vW 2) nilW)) (cW (.int 0)))) (seqW (asgW (.nm 3) (opW wIx (vW 2) (cW (.int 0))))
    (seqW (putW (opW wDiv (vW 3) (vW 1)) (vW 2) (cW (.int 0)))
    (retW (opW wMod (clW wInt (consW (vW 3) nilW)) (vW 1))))) nxW)
    (seqW (putW (opW wMod (clW wInt (consW (opW wAdd (opW wMul (opW wIx (vW 0) (cW (.int 1))) (cW (.int 48271))) (cW (.int 12345))) nilW)) (cW (.int 2147483647))) (vW 0) (cW (.int 1)))
    (retW (opW wMod (clW wInt (consW (opW wDiv (opW wIx (vW 0) (cW (.int 1))) (cW (.int 64))) nilW)) (vW 1)))))))

/-- _law_far -/
def g_law_far : WS :=
    (retW (tupW (consW (ifW (tsW (opW wIs (opW wIx (vW 0) (cW (.int 0))) (cW .non))) (unW wNeg (opW wPow (cW (.int 10)) (cW (.int 12)))) (opW wIx (vW 0) (cW (.int 0)))) (consW (ifW (tsW (opW wIs (opW wIx (vW 0) (cW (.int 1))) (cW .non))) (opW wPow (cW (.int 10)) (cW (.int 12))) (opW wIx (vW 0) (cW (.int 1)))) nilW))))

/-- _law_near -/
def g_law_near : WS :=
    (retW (tupW (consW (ifW (tsW (opW wLt (vW 0) (unW wNeg (opW wPow (cW (.int 10)) (cW (.int 9)))))) (cW .non) (vW 0)) (consW (ifW (tsW (opW wGt (vW 1) (opW wPow (cW (.int 10)) (cW (.int 9))))) (cW .non) (vW 1)) nilW))))

/-- _law_numbers -/
def g_law_numbers : WS :=
    (retW (lcW (rgI2 (consW (unW wNeg (cW (.int 24))) (consW (cW (.int 25)) nilW))) (.nm 1) (andW (orW (tsW (opW wIs (opW wIx (vW 0) (cW (.int 0))) (cW .non))) (tsW (opW wGe (vW 1) (opW wIx (vW 0) (cW (.int 0)))))) (orW (tsW (opW wIs (opW wIx (vW 0) (cW (.int 1))) (cW .non))) (tsW (opW wLe (vW 1) (opW wIx (vW 0) (cW (.int 1))))))) (vW 1) [1]))

/-- _law_in -/
def g_law_in : WS :=
    (retW (andV (orV (opW wIs (opW wIx (vW 0) (cW (.int 0))) (cW .non)) (opW wLe (opW wIx (vW 0) (cW (.int 0))) (vW 1))) (orV (opW wIs (opW wIx (vW 0) (cW (.int 1))) (cW .non)) (opW wLe (vW 1) (opW wIx (vW 0) (cW (.int 1)))))))

/-- subtract -/
def g_subtract : WS :=
    (retW (clW m_add (consW (vW 0) (consW (clW m_contrary (consW (vW 1) nilW)) nilW))))

/-- end_signs -/
def g_end_signs : WS :=
    (seqW (asgW (.nm 1) (lstN nilW))
    (seqW (ifS (orW (tsW (opW wIs (opW wIx (vW 0) (cW (.int 0))) (cW .non))) (tsW (opW wLt (opW wIx (vW 0) (cW (.int 0))) (cW (.int 0))))) (dropW (appW (vW 1) (unW wNeg (cW (.int 1))))) nxW)
    (seqW (ifS (truW (clW m_holds (consW (vW 0) (consW (cW (.int 0)) nilW)))) (dropW (appW (vW 1) (cW (.int 0)))) nxW)
    (seqW (ifS (orW (tsW (opW wIs (opW wIx (vW 0) (cW (.int 1))) (cW .non))) (tsW (opW wGt (opW wIx (vW 0) (cW (.int 1))) (cW (.int 0))))) (dropW (appW (vW 1) (cW (.int 1)))) nxW)
    (retW (vW 1))))))

/-- known_ends -/
def g_known_ends : WS :=
    (seqW (asgW (.nm 1) (lcW (sqI (vW 0)) (.nm 2) (tsW (opW wIsnt (vW 2) (cW .non))) (vW 2) [2]))
    (retW (ifW (truW (clW m_holds (consW (vW 0) (consW (cW (.int 0)) nilW)))) (opW wAdd (vW 1) (lstW (consW (cW (.int 0)) nilW))) (vW 1))))

/-- by_part -/
def g_by_part : WS :=
    (seqW (ifS (orW (tsW (opW wIs (opW wIx (vW 1) (cW (.int 0))) (cW .non))) (tsW (opW wLt (opW wIx (vW 1) (cW (.int 0))) (cW (.int 0))))) (parW 0 1 (consW (clW m_contrary (consW (vW 0) nilW)) (consW (clW m_contrary (consW (vW 1) nilW)) nilW))) nxW)
    (seqW (parW 2 3 (consW (opW wIx (vW 1) (cW (.int 0))) (consW (opW wIx (vW 1) (cW (.int 1))) nilW)))
    (seqW (asgW (.tp [4, 5]) (vW 0))
    (seqW (ifS (tsW (opW wIsnt (vW 4) (cW .non))) (asgW (.nm 4) (ifW (tsW (opW wLt (vW 4) (cW (.int 0)))) (opW wDiv (vW 4) (vW 2)) (ifW (tsW (opW wIs (vW 3) (cW .non))) (cW (.int 0)) (opW wDiv (vW 4) (vW 3))))) nxW)
    (seqW (ifS (tsW (opW wIsnt (vW 5) (cW .non))) (asgW (.nm 5) (ifW (tsW (opW wGe (vW 5) (cW (.int 0)))) (opW wDiv (vW 5) (vW 2)) (ifW (tsW (opW wIs (vW 3) (cW .non))) (unW wNeg (cW (.int 1))) (opW wDiv (vW 5) (vW 3))))) nxW)
    (retW (tupW (consW (vW 4) (consW (vW 5) nilW)))))))))

/-- remainder -/
def g_remainder : WS :=
    (seqW (asgW (.nm 2) (lstN nilW))
    (seqW (parW 3 4 (consW (clW m_meet (consW (vW 1) (consW (tupW (consW (cW (.int 1)) (consW (cW .non) nilW))) nilW))) (consW (clW m_meet (consW (vW 1) (consW (tupW (consW (cW .non) (consW (unW wNeg (cW (.int 1))) nilW))) nilW))) nilW)))
    (seqW (ifS (tsW (opW wIsnt (vW 3) (cW .non))) (seqW (dropW (appW (vW 2) (tupW (consW (cW (.int 0)) (consW (ifW (tsW (opW wIs (opW wIx (vW 3) (cW (.int 1))) (cW .non))) (cW .non) (opW wSub (opW wIx (vW 3) (cW (.int 1))) (cW (.int 1)))) nilW)))))
    (ifS (andW (tsW (opW wIsnt (opW wIx (vW 0) (cW (.int 0))) (cW .non))) (andW (tsW (opW wGe (opW wIx (vW 0) (cW (.int 0))) (cW (.int 0)))) (tsW (opW wIsnt (opW wIx (vW 0) (cW (.int 1))) (cW .non))))) (putW (tupW (consW (cW (.int 0)) (consW (ifW (tsW (opW wIs (opW wIx (opW wIx (vW 2) (cW (.int 0))) (cW (.int 1))) (cW .non))) (opW wIx (vW 0) (cW (.int 1))) (clW wMin (consW (opW wIx (vW 0) (cW (.int 1))) (consW (opW wIx (opW wIx (vW 2) (cW (.int 0))) (cW (.int 1))) nilW)))) nilW))) (vW 2) (cW (.int 0))) nxW)) nxW)
    (seqW (ifS (tsW (opW wIsnt (vW 4) (cW .non))) (dropW (appW (vW 2) (tupW (consW (ifW (tsW (opW wIs (opW wIx (vW 4) (cW (.int 0))) (cW .non))) (cW .non) (opW wAdd (opW wIx (vW 4) (cW (.int 0))) (cW (.int 1)))) (consW (cW (.int 0)) nilW))))) nxW)
    (seqW (ifS (tsW (opW wEq (vW 2) (lstW nilW))) (retW (cW .non)) nxW)
    (retW (ifW (tsW (opW wEq (clW wLen (consW (vW 2) nilW)) (cW (.int 1)))) (opW wIx (vW 2) (cW (.int 0))) (clW m_join (consW (opW wIx (vW 2) (cW (.int 0))) (consW (opW wIx (vW 2) (cW (.int 1))) nilW))))))))))

/-- _law_pick -/
def g_law_pick : WS :=
    (retW (opW wIx (vW 1) (clW m_law_draw (consW (vW 0) (consW (clW wLen (consW (vW 1) nilW)) nilW)))))

/-- _law_held -/
def g_law_held : WS :=
    (seqW (asgW (.nm 3) (clW wTuple (consW (clW wSortSet (consW (lcW (rgI1 (consW (clW m_law_draw (consW (vW 0) (consW (cW (.int 4)) nilW))) nilW)) (.nm 7) yesW (opW wSub (clW m_law_draw (consW (vW 0) (consW (cW (.int 41)) nilW))) (cW (.int 20))) [7]) nilW)) nilW)))
    (seqW (asgW (.nm 4) (clW m_join (consW (vW 1) (consW (vW 2) nilW))))
    (seqW (asgW (.nm 5) (clW m_widen (consW (vW 1) (consW (vW 4) (consW (vW 3) nilW)))))
    (seqW (ifS (orW (notW (truW (clW m_is_within (consW (vW 1) (consW (vW 5) nilW))))) (notW (truW (clW m_is_within (consW (vW 4) (consW (vW 5) nilW)))))) (retW (cW (.bl false))) nxW)
    (seqW (ifS (orW (andW (tsW (opW wEq (opW wIx (vW 1) (cW (.int 0))) (opW wIx (vW 4) (cW (.int 0))))) (tsW (opW wNe (opW wIx (vW 5) (cW (.int 0))) (opW wIx (vW 1) (cW (.int 0)))))) (andW (tsW (opW wEq (opW wIx (vW 1) (cW (.int 1))) (opW wIx (vW 4) (cW (.int 1))))) (tsW (opW wNe (opW wIx (vW 5) (cW (.int 1))) (opW wIx (vW 1) (cW (.int 1))))))) (retW (cW (.bl false))) nxW)
    (seqW (asgW (.nm 6) (clW m_narrow (consW (vW 5) (consW (vW 4) nilW))))
    (retW (andV (opW wIs (clW m_is_within (consW (vW 4) (consW (vW 6) nilW))) (cW (.bl true))) (opW wIs (clW m_is_within (consW (vW 6) (consW (vW 5) nilW))) (cW (.bl true)))))))))))

/-- open_towards -/
def g_open_towards : WS :=
    (seqW (forW (sqI (tupW (consW (tupW (consW (vW 0) (consW (vW 1) nilW))) (consW (tupW (consW (vW 1) (consW (vW 0) nilW))) nilW)))) (.tp [3, 4]) (seqW (ifS (andW (tsW (opW wIs (opW wIx (vW 3) (cW (.int 1))) (cW .non))) (tsW (opW (wIn false) (vW 2) (clW m_end_signs (consW (vW 4) nilW))))) (retW (cW (.bl true))) nxW)
    (ifS (andW (tsW (opW wIs (opW wIx (vW 3) (cW (.int 0))) (cW .non))) (tsW (opW (wIn false) (unW wNeg (vW 2)) (clW m_end_signs (consW (vW 4) nilW))))) (retW (cW (.bl true))) nxW)))
    (retW (cW (.bl false))))

/-- least_product -/
def g_least_product : WS :=
    (seqW (asgW (.nm 2) (lc2W (sqI (clW m_known_ends (consW (vW 0) nilW))) (.nm 3) yesW (sqI (clW m_known_ends (consW (vW 1) nilW))) (.nm 4) yesW (opW wMul (vW 3) (vW 4)) [3, 4] [4]))
    (retW (clW wMin (consW (vW 2) nilW))))

/-- greatest_product -/
def g_greatest_product : WS :=
    (seqW (asgW (.nm 2) (lc2W (sqI (clW m_known_ends (consW (vW 0) nilW))) (.nm 3) yesW (sqI (clW m_known_ends (consW (vW 1) nilW))) (.nm 4) yesW (opW wMul (vW 3) (vW 4)) [3, 4] [4]))
    (retW (clW wMax (consW (vW 2) nilW))))

/-- divide -/
def g_divide : WS :=
    (seqW (asgW (.nm 2) (lstN nilW))
    (seqW (forW (sqI (tupW (consW (tupW (consW (cW (.int 1)) (consW (cW .non) nilW))) (consW (tupW (consW (cW .non) (consW (unW wNeg (cW (.int 1))) nilW))) nilW)))) (.nm 3) (seqW (asgW (.nm 4) (clW m_meet (consW (vW 1) (consW (vW 3) nilW))))
    (ifS (tsW (opW wIsnt (vW 4) (cW .non))) (dropW (appW (vW 2) (clW m_by_part (consW (vW 0) (consW (vW 4) nilW))))) nxW)))
    (seqW (ifS (tsW (opW wEq (vW 2) (lstW nilW))) (retW (cW .non)) nxW)
    (retW (ifW (tsW (opW wEq (clW wLen (consW (vW 2) nilW)) (cW (.int 1)))) (opW wIx (vW 2) (cW (.int 0))) (clW m_join (consW (opW wIx (vW 2) (cW (.int 0))) (consW (opW wIx (vW 2) (cW (.int 1))) nilW))))))))

/-- _law_span -/
def g_law_span : WS :=
    (seqW (asgW (.nm 1) (opW wSub (clW m_law_draw (consW (vW 0) (consW (cW (.int 17)) nilW))) (cW (.int 8))))
    (seqW (asgW (.nm 2) (opW wAdd (vW 1) (clW m_law_draw (consW (vW 0) (consW (cW (.int 9)) nilW)))))
    (retW (clW m_law_pick (consW (vW 0) (consW (lstW (consW (tupW (consW (vW 1) (consW (vW 2) nilW))) (consW (tupW (consW (vW 1) (consW (vW 2) nilW))) (consW (tupW (consW (vW 1) (consW (vW 2) nilW))) (consW (tupW (consW (cW .non) (consW (vW 2) nilW))) (consW (tupW (consW (vW 1) (consW (cW .non) nilW))) (consW (tupW (consW (cW .non) (consW (cW .non) nilW))) (consW (tupW (consW (vW 1) (consW (vW 1) nilW))) nilW)))))))) nilW))))))

/-- multiply -/
def g_multiply : WS :=
    (seqW (ifS (orW (tsW (opW wEq (vW 0) (tupW (consW (cW (.int 0)) (consW (cW (.int 0)) nilW))))) (tsW (opW wEq (vW 1) (tupW (consW (cW (.int 0)) (consW (cW (.int 0)) nilW)))))) (retW (tupW (consW (cW (.int 0)) (consW (cW (.int 0)) nilW)))) nxW)
    (seqW (ifS (tsW (opW (wIn true) (cW .non) (opW wAdd (vW 0) (vW 1)))) (seqW (asgW (.nm 2) (lc2W (sqI (vW 0)) (.nm 6) yesW (sqI (vW 1)) (.nm 7) yesW (opW wMul (vW 6) (vW 7)) [6, 7] [7]))
    (retW (tupW (consW (clW wMin (consW (vW 2) nilW)) (consW (clW wMax (consW (vW 2) nilW)) nilW))))) nxW)
    (seqW (asgW (.nm 3) (lc2W (sqI (clW m_end_signs (consW (vW 0) nilW))) (.nm 6) yesW (sqI (clW m_end_signs (consW (vW 1) nilW))) (.nm 7) yesW (opW wMul (vW 6) (vW 7)) [6, 7] [7]))
    (seqW (asgW (.nm 4) (ifW (andW (tsW (opW (wIn false) (unW wNeg (cW (.int 1))) (vW 3))) (truW (clW m_open_towards (consW (vW 0) (consW (vW 1) (consW (unW wNeg (cW (.int 1))) nilW)))))) (cW .non) (clW m_least_product (consW (vW 0) (consW (vW 1) nilW)))))
    (seqW (asgW (.nm 5) (ifW (andW (tsW (opW (wIn false) (cW (.int 1)) (vW 3))) (truW (clW m_open_towards (consW (vW 0) (consW (vW 1) (consW (cW (.int 1)) nilW)))))) (cW .non) (clW m_greatest_product (consW (vW 0) (consW (vW 1) nilW)))))
    (retW (tupW (consW (vW 4) (consW (vW 5) nilW)))))))))

/-- _law_divided -/
def g_law_divided : WS :=
    (seqW (asgW (.nm 2) (lcW (sqI (clW m_law_numbers (consW (vW 1) nilW))) (.nm 5) (tsW (opW wNe (vW 5) (cW (.int 0)))) (vW 5) [5]))
    (seqW (asgW (.tp [3, 4]) (tupW (consW (clW m_divide (consW (vW 0) (consW (vW 1) nilW))) (consW (clW m_remainder (consW (vW 0) (consW (vW 1) nilW))) nilW))))
    (seqW (ifS (tsW (opW wEq (vW 1) (tupW (consW (cW (.int 0)) (consW (cW (.int 0)) nilW))))) (retW (andV (opW wIs (vW 3) (cW .non)) (opW wIs (vW 4) (cW .non)))) nxW)
    (seqW (forW (sqI (clW m_law_numbers (consW (vW 0) nilW))) (.nm 5) (ifS (notW (truW (clW wAll (consW (lcW (sqI (vW 2)) (.nm 6) yesW (andV (clW m_law_in (consW (vW 3) (consW (opW wDiv (vW 5) (vW 6)) nilW))) (clW m_law_in (consW (vW 4) (consW (opW wMod (vW 5) (vW 6)) nilW)))) [6]) nilW)))) (retW (cW (.bl false))) nxW))
    (retW (andV (opW wIs (clW m_is_span (consW (vW 3) nilW)) (cW (.bl true))) (opW wIs (clW m_is_span (consW (vW 4) nilW)) (cW (.bl true)))))))))

/-- _law_same -/
def g_law_same (n : Nat) : WS :=
    (seqW (ifS (tsW (opW wIs (vW 1) (cW .non))) (retW (opW wIs (vW 0) (cW .non))) nxW)
    (seqW (ifS (truW (clW wIsi (consW (vW 1) (consW (cW (.ty "bool")) nilW)))) (retW (andV (clW wIsi (consW (vW 0) (consW (cW (.ty "bool")) nilW))) (opW wEq (vW 0) (vW 1)))) nxW)
    (seqW (ifS (truW (clW wIsi (consW (vW 1) (consW (cW (.ty "tuple")) nilW)))) (seqW (ifS (orW (notW (truW (clW wIsi (consW (vW 0) (consW (cW (.ty "tuple")) nilW))))) (tsW (opW wNe (clW wLen (consW (vW 0) nilW)) (clW wLen (consW (vW 1) nilW))))) (retW (cW (.bl false))) nxW)
    (retW (clW wAll (consW (lcW (rgI1 (consW (clW wLen (consW (vW 1) nilW)) nilW)) (.nm 2) yesW (clW (prv m_law_same n) (consW (opW wIx (vW 0) (vW 2)) (consW (opW wIx (vW 1) (vW 2)) nilW))) [2]) nilW)))) nxW)
    (seqW (ifS (truW (clW wIsi (consW (vW 1) (consW (cW (.ty "str")) nilW)))) (retW (andV (clW wIsi (consW (vW 0) (consW (cW (.ty "str")) nilW))) (opW wEq (vW 0) (vW 1)))) nxW)
    (retW (andV (clW wIsi (consW (vW 0) (consW (cW (.ty "int")) nilW))) (andV (notV (clW wIsi (consW (vW 0) (consW (cW (.ty "bool")) nilW)))) (opW wEq (vW 0) (vW 1)))))))))

/-- law -/
def g_law : WS :=
    (seqW (asgW (.nm 1) (clW m_law_tape (consW (vW 0) nilW)))
    (seqW (forW (rgI1 (consW (cW (.int 3)) nilW)) (.nm 2) (seqW (asgW (.tp [3, 4]) (tupW (consW (clW m_law_span (consW (vW 1) nilW)) (consW (clW m_law_span (consW (vW 1) nilW)) nilW))))
    (seqW (asgW (.tp [5, 6]) (tupW (consW (clW m_law_far (consW (vW 3) nilW)) (consW (clW m_law_far (consW (vW 4) nilW)) nilW))))
    (seqW (asgW (.nm 7) (opW wAdd (lcW (sqI (vW 5)) (.nm 16) yesW (opW wMul (vW 16) (opW wIx (vW 6) (cW (.int 0)))) [16]) (lcW (sqI (vW 5)) (.nm 16) yesW (opW wMul (vW 16) (opW wIx (vW 6) (cW (.int 1)))) [16])))
    (seqW (asgW (.nm 8) (tupW (consW (clW m_law_near (consW (opW wAdd (opW wIx (vW 5) (cW (.int 0))) (opW wIx (vW 6) (cW (.int 0)))) (consW (opW wAdd (opW wIx (vW 5) (cW (.int 1))) (opW wIx (vW 6) (cW (.int 1)))) nilW))) (consW (clW m_law_near (consW (opW wSub (opW wIx (vW 5) (cW (.int 0))) (opW wIx (vW 6) (cW (.int 1)))) (consW (opW wSub (opW wIx (vW 5) (cW (.int 1))) (opW wIx (vW 6) (cW (.int 0)))) nilW))) (consW (clW m_law_near (consW (unW wNeg (opW wIx (vW 5) (cW (.int 1)))) (consW (unW wNeg (opW wIx (vW 5) (cW (.int 0)))) nilW))) (consW (clW m_law_near (consW (clW wMin (consW (vW 7) nilW)) (consW (clW wMax (consW (vW 7) nilW)) nilW))) nilW))))))
    (seqW (ifS (notW (truW (clW (m_law_same 4) (consW (tupW (consW (clW m_add (consW (vW 3) (consW (vW 4) nilW))) (consW (clW m_subtract (consW (vW 3) (consW (vW 4) nilW))) (consW (clW m_contrary (consW (vW 3) nilW)) (consW (clW m_multiply (consW (vW 3) (consW (vW 4) nilW))) nilW))))) (consW (vW 8) nilW))))) (retW (cW (.bl false))) nxW)
    (seqW (parW 9 10 (consW (clW wMax (consW (opW wIx (vW 5) (cW (.int 0))) (consW (opW wIx (vW 6) (cW (.int 0))) nilW))) (consW (clW wMin (consW (opW wIx (vW 5) (cW (.int 1))) (consW (opW wIx (vW 6) (cW (.int 1))) nilW))) nilW)))
    (seqW (asgW (.nm 11) (tupW (consW (clW m_law_near (consW (clW wMin (consW (opW wIx (vW 5) (cW (.int 0))) (consW (opW wIx (vW 6) (cW (.int 0))) nilW))) (consW (clW wMax (consW (opW wIx (vW 5) (cW (.int 1))) (consW (opW wIx (vW 6) (cW (.int 1))) nilW))) nilW))) (consW (ifW (tsW (opW wGt (vW 9) (vW 10))) (cW .non) (clW m_law_near (consW (vW 9) (consW (vW 10) nilW)))) nilW))))
    (seqW (ifS (notW (truW (clW (m_law_same 4) (consW (tupW (consW (clW m_join (consW (vW 3) (consW (vW 4) nilW))) (consW (clW m_meet (consW (vW 3) (consW (vW 4) nilW))) nilW))) (consW (vW 11) nilW))))) (retW (cW (.bl false))) nxW)
    (seqW (ifS (notW (truW (clW (m_law_same 4) (consW (tupW (consW (clW m_is_within (consW (vW 3) (consW (vW 4) nilW))) (consW (clW m_size_of (consW (vW 3) nilW)) nilW))) (consW (tupW (consW (andV (opW wLe (opW wIx (vW 6) (cW (.int 0))) (opW wIx (vW 5) (cW (.int 0)))) (opW wLe (opW wIx (vW 5) (cW (.int 1))) (opW wIx (vW 6) (cW (.int 1))))) (consW (ifW (tsW (opW (wIn false) (cW .non) (vW 3))) (cW .non) (opW wAdd (opW wSub (opW wIx (vW 3) (cW (.int 1))) (opW wIx (vW 3) (cW (.int 0)))) (cW (.int 1)))) nilW))) nilW))))) (retW (cW (.bl false))) nxW)
    (seqW (ifS (notW (truW (clW wAll (consW (lcW (rgI2 (consW (unW wNeg (cW (.int 24))) (consW (cW (.int 25)) nilW))) (.nm 13) yesW (clW (m_law_same 4) (consW (clW m_holds (consW (vW 3) (consW (vW 13) nilW))) (consW (clW m_law_in (consW (vW 3) (consW (vW 13) nilW))) nilW))) [13]) nilW)))) (retW (cW (.bl false))) nxW)
    (seqW (ifS (orW (notW (truW (clW m_law_divided (consW (vW 3) (consW (vW 4) nilW))))) (notW (truW (clW m_law_held (consW (vW 1) (consW (vW 3) (consW (vW 4) nilW))))))) (retW (cW (.bl false))) nxW)
    (seqW (asgW (.nm 12) (opW wSub (opW wAdd (opW wPow (cW (.int 10)) (cW (.int 60))) (clW m_law_draw (consW (vW 1) (consW (cW (.int 3)) nilW)))) (cW (.int 1))))
    (ifS (orW (notW (truW (clW (m_law_same 4) (consW (clW m_tamed (consW (tupW (consW (unW wNeg (vW 12)) (consW (vW 12) nilW))) nilW)) (consW (ifW (tsW (opW wGt (vW 12) (opW wPow (cW (.int 10)) (cW (.int 60))))) (tupW (consW (cW .non) (consW (cW .non) nilW))) (tupW (consW (unW wNeg (vW 12)) (consW (vW 12) nilW)))) nilW))))) (notW (truW (clW (m_law_same 4) (consW (clW m_tamed (consW (vW 3) nilW)) (consW (vW 3) nilW)))))) (retW (cW (.bl false))) nxW))))))))))))))
    (seqW (asgW (.nm 13) (opW wSub (clW m_law_draw (consW (vW 1) (consW (cW (.int 99)) nilW))) (cW (.int 49))))
    (seqW (asgW (.nm 14) (lstW (consW (tupW (consW (cW (.int 1)) (consW (cW (.int 0)) nilW))) (consW (tupW (consW (cW (.int 1)) nilW)) (consW (tupW (consW (cW (.int 1)) (consW (cW (.int 2)) (consW (cW (.int 3)) nilW)))) (consW (lstW (consW (cW (.int 1)) (consW (cW (.int 2)) nilW))) (consW (cW .non) (consW (cW (.int 5)) (consW (cW (.str "ab")) (consW (tupW (consW (cW (.bl true)) (consW (cW (.int 2)) nilW))) (consW (tupW (consW (cW (.int 1)) (consW (cW (.bl false)) nilW))) (consW (tupW (consW (cW .non) nilW)) (consW (tupW (consW (cW (.int 1)) (consW (cW (.str "a")) nilW))) (consW (tupW (consW (vW 13) (consW (opW wSub (vW 13) (cW (.int 1))) nilW))) nilW))))))))))))))
    (seqW (asgW (.nm 15) (lstW (consW (tupW (consW (vW 13) (consW (vW 13) nilW))) (consW (tupW (consW (cW .non) (consW (vW 13) nilW))) (consW (tupW (consW (vW 13) (consW (cW .non) nilW))) (consW (tupW (consW (cW .non) (consW (cW .non) nilW))) (consW (tupW (consW (vW 13) (consW (opW wAdd (vW 13) (cW (.int 3))) nilW))) nilW)))))))
    (retW (andV (clW (m_law_same 4) (consW (tupW (consW (cW (.tup [.non, .non])) (consW (clW m_of (consW (vW 13) nilW)) nilW))) (consW (tupW (consW (tupW (consW (cW .non) (consW (cW .non) nilW))) (consW (tupW (consW (vW 13) (consW (vW 13) nilW))) nilW))) nilW))) (andV (notV (clW wAny (consW (lcW (sqI (vW 14)) (.nm 17) yesW (clW m_is_span (consW (vW 17) nilW)) [17]) nilW))) (clW wAll (consW (lcW (sqI (vW 15)) (.nm 17) yesW (clW m_is_span (consW (vW 17) nilW)) [17]) nilW))))))))))

end K40
namespace K40
open PySem PySem.Spec L2 DL
theorem sp_of (ds : List D) (S : Store) (Q : DQ) (hS : S.all (Cell.blw S.length) = true) (h : m_of ds S Q) : g_of (D0 S Q) (startD ["number"] ds) S := by
  unfold m_of at h
  split at h
  · exact ⟨sz2, .inl h⟩
  · exact h.elim
theorem sp_tamed (ds : List D) (S : Store) (Q : DQ) (hS : S.all (Cell.blw S.length) = true) (h : m_tamed ds S Q) : g_tamed (D0 S Q) (startD ["one", "low", "high"] ds) S := by
  obtain ⟨⟨a, b⟩, rfl, q⟩ := m1_inv h
  have e : (10 : Int) ^ 60 = most := rfl
  unfold g_tamed
  rw [e]
  have hi : ∀ lo : Option Int, Q (sp (lo, (tamS (a, b)).2)) S → seqW (asgW (.nm 1) (cW (eD lo))) (retW (tupW (consW (vW 1) (consW (ifW (andW (tsW (opW wIsnt (vW 2) (cW .non))) (tsW (opW wGt (vW 2) (cW (.int most))))) (cW .non) (vW 2)) nilW)))) (D0 S Q) [some (sp (a, b)), some (eD a), some (eD b)] S := by
    intro lo q
    cases b with
    | none => exact ⟨sz2, .inl q⟩
    | some y =>
      by_cases hy : most < y
      · have e2 : decide (most < y) = true := decide_eq_true hy
        simp only [tamS, if_pos hy] at q
        show (if decide (most < y) = true then _ else _)
        rw [if_pos e2]
        exact ⟨sz2, .inl q⟩
      · have e2 : decide (most < y) = false := decide_eq_false hy
        simp only [tamS, if_neg hy] at q
        show (if decide (most < y) = true then _ else _)
        rw [e2, if_neg Bool.false_ne_true]
        exact ⟨sz2, .inl q⟩
  cases a with
  | none => exact hi none q
  | some x =>
    show (if decide (x < -most) = true then _ else _)
    by_cases hx : x < -most
    · simp only [tamS, if_pos hx] at q
      rw [if_pos (decide_eq_true hx)]
      exact hi none q
    · simp only [tamS, if_neg hx] at q
      rw [if_neg (by simp [hx])]
      exact hi (some x) q
local macro_rules | `(tactic| walk_at "ev") => `(tactic| repeat' (first | exact sz2 | exact sz1 | exact sz0 | refine And.intro ?_ ?_ | refine ite_d (fun _ => ?_) (fun _ => ?_) | refine ite_n (fun _ => ?_) (fun _ => ?_)))
theorem sp_holds (ds : List D) (S : Store) (Q : DQ) (hS : S.all (Cell.blw S.length) = true) (h : m_holds ds S Q) : g_holds (D0 S Q) (startD ["one", "number"] ds) S := by
  obtain ⟨⟨a, b⟩, n, rfl, q⟩ := mI_inv h
  clear h
  cases a <;> cases b <;> walk_at "ev"
  all_goals first | exact .inl q | (simp [holdsB, loB, hiB, *] at q; exact .inl q) | (simp [holdsB, loB, hiB, *] at q; show exitQ S.length Q (.bl (decide _)) S; simp [*]; exact .inl q) 
theorem sp_is_within (ds : List D) (S : Store) (Q : DQ) (hS : S.all (Cell.blw S.length) = true) (h : m_is_within ds S Q) : g_is_within (D0 S Q) (startD ["one", "other", "low"] ds) S := by
  obtain ⟨⟨a1, a2⟩, ⟨b1, b2⟩, rfl, q⟩ := m2_inv h
  clear h
  cases a1 <;> cases a2 <;> cases b1 <;> cases b2 <;> walk_at "ev"
  all_goals first | exact .inl q | (simp [withinB, *] at q; exact .inl q) | (simp [withinB, *] at q; show exitQ S.length Q (.bl (decide _)) S; simp [*]; exact .inl q) 
theorem sp_join (ds : List D) (S : Store) (Q : DQ) (hS : S.all (Cell.blw S.length) = true) (h : m_join ds S Q) : g_join (D0 S Q) (startD ["one", "other", "low"] ds) S := by
  obtain ⟨⟨a1, a2⟩, ⟨b1, b2⟩, rfl, q⟩ := m2_inv h
  cases a1 <;> cases a2 <;> cases b1 <;> cases b2 <;> exact ⟨sz2, .inl q⟩
theorem sp_meet (ds : List D) (S : Store) (Q : DQ) (hS : S.all (Cell.blw S.length) = true) (h : m_meet ds S Q) : g_meet (D0 S Q) (startD ["one", "other", "low", "high"] ds) S := by
  obtain ⟨⟨a1, a2⟩, ⟨b1, b2⟩, rfl, q⟩ := m2_inv h
  clear h
  cases a1 <;> cases a2 <;> cases b1 <;> cases b2 <;> walk_at "ev"
  all_goals first | exact .inl q | (simp only [meetS, meet0, if_pos (show _ < _ by assumption)] at q; exact .inl q) | (simp only [meetS, meet0] at q; rw [if_neg (by assumption)] at q; exact .inl q) | (simp only [meetS, meet0] at q; rw [if_pos (by assumption)] at q; exact .inl q)
theorem sp_narrow (ds : List D) (S : Store) (Q : DQ) (hS : S.all (Cell.blw S.length) = true) (h : m_narrow ds S Q) : g_narrow (D0 S Q) (startD ["one", "other"] ds) S := by
  obtain ⟨⟨a1, a2⟩, ⟨b1, b2⟩, rfl, q⟩ := m2_inv h
  cases a1 <;> cases a2 <;> cases b1 <;> cases b2 <;> exact ⟨sz2, .inl q⟩
theorem sp_add (ds : List D) (S : Store) (Q : DQ) (hS : S.all (Cell.blw S.length) = true) (h : m_add ds S Q) : g_add (D0 S Q) (startD ["one", "other", "low"] ds) S := by
  obtain ⟨⟨a1, a2⟩, ⟨b1, b2⟩, rfl, q⟩ := m2_inv h
  cases a1 <;> cases a2 <;> cases b1 <;> cases b2 <;> exact ⟨sz2, .inl q⟩
theorem sp_contrary (ds : List D) (S : Store) (Q : DQ) (hS : S.all (Cell.blw S.length) = true) (h : m_contrary ds S Q) : g_contrary (D0 S Q) (startD ["one"] ds) S := by
  obtain ⟨⟨a1, a2⟩, rfl, q⟩ := m1_inv h
  cases a1 <;> cases a2 <;> exact ⟨sz2, .inl q⟩
theorem sp_size_of (ds : List D) (S : Store) (Q : DQ) (hS : S.all (Cell.blw S.length) = true) (h : m_size_of ds S Q) : g_size_of (D0 S Q) (startD ["one"] ds) S := by
  obtain ⟨⟨a1, a2⟩, rfl, q⟩ := m1_inv h
  cases a1 <;> cases a2 <;> exact ⟨rfl, rfl, .inl q⟩
theorem sp_law_in (ds : List D) (S : Store) (Q : DQ) (hS : S.all (Cell.blw S.length) = true) (h : m_law_in ds S Q) : g_law_in (D0 S Q) (startD ["span", "number"] ds) S := sp_holds ds S Q hS h
theorem sp_subtract (ds : List D) (S : Store) (Q : DQ) (hS : S.all (Cell.blw S.length) = true) (h : m_subtract ds S Q) : g_subtract (D0 S Q) (startD ["one", "other"] ds) S := by
  obtain ⟨a, b, rfl, q⟩ := m2_inv h
  show (m1 fun b => sp (conS b)) [sp b] S fun y S2 => m_add [sp a, y] S2 _
  simp only [m1, spOf_sp, m_add, m2]
  exact .inl q
end K40
namespace K40
open PySem PySem.Spec L2 DL
local macro_rules | `(tactic| walk_at "ev") => `(tactic| repeat' (first | exact sz2 | exact sz1 | exact sz0 | refine And.intro ?_ ?_ | refine ite_d (fun _ => ?_) (fun _ => ?_) | refine ite_n (fun _ => ?_) (fun _ => ?_)))
section
variable {ρ : Rho} {S : Store} {fe fa fb : WE} {a b : SpT} {d : D} {i : Nat} {k : Bool}
theorem ev_v (h : lk ρ i = some d) : EvE (vW i) ρ S d := fun Q q => by
  unfold vW; rw [h]; exact q
theorem ev_c : EvE (cW d) ρ S d := fun Q q => q
theorem evt_ts (h : EvE fe ρ S (.bl k)) : EvT (tsW fe) ρ S k := fun Q q => h _ q
theorem evt_tru (h : EvE fe ρ S (.bl k)) : EvT (truW fe) ρ S k := fun Q q => h _ q
theorem ev_m1 {f : SpT → D} (h : EvE fe ρ S (sp a)) : EvE (clW (m1 f) (consW fe nilW)) ρ S (f a) := fun Q q => h _ (by
  show m1 f [sp a] S Q
  simp only [m1, spOf_sp]; exact q)
theorem ev_m2 {f : SpT → SpT → D} (h : EvE fa ρ S (sp a)) (h2 : EvE fb ρ S (sp b)) : EvE (clW (m2 f) (consW fa (consW fb nilW))) ρ S (f a b) := fun Q q => h _ (h2 _ (by
  show m2 f [sp a, sp b] S Q
  simp only [m2, spOf_sp]; exact q))
theorem ev_mI {f : SpT → Int → D} {n : Int} (h : EvE fa ρ S (sp a)) (h2 : EvE fb ρ S (.int n)) : EvE (clW (mI f) (consW fa (consW fb nilW))) ρ S (f a n) := fun Q q => h _ (h2 _ (by
  show mI f [sp a, .int n] S Q
  simp only [mI, spOf_sp]; exact q))
end
theorem wAdd_l {xs ys : List D} {S : Store} {Q : DQ} (h : xs.length + ys.length ≤ 100000) (q : Q (.lst (xs ++ ys)) S) : wAdd (.lst xs) (.lst ys) S Q := ⟨sze h, q⟩
def loN : Option Int → Bool
  | none => true
  | some x => decide (x < 0)
def hiP : Option Int → Bool
  | none => true
  | some x => decide (0 < x)
theorem app_len {xs : List D} {n : Nat} {k : Bool} {d : D} (h : xs.length ≤ n) : (xs ++ if k = true then [d] else []).length ≤ n + 1 := by
  rw [List.length_append]
  split <;> simp <;> omega
theorem sp_end_signs (ds : List D) (S : Store) (Q : DQ) (hS : S.all (Cell.blw S.length) = true) (h : m_end_signs ds S Q) : g_end_signs (D0 S Q) (startD ["one", "found"] ds) S := by
  obtain ⟨⟨a, b⟩, rfl, q⟩ := m1_inv h
  have loT : ∀ (ρ : Rho) (S' : Store), lk ρ 0 = some (sp (a, b)) → EvT (orW (tsW (opW wIs (opW wIx (vW 0) (cW (.int 0))) (cW .non))) (tsW (opW wLt (opW wIx (vW 0) (cW (.int 0))) (cW (.int 0))))) ρ S' (loN a) := by
    intro ρ S' e Q' q
    simp only [orW, tsW, opW, vW, e]
    cases a <;> exact q
  have hiT : ∀ (ρ : Rho) (S' : Store), lk ρ 0 = some (sp (a, b)) → EvT (orW (tsW (opW wIs (opW wIx (vW 0) (cW (.int 1))) (cW .non))) (tsW (opW wGt (opW wIx (vW 0) (cW (.int 1))) (cW (.int 0))))) ρ S' (hiP b) := by
    intro ρ S' e Q' q
    simp only [orW, tsW, opW, vW, e]
    cases b <;> exact q
  have midT : ∀ (ρ : Rho) (S' : Store), lk ρ 0 = some (sp (a, b)) → EvT (truW (clW m_holds (consW (vW 0) (consW (cW (.int 0)) nilW)))) ρ S' (holdsB (a, b) 0) := by
    intro ρ S' e Q' q
    simp only [truW, clW, consW, nilW, vW, cW, e, m_holds, mI, spOf_sp]
    exact q
  refine seq_new ?_
  refine seq_ifapp (d := .int (-1)) (loT _ _ rfl) rfl (fun Q q => q) (szl (by decide)) ?_
  refine seq_ifapp (d := .int 0) (midT _ _ rfl) rfl (fun Q q => q) (szl (Nat.lt_of_le_of_lt (app_len (n := 0) (by decide)) (by decide))) ?_
  refine seq_ifapp (d := .int 1) (hiT _ _ rfl) rfl (fun Q q => q) (szl (Nat.lt_of_le_of_lt (app_len (n := 1) (app_len (n := 0) (by decide))) (by decide))) ?_
  have e : (((([] : List D) ++ if (loN a) = true then [D.int (-1)] else []) ++ if holdsB (a, b) 0 = true then [D.int 0] else []) ++ if (hiP b) = true then [D.int 1] else []) = (eSigns (a, b)).map .int := by
    unfold eSigns
    simp only [List.map_append]
    cases a <;> cases b <;> simp [loN, hiP] <;> (repeat' split) <;> simp
  rw [e]
  exact exit_lst hS (Ds.blw_ints _ _) q
theorem sp_known_ends (ds : List D) (S : Store) (Q : DQ) (hS : S.all (Cell.blw S.length) = true) (h : m_known_ends ds S Q) : g_known_ends (D0 S Q) (startD ["one", "found", "end"] ds) S := by
  obtain ⟨⟨a, b⟩, rfl, q⟩ := m1_inv h
  refine seq_asg (d := .lst (((match a with | none => ([] : List Int) | some x => [x]) ++ (match b with | none => [] | some x => [x])).map .int)) ?_ ?_
  · intro Q' q'
    cases a <;> cases b <;> exact ⟨szl (show (2 : Nat) < 100000 by decide), trivial, trivial, trivial, q'⟩
  · refine ret_Q (eve_if (k := holdsB (a, b) 0) (evt_tru (ev_mI (ev_v rfl) ev_c)) (x := .lst ((kEnds (a, b)).map .int)) (fun hz => ?_) (fun hz => ?_) _ (.inl q))
    · intro Q' q'
      unfold kEnds at q'
      rw [if_pos hz] at q'
      rw [List.map_append] at q'
      exact ⟨sz1, wAdd_l (by cases a <;> cases b <;> simp) q'⟩
    · intro Q' q'
      unfold kEnds at q'
      rw [if_neg (by rw [hz]; decide), List.append_nil] at q'
      exact q'
theorem sp_is_span (ds : List D) (S : Store) (Q : DQ) (hS : S.all (Cell.blw S.length) = true) (h : m_is_span ds S Q) : g_is_span (D0 S Q) (startD ["value", "end"] ds) S := by
  unfold m_is_span at h
  split at h
  · rename_i d
    split at h
    · rename_i b e
      cases d with
      | tup ds =>
        by_cases hl : ds.length = 2
        · match ds, hl with
          | [x, y], _ =>
            cases x <;> cases y <;> first
              | (cases e; done)
              | (cases e; exact .inl h)
              | (cases e; exact ⟨trivial, .inl h⟩)
              | (cases e; exact ⟨trivial, trivial, .inl h⟩)
              | (cases e; exact ⟨rfl, rfl, trivial, .inl h⟩)
              | (cases e; exact ⟨rfl, rfl, trivial, trivial, .inl h⟩)
              | (cases e; exact ⟨rfl, rfl, trivial, trivial, trivial, rfl, rfl, .inl h⟩)
        · have e2 : isSpanB (.tup ds) = some false := by
            match ds, hl with
            | [], _ => rfl
            | [_], _ => rfl
            | _ :: _ :: _ :: _, _ => rfl
            | [_, _], z => exact absurd rfl z
          rw [e2] at e
          cases e
          refine ⟨rfl, rfl, ?_⟩
          have e3 : ((ds.length : Int) == 2) = false := beq_eq_false_iff_ne.mpr (by omega)
          show (if (!((ds.length : Int) == 2)) = true then _ else _)
          rw [e3]
          exact .inl h
      | ty _ => cases e
      | loc _ => cases e
      | rol _ => cases e
      | _ => cases e; exact .inl h
    · exact h.elim
  · exact h.elim
end K40
namespace K40
open PySem PySem.Spec L2 DL
theorem inD_ints (n : Int) (ns : List Int) : inD (.int n) (ns.map .int) = ns.any fun k => k == n := by
  induction ns with
  | nil => rfl
  | cons m ns ih => rw [List.map_cons, List.any_cons, ← ih]; rfl
theorem flt_ints (ns : List Int) : (ns.map D.int).all D.flt = true := by
  induction ns with
  | nil => rfl
  | cons m ns ih => rw [List.map_cons, List.all_cons, ih]; rfl
theorem wIn_ints {n : Int} {ns : List Int} {S : Store} {Q : DQ} (q : Q (.bl (ns.any fun k => k == n)) S) : wIn false (.int n) (.lst (ns.map .int)) S Q := by
  refine ⟨rfl, flt_ints ns, ?_⟩
  show Q (.bl (inD (.int n) (ns.map .int))) S
  rw [inD_ints]; exact q
section
variable {ρ : Rho} {S : Store} {fe fa fb : WE} {a b : SpT} {d : D} {i : Nat} {k : Bool}
theorem ev_hiN (h : lk ρ i = some (sp a)) : EvE (opW wIs (opW wIx (vW i) (cW (.int 1))) (cW .non)) ρ S (.bl a.2.isNone) := fun Q q => by
  obtain ⟨x, y⟩ := a
  simp only [opW, vW, cW, h]
  cases y <;> exact q
theorem ev_loN (h : lk ρ i = some (sp a)) : EvE (opW wIs (opW wIx (vW i) (cW (.int 0))) (cW .non)) ρ S (.bl a.1.isNone) := fun Q q => by
  obtain ⟨x, y⟩ := a
  simp only [opW, vW, cW, h]
  cases x <;> exact q
theorem ev_in {n : Int} {ns : List Int} (h1 : EvE fa ρ S (.int n)) (h2 : EvE fb ρ S (.lst (ns.map .int))) : EvE (opW (wIn false) fa fb) ρ S (.bl (ns.any fun k => k == n)) := fun Q q => h1 _ (h2 _ (wIn_ints q))
theorem ev_neg {n : Int} (h1 : EvE fa ρ S (.int n)) : EvE (unW wNeg fa) ρ S (.int (-n)) := fun Q q => h1 _ q
theorem sq_of {xs : List D} (h : EvE fe ρ S (.lst xs)) {R : List D → (Store → Prop) → Store → Prop} (r : R xs (fun _ => True) S) : sqI fe ρ S R := h _ r
end
theorem sp_open_towards (ds : List D) (S : Store) (Q : DQ) (hS : S.all (Cell.blw S.length) = true) (h : m_open_towards ds S Q) : g_open_towards (D0 S Q) (startD ["one", "other", "sign", "left", "right"] ds) S := by
  unfold m_open_towards at h
  split at h
  · rename_i x y s
    split at h
    · rename_i a b e1 e2
      obtain rfl := of_spOf e1
      obtain rfl := of_spOf e2
      have turn : ∀ (a b : SpT) (ρ : Rho) (De : DEnds), lk ρ 2 = some (.int s) → lk ρ 3 = some (sp a) → lk ρ 4 = some (sp b) → De.rt = exitQ S.length Q → (open1 a b s = false → De.nx ρ S) → (open1 a b s = true → Q (.bl true) S) →
          (seqW (ifS (andW (tsW (opW wIs (opW wIx (vW 3) (cW (.int 1))) (cW .non))) (tsW (opW (wIn false) (vW 2) (clW m_end_signs (consW (vW 4) nilW))))) (retW (cW (.bl true))) nxW)
            (ifS (andW (tsW (opW wIs (opW wIx (vW 3) (cW (.int 0))) (cW .non))) (tsW (opW (wIn false) (unW wNeg (vW 2)) (clW m_end_signs (consW (vW 4) nilW))))) (retW (cW (.bl true))) nxW)) De ρ S := by
        intro a b ρ De l2 l3 l4 hrt hn ht
        refine seq_if (evt_and (evt_ts (ev_hiN l3)) fun _ => evt_ts (ev_in (ev_v l2) (ev_m1 (ev_v l4)))) (fun e => ?_) (fun e => ?_)
        · refine seq_ret ev_c ?_
          rw [hrt]
          refine .inl (ht ?_)
          unfold open1; rw [e]; rfl
        · refine seq_nx ?_
          refine (evt_and (k := a.1.isNone) (evt_ts (ev_loN l3)) fun _ => evt_ts (ev_in (ev_neg (ev_v l2)) (ev_m1 (ev_v l4)))) _ ?_
          cases e3 : (a.1.isNone && (eSigns b).any fun k => k == -s) with
          | true =>
            refine ret_of ev_c ?_
            rw [hrt]
            refine .inl (ht ?_)
            unfold open1; rw [e3, Bool.or_true]
          | false =>
            refine hn ?_
            unfold open1; rw [e, e3]; rfl
      refine ⟨sz2, sz2, sz2, trivial, turn a b _ _ rfl rfl rfl rfl (fun n1 => ⟨trivial, turn b a _ _ rfl rfl rfl rfl (fun n2 => ⟨trivial, ?_⟩) (fun t2 => ?_)⟩) (fun t1 => ?_)⟩
      · have e : openT a b s = false := by unfold openT; rw [n1, n2]; rfl
        rw [e] at h
        exact .inl h
      · have e : openT a b s = true := by unfold openT; rw [t2, Bool.or_true]
        rw [e] at h
        exact h
      · have e : openT a b s = true := by unfold openT; rw [t1]; rfl
        rw [e] at h
        exact h
    · exact h.elim
  · exact h.elim
theorem kEnds_small {a : SpT} (h : smS a) : ∀ x ∈ kEnds a, -1000000 ≤ x ∧ x ≤ 1000000 := by
  obtain ⟨x, y⟩ := a
  obtain ⟨h1, h2⟩ := h
  intro z hz
  unfold kEnds at hz
  simp only [List.mem_append] at hz
  rcases hz with (hz | hz) | hz
  · cases x with
    | none => simp at hz
    | some v =>
      have e : z = v := by simpa using hz
      rw [e]; exact h1
  · cases y with
    | none => simp at hz
    | some v =>
      have e : z = v := by simpa using hz
      rw [e]; exact h2
  · split at hz
    · have e : z = 0 := by simpa using hz
      omega
    · simp at hz
theorem kEnds_len (a : SpT) : (kEnds a).length ≤ 3 := by
  obtain ⟨x, y⟩ := a
  unfold kEnds
  cases x <;> cases y <;> simp <;> split <;> simp
theorem flatMap_ints (xs ys : List Int) : ((xs.map D.int).flatMap fun x => (ys.map D.int).map fun y => match x, y with | .int i, .int j => .int (i * j) | _, _ => .non) = (prods xs ys).map D.int := by
  unfold prods
  induction xs with
  | nil => rfl
  | cons x xs ih =>
    rw [List.map_cons, List.flatMap_cons, List.flatMap_cons, List.map_append, ih, List.map_map, List.map_map]
    rfl
theorem flat_len {xs : List D} {ys : List Int} : (xs.flatMap fun _ => ys.map D.int).length = xs.length * ys.length := by
  induction xs with
  | nil => simp
  | cons x xs ih => rw [List.flatMap_cons, List.length_append, ih, List.length_map, List.length_cons, Nat.succ_mul, Nat.add_comm]
def WIv (wi : WI) (ρ : Rho) (S : Store) (xs : List D) : Prop := ∀ R : List D → (Store → Prop) → Store → Prop, R xs (fun _ => True) S → wi ρ S R
theorem wiv_l {ρ : Rho} {S : Store} {fe : WE} {xs : List D} (h : EvE fe ρ S (.lst xs)) : WIv (sqI fe) ρ S xs := fun R r => h _ r
theorem wiv_t {ρ : Rho} {S : Store} {fe : WE} {xs : List D} (h : EvE fe ρ S (.tup xs)) : WIv (sqI fe) ρ S xs := fun R r => h _ r
theorem ev_prod {ρ : Rho} {S : Store} {i j : Nat} {vs vs1 : List Nat} {wa wb : WI} {xs ys : List Int} (hx : ∀ x ∈ xs, -1000000 ≤ x ∧ x ≤ 1000000) (hl : xs.length * ys.length < 1000) (ha : WIv wa ρ S (xs.map .int))
    (hb : ∀ x, WIv wb ((wipeD ρ vs).set i x) S (ys.map .int)) (hi : ∀ x y, lk ((wipeD ((wipeD ρ vs).set i x) vs1).set j y) i = x) (hj : ∀ x y, lk ((wipeD ((wipeD ρ vs).set i x) vs1).set j y) j = y) :
    EvE (lc2W wa (.nm i) yesW wb (.nm j) yesW (opW wMul (vW i) (vW j)) vs vs1) ρ S (.lst ((prods xs ys).map .int)) := by
  intro Q q
  refine ha _ ?_
  refine comp2_pure (ok1 := fun _ => True) (fun _ => ys.map .int) (fun x y => match x, y with | .int i, .int j => .int (i * j) | _, _ => .non) trivial ?_ ?_ ?_
  · rw [flat_len, List.length_map]; omega
  · intro x hx'
    obtain ⟨m, hm, rfl⟩ := List.mem_map.mp hx'
    refine ⟨_, rfl, fun R r => hb _ _ r, trivial, fun y hy => ?_⟩
    obtain ⟨n, hn, rfl⟩ := List.mem_map.mp hy
    refine ⟨_, rfl, fun Q' q' => ?_⟩
    have := hx m hm
    refine (ev_v (hi _ _)) _ ((ev_v (hj _ _)) _ ⟨.inl ⟨by omega, by omega⟩, q'⟩)
  · rw [flatMap_ints]; exact q
theorem sp_least_product (ds : List D) (S : Store) (Q : DQ) (hS : S.all (Cell.blw S.length) = true) (h : m_least_product ds S Q) : g_least_product (D0 S Q) (startD ["one", "other", "found", "left", "right"] ds) S := by
  unfold m_least_product at h
  split at h
  · split at h
    · rename_i a b e1 e2
      obtain rfl := of_spOf e1
      obtain rfl := of_spOf e2
      obtain ⟨⟨s1, s2⟩, h⟩ := h
      have l1 := kEnds_len a
      have l2 := kEnds_len b
      refine seq_asg (ev_prod (xs := kEnds a) (ys := kEnds b) (kEnds_small s1) (Nat.lt_of_le_of_lt (Nat.mul_le_mul l1 l2) (by decide)) (wiv_l (ev_m1 (ev_v rfl))) (fun _ => wiv_l (ev_m1 (ev_v rfl))) (fun _ _ => rfl) (fun _ _ => rfl)) ?_
      show (match intsOf ((prods (kEnds a) (kEnds b)).map .int) with | some (m :: r) => _ | _ => False)
      rw [intsOf_map]
      cases e : prods (kEnds a) (kEnds b) with
      | nil => rw [e] at h; exact h.elim
      | cons m r => rw [e] at h; exact .inl h
    · exact h.elim
  · exact h.elim
theorem sp_greatest_product (ds : List D) (S : Store) (Q : DQ) (hS : S.all (Cell.blw S.length) = true) (h : m_greatest_product ds S Q) : g_greatest_product (D0 S Q) (startD ["one", "other", "found", "left", "right"] ds) S := by
  unfold m_greatest_product at h
  split at h
  · split at h
    · rename_i a b e1 e2
      obtain rfl := of_spOf e1
      obtain rfl := of_spOf e2
      obtain ⟨⟨s1, s2⟩, h⟩ := h
      have l1 := kEnds_len a
      have l2 := kEnds_len b
      refine seq_asg (ev_prod (xs := kEnds a) (ys := kEnds b) (kEnds_small s1) (Nat.lt_of_le_of_lt (Nat.mul_le_mul l1 l2) (by decide)) (wiv_l (ev_m1 (ev_v rfl))) (fun _ => wiv_l (ev_m1 (ev_v rfl))) (fun _ _ => rfl) (fun _ _ => rfl)) ?_
      show (match intsOf ((prods (kEnds a) (kEnds b)).map .int) with | some (m :: r) => _ | _ => False)
      rw [intsOf_map]
      cases e : prods (kEnds a) (kEnds b) with
      | nil => rw [e] at h; exact h.elim
      | cons m r => rw [e] at h; exact .inl h
    · exact h.elim
  · exact h.elim
end K40
namespace K40
open PySem PySem.Spec L2 DL
section
variable {ρ : Rho} {S : Store} {fe fa fb fc : WE} {a b : SpT} {d : D} {i : Nat} {k : Bool}
theorem ev_eqzz (h : EvE fe ρ S (sp a)) : EvE (opW wEq fe (tupW (consW (cW (.int 0)) (consW (cW (.int 0)) nilW)))) ρ S (.bl (decide (a = zz))) := fun Q q => h _ (by
  obtain ⟨x, y⟩ := a
  refine ⟨sz2, ?_⟩
  cases x with
  | none =>
    have e : decide ((none, y) = zz) = false := decide_eq_false (fun z => by simp [zz] at z)
    rw [e] at q
    cases y <;> exact ⟨rfl, rfl, q⟩
  | some x =>
    cases y with
    | none =>
      have e : decide ((some x, none) = zz) = false := decide_eq_false (fun z => by simp [zz] at z)
      rw [e] at q
      refine ⟨rfl, rfl, ?_⟩
      show Q (.bl ((x == 0) && (false && true))) S
      rw [show ((x == 0) && (false && true)) = false by cases (x == 0) <;> rfl]
      exact q
    | some y =>
      refine ⟨rfl, rfl, ?_⟩
      show Q (.bl ((x == 0) && ((y == 0) && true))) S
      have e : ((x == 0) && ((y == 0) && true)) = decide ((some x, some y) = zz) := by
        rw [Bool.eq_iff_iff]
        simp [zz]
      rw [e]; exact q)
theorem ev_open {s : Int} (h : EvE fa ρ S (sp a)) (h2 : EvE fb ρ S (sp b)) (h3 : EvE fc ρ S (.int s)) : EvE (clW m_open_towards (consW fa (consW fb (consW fc nilW)))) ρ S (.bl (openT a b s)) := fun Q q => h _ (h2 _ (h3 _ (by
  show m_open_towards [sp a, sp b, .int s] S Q
  simp only [m_open_towards, spOf_sp]; exact q)))
theorem ev_least {n : Int} (sm : smS a ∧ smS b) (e : lstM (prods (kEnds a) (kEnds b)) = some n) (h : EvE fa ρ S (sp a)) (h2 : EvE fb ρ S (sp b)) : EvE (clW m_least_product (consW fa (consW fb nilW))) ρ S (.int n) := fun Q q => h _ (h2 _ (by
  show m_least_product [sp a, sp b] S Q
  simp only [m_least_product, spOf_sp, e]; exact ⟨sm, q⟩))
theorem ev_greatest {n : Int} (sm : smS a ∧ smS b) (e : lstX (prods (kEnds a) (kEnds b)) = some n) (h : EvE fa ρ S (sp a)) (h2 : EvE fb ρ S (sp b)) : EvE (clW m_greatest_product (consW fa (consW fb nilW))) ρ S (.int n) := fun Q q => h _ (h2 _ (by
  show m_greatest_product [sp a, sp b] S Q
  simp only [m_greatest_product, spOf_sp, e]; exact ⟨sm, q⟩))
end
def both (p q : Option (Option Int)) (R : SpT → Prop) : Prop := match p, q with
  | some l, some h => R (l, h)
  | _, _ => False
theorem eSigns_small (a : SpT) : ∀ x ∈ eSigns a, -1000000 ≤ x ∧ x ≤ 1000000 := by
  obtain ⟨x, y⟩ := a
  intro z hz
  unfold eSigns at hz
  simp only [List.mem_append] at hz
  have key : z = -1 ∨ z = 0 ∨ z = 1 := by
    rcases hz with hz | hz | hz
    · cases x with
      | none => left; simpa using hz
      | some v =>
        dsimp only at hz
        split at hz
        · left; simpa using hz
        · simp at hz
    · split at hz
      · right; left; simpa using hz
      · simp at hz
    · cases y with
      | none => right; right; simpa using hz
      | some v =>
        dsimp only at hz
        split at hz
        · right; right; simpa using hz
        · simp at hz
  omega
theorem eSigns_len (a : SpT) : (eSigns a).length ≤ 3 := by
  obtain ⟨x, y⟩ := a
  unfold eSigns
  cases x <;> cases y <;> simp <;> (repeat' split) <;> simp
theorem sp_multiply (ds : List D) (S : Store) (Q : DQ) (hS : S.all (Cell.blw S.length) = true) (h : m_multiply ds S Q) : g_multiply (D0 S Q) (startD ["one", "other", "found", "signs", "low", "high", "left", "right"] ds) S := by
  unfold m_multiply at h
  split at h
  · split at h
    · rename_i a b e1 e2
      obtain rfl := of_spOf e1
      obtain rfl := of_spOf e2
      obtain ⟨⟨s1, s2⟩, h⟩ := h
      refine seq_if (evt_or (evt_ts (ev_eqzz (ev_v rfl))) fun _ => evt_ts (ev_eqzz (ev_v rfl))) (fun e => ?_) (fun e => ?_)
      · have e2 : a = zz ∨ b = zz := by simpa using e
        unfold mulS at h
        rw [if_pos e2] at h
        exact ⟨sz2, .inl h⟩
      · have e2 : ¬ (a = zz ∨ b = zz) := by simpa using e
        unfold mulS at h
        rw [if_neg e2] at h
        refine seq_nx ?_
        have gen : both (if ((prods (eSigns a) (eSigns b)).any fun k => k == -1) && openT a b (-1) then some none else (lstM (prods (kEnds a) (kEnds b))).map some) (if ((prods (eSigns a) (eSigns b)).any fun k => k == 1) && openT a b 1 then some none else (lstX (prods (kEnds a) (kEnds b))).map some) (fun r => Q (sp r) S) → seqW (asgW (.nm 3) (lc2W (sqI (clW m_end_signs (consW (vW 0) nilW))) (.nm 6) yesW (sqI (clW m_end_signs (consW (vW 1) nilW))) (.nm 7) yesW (opW wMul (vW 6) (vW 7)) [6, 7] [7]))
              (seqW (asgW (.nm 4) (ifW (andW (tsW (opW (wIn false) (unW wNeg (cW (.int 1))) (vW 3))) (truW (clW m_open_towards (consW (vW 0) (consW (vW 1) (consW (unW wNeg (cW (.int 1))) nilW)))))) (cW .non) (clW m_least_product (consW (vW 0) (consW (vW 1) nilW)))))
              (seqW (asgW (.nm 5) (ifW (andW (tsW (opW (wIn false) (cW (.int 1)) (vW 3))) (truW (clW m_open_towards (consW (vW 0) (consW (vW 1) (consW (cW (.int 1)) nilW)))))) (cW .non) (clW m_greatest_product (consW (vW 0) (consW (vW 1) nilW)))))
              (retW (tupW (consW (vW 4) (consW (vW 5) nilW)))))) (D0 S Q) [some (sp a), some (sp b), none, none, none, none, none, none] S := by
          intro h
          unfold both at h
          have l1 := eSigns_len a
          have l2 := eSigns_len b
          split at h
          · rename_i l u el eu
            refine seq_asg (ev_prod (eSigns_small a) (Nat.lt_of_le_of_lt (Nat.mul_le_mul l1 l2) (by decide)) (wiv_l (ev_m1 (ev_v rfl))) (fun _ => wiv_l (ev_m1 (ev_v rfl))) (fun _ _ => rfl) (fun _ _ => rfl)) ?_
            refine seq_asg (d := eD l) (eve_if (evt_and (evt_ts (ev_in (ev_neg ev_c) (ev_v rfl))) fun _ => evt_tru (ev_open (ev_v rfl) (ev_v rfl) (ev_neg ev_c))) (fun c => ?_) (fun c => ?_)) ?_
            · rw [if_pos c] at el
              cases el
              exact ev_c
            · rw [if_neg (by rw [c]; decide)] at el
              cases e3 : lstM (prods (kEnds a) (kEnds b)) with
              | none => rw [e3] at el; cases el
              | some n =>
                rw [e3] at el; cases el
                exact ev_least ⟨s1, s2⟩ e3 (ev_v rfl) (ev_v rfl)
            refine seq_asg (d := eD u) (eve_if (evt_and (evt_ts (ev_in ev_c (ev_v rfl))) fun _ => evt_tru (ev_open (ev_v rfl) (ev_v rfl) ev_c)) (fun c => ?_) (fun c => ?_)) ?_
            · rw [if_pos c] at eu
              cases eu
              exact ev_c
            · rw [if_neg (by rw [c]; decide)] at eu
              cases e3 : lstX (prods (kEnds a) (kEnds b)) with
              | none => rw [e3] at eu; cases eu
              | some n =>
                rw [e3] at eu; cases eu
                exact ev_greatest ⟨s1, s2⟩ e3 (ev_v rfl) (ev_v rfl)
            exact ⟨sz2, .inl h⟩
          · exact h.elim
        have conv : ∀ {p q : Option (Option Int)}, (match (match p, q with | some l, some h => some (l, h) | _, _ => none) with | some r => Q (sp r) S | none => False) → both p q (fun r => Q (sp r) S) := by
          intro p q h
          cases p <;> cases q <;> exact h
        obtain ⟨a1, a2⟩ := a
        obtain ⟨b1, b2⟩ := b
        have full : ∀ x y u v, a1 = some x → a2 = some y → b1 = some u → b2 = some v → Q (sp (some (minL (x * u) [x * v, y * u, y * v]), some (maxL (x * u) [x * v, y * u, y * v]))) S → (seqW (asgW (.nm 2) (lc2W (sqI (vW 0)) (.nm 6) yesW (sqI (vW 1)) (.nm 7) yesW (opW wMul (vW 6) (vW 7)) [6, 7] [7]))
              (retW (tupW (consW (clW wMin (consW (vW 2) nilW)) (consW (clW wMax (consW (vW 2) nilW)) nilW))))) (D0 S Q) [some (sp (a1, a2)), some (sp (b1, b2)), none, none, none, none, none, none] S := by
          rintro x y u v rfl rfl rfl rfl h
          refine seq_asg (ev_prod (xs := [x, y]) (ys := [u, v]) ?_ (show (4 : Nat) < 1000 by decide) (wiv_t (ev_v rfl)) (fun _ => wiv_t (ev_v rfl)) (fun _ _ => rfl) (fun _ _ => rfl)) ?_
          · intro z hz
            have q1 : -1000000 ≤ x ∧ x ≤ 1000000 := s1.1
            have q2 : -1000000 ≤ y ∧ y ≤ 1000000 := s1.2
            rcases (by simpa using hz : z = x ∨ z = y) with rfl | rfl <;> assumption
          · exact ⟨sz2, .inl h⟩
        cases a1 with
        | none => cases a2 <;> cases b1 <;> cases b2 <;> exact ⟨by simp, sze (show (4 : Nat) ≤ 100000 by decide), rfl, rfl, gen (conv h)⟩
        | some x =>
          cases a2 with
          | none => cases b1 <;> cases b2 <;> exact ⟨by simp, sze (show (4 : Nat) ≤ 100000 by decide), rfl, rfl, gen (conv h)⟩
          | some y =>
            cases b1 with
            | none => cases b2 <;> exact ⟨by simp, sze (show (4 : Nat) ≤ 100000 by decide), rfl, rfl, gen (conv h)⟩
            | some u =>
              cases b2 with
              | none => exact ⟨by simp, sze (show (4 : Nat) ≤ 100000 by decide), rfl, rfl, gen (conv h)⟩
              | some v => exact ⟨by simp, sze (show (4 : Nat) ≤ 100000 by decide), rfl, rfl, full x y u v rfl rfl rfl rfl h⟩
    · exact h.elim
  · exact h.elim
end K40
namespace K40
open PySem PySem.Spec L2 DL
theorem sp_by_part (ds : List D) (S : Store) (Q : DQ) (hS : S.all (Cell.blw S.length) = true) (h : m_by_part ds S Q) : g_by_part (D0 S Q) (startD ["one", "part", "near", "far", "low", "high"] ds) S := by
  unfold m_by_part at h
  split at h
  · split at h
    · rename_i a p e1 e2
      obtain rfl := of_spOf e1
      obtain rfl := of_spOf e2
      obtain ⟨hp, q⟩ := h
      have tail : ∀ (a p : SpT) (near : Int), p.1 = some near → 1 ≤ near → near ≤ 1000000 → (∀ y, p.2 = some y → near ≤ y ∧ y ≤ 1000000) → Q (sp (tailS a near p.2)) S →
          seqW (parW 2 3 (consW (opW wIx (vW 1) (cW (.int 0))) (consW (opW wIx (vW 1) (cW (.int 1))) nilW)))
            (seqW (asgW (.tp [4, 5]) (vW 0))
            (seqW (ifS (tsW (opW wIsnt (vW 4) (cW .non))) (asgW (.nm 4) (ifW (tsW (opW wLt (vW 4) (cW (.int 0)))) (opW wDiv (vW 4) (vW 2)) (ifW (tsW (opW wIs (vW 3) (cW .non))) (cW (.int 0)) (opW wDiv (vW 4) (vW 3))))) nxW)
            (seqW (ifS (tsW (opW wIsnt (vW 5) (cW .non))) (asgW (.nm 5) (ifW (tsW (opW wGe (vW 5) (cW (.int 0)))) (opW wDiv (vW 5) (vW 2)) (ifW (tsW (opW wIs (vW 3) (cW .non))) (unW wNeg (cW (.int 1))) (opW wDiv (vW 5) (vW 3))))) nxW)
            (retW (tupW (consW (vW 4) (consW (vW 5) nilW))))))) (D0 S Q) [some (sp a), some (sp p), none, none, none, none] S := by
        rintro ⟨a1, a2⟩ ⟨p1, far⟩ near e1 h1 h2 h3 q
        cases e1
        have dn : ∀ x, CDivN x near := fun x => ⟨by omega, by omega⟩
        refine seq_par (x := .int near) (y := eD far) (fun Q q => q) (fun Q q => by cases far <;> exact q) ?_
        refine seq_tup (ds := [eD a1, eD a2]) (fun Q q => q) rfl ?_
        have lo : ∀ (ρ : Rho), lk ρ 2 = some (.int near) → lk ρ 3 = some (eD far) → lk ρ 4 = some (eD a1) → ∀ De : DEnds, (De.nx (ρ.set 4 (some (eD (tailS (a1, a2) near far).1))) S) → ((ρ.set 4 (some (eD a1))) = ρ) → ifS (tsW (opW wIsnt (vW 4) (cW .non))) (asgW (.nm 4) (ifW (tsW (opW wLt (vW 4) (cW (.int 0)))) (opW wDiv (vW 4) (vW 2)) (ifW (tsW (opW wIs (vW 3) (cW .non))) (cW (.int 0)) (opW wDiv (vW 4) (vW 3))))) nxW De ρ S := by
          intro ρ l2 l3 l4 De k same
          simp only [ifS, tsW, opW, vW, cW, asgW, ifW, nxW, l2, l3, l4]
          cases a1 with
          | none => rw [show eD (tailS (none, a2) near far).1 = eD none from rfl, same] at k; exact k
          | some x =>
            by_cases hx : x < 0
            · refine (if_pos (decide_eq_true hx)).mpr ⟨dn x, ?_⟩
              have e : (tailS (some x, a2) near far).1 = some (x.fdiv near) := by simp only [tailS, if_pos hx]
              rw [e] at k; exact k
            · refine (if_neg (by simp [hx])).mpr ?_
              cases far with
              | none =>
                have e : (tailS (some x, a2) near none).1 = some 0 := by simp only [tailS, if_neg hx]
                rw [e] at k; exact k
              | some f =>
                have e : (tailS (some x, a2) near (some f)).1 = some (x.fdiv f) := by simp only [tailS, if_neg hx]
                rw [e] at k
                have := h3 f rfl
                exact ⟨⟨by omega, by omega⟩, k⟩
        refine lo [some (sp (a1, a2)), some (sp (some near, far)), some (.int near), some (eD far), some (eD a1), some (eD a2)] rfl rfl rfl _ ?_ rfl
        have hi : ∀ (ρ : Rho), lk ρ 2 = some (.int near) → lk ρ 3 = some (eD far) → lk ρ 5 = some (eD a2) → ∀ De : DEnds, (De.nx (ρ.set 5 (some (eD (tailS (a1, a2) near far).2))) S) → ((ρ.set 5 (some (eD a2))) = ρ) → ifS (tsW (opW wIsnt (vW 5) (cW .non))) (asgW (.nm 5) (ifW (tsW (opW wGe (vW 5) (cW (.int 0)))) (opW wDiv (vW 5) (vW 2)) (ifW (tsW (opW wIs (vW 3) (cW .non))) (unW wNeg (cW (.int 1))) (opW wDiv (vW 5) (vW 3))))) nxW De ρ S := by
          intro ρ l2 l3 l4 De k same
          simp only [ifS, tsW, opW, unW, vW, cW, asgW, ifW, nxW, l2, l3, l4]
          cases a2 with
          | none => rw [show eD (tailS (a1, none) near far).2 = eD none from rfl, same] at k; exact k
          | some x =>
            by_cases hx : 0 ≤ x
            · refine (if_pos (decide_eq_true hx)).mpr ⟨dn x, ?_⟩
              have e : (tailS (a1, some x) near far).2 = some (x.fdiv near) := by simp only [tailS, if_pos hx]
              rw [e] at k; exact k
            · refine (if_neg (by simp [hx])).mpr ?_
              cases far with
              | none =>
                have e : (tailS (a1, some x) near none).2 = some (-1) := by simp only [tailS, if_neg hx]
                rw [e] at k; exact k
              | some f =>
                have e : (tailS (a1, some x) near (some f)).2 = some (x.fdiv f) := by simp only [tailS, if_neg hx]
                rw [e] at k
                have := h3 f rfl
                exact ⟨⟨by omega, by omega⟩, k⟩
        refine hi [some (sp (a1, a2)), some (sp (some near, far)), some (.int near), some (eD far), some (eD (tailS (a1, a2) near far).1), some (eD a2)] rfl rfl rfl _ ?_ rfl
        exact ⟨sz2, .inl q⟩
      obtain ⟨p1, p2⟩ := p
      obtain ⟨⟨t1, t2⟩, hp⟩ := hp
      rcases hp with ⟨x, ex, hx, hy⟩ | ⟨y, ey, hy, hx⟩
      · cases ex
        have hn : ¬ x < 0 := by omega
        have b1 : -1000000 ≤ x ∧ x ≤ 1000000 := t1
        have e : partS a (some x, p2) = tailS a x p2 := by
          unfold partS
          rw [if_neg (by simp [negE, hn])]; rfl
        rw [e] at q
        have g := tail a (some x, p2) x rfl hx b1.2 (fun y e => ⟨hy y e, by cases e; exact t2.2⟩) q
        refine (if_neg (by simp [hn])).mpr g
      · cases ey
        have b2 : -1000000 ≤ y ∧ y ≤ 1000000 := t2
        have hn : negE p1 = true := by
          cases p1 with
          | none => rfl
          | some x => exact decide_eq_true (by have := hx x rfl; omega)
        have e : partS a (p1, some y) = tailS (conS a) (-y) (conS (p1, some y)).2 := by
          unfold partS
          rw [if_pos hn]; rfl
        rw [e] at q
        have g := tail (conS a) (conS (p1, some y)) (-y) rfl (by omega) (by omega) (fun z e => by
          cases p1 with
          | none => cases e
          | some x =>
            have e2 : z = -x := by
              have : some (-x) = some z := e
              cases this; rfl
            have := hx x rfl
            have b1 : -1000000 ≤ x ∧ x ≤ 1000000 := t1
            omega) q
        refine seq_if (k := true) ?_ (fun _ => ?_) (fun z => by cases z)
        · intro Q' q'
          cases p1 with
          | none => exact q'
          | some x =>
            have : x < 0 := by have := hx x rfl; omega
            have e3 : decide (x < 0) = true := decide_eq_true this
            rw [← e3] at q'
            exact q'
        · exact seq_par (ev_m1 (ev_v rfl)) (ev_m1 (ev_v rfl)) g
    · exact h.elim
  · exact h.elim
end K40
namespace K40
open PySem PySem.Spec L2 DL
def pyE : Option Int → PyData
  | none => .none
  | some i => .int i
def pySp (a : SpT) : PyData := .tuple [pyE a.1, pyE a.2]
theorem py_sp (S : Store) (a : SpT) : pyD S (sp a) = some (pySp a) := by
  obtain ⟨x, y⟩ := a
  cases x <;> cases y <;> rfl
theorem pys_sp (S : Store) : ∀ l : List SpT, pysD S (l.map sp) = some (l.map pySp)
  | [] => rfl
  | a :: l => by
    show (match pyD S (sp a), pysD S (l.map sp) with | some p, some ps => some (p :: ps) | _, _ => none) = _
    rw [py_sp, pys_sp S l]; rfl
theorem shaped_sp : ∀ l : List SpT, l.length ≤ 2 → SeqAt.shaped (.list (l.map pySp)) = true
  | [], _ => rfl
  | [(x, y)], _ => by cases x <;> cases y <;> rfl
  | [(x, y), (u, v)], _ => by cases x <;> cases y <;> cases u <;> cases v <;> rfl
  | _ :: _ :: _ :: _, h => by simp at h
theorem blw_sp (k : Nat) (a : SpT) : D.blw k (sp a) = true := by
  obtain ⟨x, y⟩ := a
  cases x <;> cases y <;> rfl
def finD : List SpT → D
  | [] => .non
  | [r] => sp r
  | r :: t :: _ => sp (joinS r t)
theorem fin_sp {S : Store} {Q : DQ} (hS : S.all (Cell.blw S.length) = true) (l : List SpT) (hl : l.length ≤ 2) {ρ : Rho} (h : lk ρ 2 = some (.loc S.length)) (q : Q (finD l) S) :
    (seqW (ifS (tsW (opW wEq (vW 2) (lstW nilW))) (retW (cW .non)) nxW)
      (retW (ifW (tsW (opW wEq (clW wLen (consW (vW 2) nilW)) (cW (.int 1)))) (opW wIx (vW 2) (cW (.int 0))) (clW m_join (consW (opW wIx (vW 2) (cW (.int 0))) (consW (opW wIx (vW 2) (cW (.int 1))) nilW)))))) (D0 S Q) ρ (S ++ .lst (l.map sp) :: []) := by
  refine seq_if (evt_ts (eve_eqnil h (pys_sp _ l) (shaped_sp l hl))) (fun e => ?_) (fun e => ?_)
  · match l, e with
    | [], _ => exact seq_ret ev_c (exit_drop hS rfl q)
  · match l, e, hl with
    | [r], _, _ =>
      refine seq_nx (ret_of (eve_if (k := true) (fun Q' q' => ?_) (fun _ => ?_) (fun z => by cases z)) (exit_drop hS (blw_sp _ r) q))
      · exact (eve_len h) _ ⟨rfl, rfl, q'⟩
      · exact eve_ix h rfl
    | [r, t], _, _ =>
      refine seq_nx (ret_of (eve_if (k := false) (fun Q' q' => ?_) (fun z => by cases z) (fun _ => ?_)) (exit_drop hS (blw_sp _ (joinS r t)) q))
      · exact (eve_len h) _ ⟨rfl, rfl, q'⟩
      · exact ev_m2 (eve_ix h rfl) (eve_ix h rfl)
theorem ev_bypart {ρ : Rho} {S : Store} {fa fb : WE} {a p : SpT} (hp : isPart p) (h : EvE fa ρ S (sp a)) (h2 : EvE fb ρ S (sp p)) : EvE (clW m_by_part (consW fa (consW fb nilW))) ρ S (sp (partS a p)) := fun Q q => h _ (h2 _ (by
  show m_by_part [sp a, sp p] S Q
  simp only [m_by_part, spOf_sp]; exact ⟨hp, q⟩))
def some1 : Option SpT → (SpT → SpT) → List SpT
  | none, _ => []
  | some p, f => [f p]
theorem seq_put0 {S J : Store} {xs : List D} {ρ : Rho} {i : Nat} {fe : WE} {d : D} {Dd : DEnds} {rest : WS} (he : EvE fe ρ (S ++ .lst xs :: J) d) (h : lk ρ i = some (.loc S.length)) (hx : 0 < xs.length) (q : rest Dd ρ (S ++ .lst (xs.set 0 d) :: J)) :
    seqW (putW fe (vW i) (cW (.int 0))) rest Dd ρ (S ++ .lst xs :: J) := by
  refine he _ ?_
  simp only [vW, h, cW, sto_get0, ix0 hx, sto_set0]
  exact q
theorem ev_op {w : W2} {fa fb : WE} {ρ : Rho} {S : Store} {x y d : D} (h1 : EvE fa ρ S x) (h2 : EvE fb ρ S y) (h : ∀ Q : DQ, Q d S → w x y S Q) : EvE (opW w fa fb) ρ S d := fun Q q => h1 _ (h2 _ (h _ q))
theorem sp_divide (ds : List D) (S : Store) (Q : DQ) (hS : S.all (Cell.blw S.length) = true) (h : m_divide ds S Q) : g_divide (D0 S Q) (startD ["one", "other", "parts", "half", "part"] ds) S := by
  unfold m_divide at h
  split at h
  · split at h
    · rename_i a b e1 e2
      obtain rfl := of_spOf e1
      obtain rfl := of_spOf e2
      obtain ⟨hb, hp1, hp2, q⟩ := h
      refine seq_new ?_
      have turn : ∀ (hf : SpT) (l : List SpT) (c3 c4 : Option D) (De : DEnds), (∀ p, meetS b hf = some p → isPart p) → l.length ≤ 1 →
          (∀ c, De.nx [some (sp a), some (sp b), some (.loc S.length), some (sp hf), c] (S ++ .lst ((l ++ some1 (meetS b hf) (partS a)).map sp) :: [])) →
          (seqW (asgW (.nm 4) (clW m_meet (consW (vW 1) (consW (vW 3) nilW))))
            (ifS (tsW (opW wIsnt (vW 4) (cW .non))) (dropW (appW (vW 2) (clW m_by_part (consW (vW 0) (consW (vW 4) nilW))))) nxW)) De [some (sp a), some (sp b), some (.loc S.length), some (sp hf), c4] (S ++ .lst (l.map sp) :: []) := by
        intro hf l c3 c4 De hp hl k
        refine seq_asg (ev_m2 (ev_v rfl) (ev_v rfl)) ?_
        cases e : meetS b hf with
        | none =>
          rw [e] at k
          have k' := k (some .non)
          rw [show l ++ some1 none (partS a) = l from List.append_nil l] at k'
          exact k'
        | some p =>
          rw [e] at k
          have k' := k (some (sp p))
          have z : seqW (dropW (appW (vW 2) (clW m_by_part (consW (vW 0) (consW (vW 4) nilW))))) nxW De [some (sp a), some (sp b), some (.loc S.length), some (sp hf), some (sp p)] (S ++ .lst (l.map sp) :: []) := by
            refine seq_app rfl (ev_bypart (hp p e) (ev_v rfl) (ev_v rfl)) (szl (by rw [List.length_map]; omega)) ?_
            rw [List.map_append] at k'
            exact k'
          exact z
      refine ⟨sz2, sz2, sz2, trivial, ?_⟩
      refine turn (some 1, none) [] none none _ hp1 (Nat.zero_le _) fun c => ⟨trivial, ?_⟩
      have len1 : ∀ o f, (some1 o f).length ≤ 1 := fun o f => by cases o <;> simp [some1]
      refine turn (none, some (-1)) ([] ++ some1 (meetS b (some 1, none)) (partS a)) none c _ hp2 (len1 _ _) fun c2 => ⟨trivial, ?_⟩
      refine fin_sp (ρ := [some (sp a), some (sp b), some (.loc S.length), some (sp (none, some (-1))), c2]) hS _ ?_ rfl ?_
      · rw [List.nil_append, List.length_append]
        have := len1 (meetS b (some 1, none)) (partS a)
        have := len1 (meetS b (none, some (-1))) (partS a)
        omega
      · unfold divS at q
        cases e1 : meetS b (some 1, none) <;> cases e2 : meetS b (none, some (-1)) <;> (rw [e1, e2] at q; exact q)
    · exact h.elim
  · exact h.elim
theorem sp_remainder (ds : List D) (S : Store) (Q : DQ) (hS : S.all (Cell.blw S.length) = true) (h : m_remainder ds S Q) : g_remainder (D0 S Q) (startD ["one", "other", "parts", "up", "down"] ds) S := by
  obtain ⟨a, b, rfl, q⟩ := m2_inv h
  clear h
  refine seq_new ?_
  refine seq_par (x := osp (meetS b (some 1, none))) (y := osp (meetS b (none, some (-1)))) (ev_m2 (ev_v rfl) fun Q q => ⟨sz2, q⟩) (ev_m2 (ev_v rfl) fun Q q => ⟨sz2, q⟩) ?_
  show seqW _ _ (D0 S Q) [some (sp a), some (sp b), some (.loc S.length), some (osp (meetS b (some 1, none))), some (osp (meetS b (none, some (-1))))] (S ++ .lst [] :: [])
  have down : ∀ (l : List SpT) (ρ : Rho), l.length ≤ 1 → lk ρ 2 = some (.loc S.length) → lk ρ 4 = some (osp (meetS b (none, some (-1)))) → Q (finD (l ++ some1 (meetS b (none, some (-1))) dnS)) S →
      (seqW (ifS (tsW (opW wIsnt (vW 4) (cW .non))) (dropW (appW (vW 2) (tupW (consW (ifW (tsW (opW wIs (opW wIx (vW 4) (cW (.int 0))) (cW .non))) (cW .non) (opW wAdd (opW wIx (vW 4) (cW (.int 0))) (cW (.int 1)))) (consW (cW (.int 0)) nilW))))) nxW)
      (seqW (ifS (tsW (opW wEq (vW 2) (lstW nilW))) (retW (cW .non)) nxW)
      (retW (ifW (tsW (opW wEq (clW wLen (consW (vW 2) nilW)) (cW (.int 1)))) (opW wIx (vW 2) (cW (.int 0))) (clW m_join (consW (opW wIx (vW 2) (cW (.int 0))) (consW (opW wIx (vW 2) (cW (.int 1))) nilW))))))) (D0 S Q) ρ (S ++ .lst (l.map sp) :: []) := by
    intro l ρ hl h2 h4 q
    cases e : meetS b (none, some (-1)) with
    | none =>
      rw [e] at h4 q
      refine seq_if (k := false) (evt_ts fun Q' q' => (ev_v h4) _ q') (fun z => by cases z) fun _ => seq_nx ?_
      rw [show l ++ some1 none dnS = l from List.append_nil l] at q
      exact fin_sp hS l (by omega) h2 q
    | some p =>
      rw [e] at h4 q
      obtain ⟨p1, p2⟩ := p
      refine seq_if (k := true) (evt_ts fun Q' q' => (ev_v h4) _ q') (fun _ => ?_) (fun z => by cases z)
      refine seq_app (d := sp (dnS (p1, p2))) h2 (fun Q' q' => ?_) (szl (by rw [List.length_map]; omega)) ?_
      · simp only [tupW, consW, nilW, ifW, tsW, opW, vW, h4, cW]
        cases p1 <;> exact ⟨sz2, q'⟩
      · have g := fin_sp hS (l ++ [dnS (p1, p2)]) (by rw [List.length_append]; simp; omega) h2 q
        rw [List.map_append] at g
        exact g
  cases e : meetS b (some 1, none) with
  | none =>
    refine seq_if (k := false) (evt_ts fun Q' q' => q') (fun z => by cases z) fun _ => seq_nx ?_
    refine down [] _ (Nat.zero_le _) rfl rfl ?_
    unfold remS at q
    rw [e] at q
    cases e2 : meetS b (none, some (-1)) <;> (rw [e2] at q; exact q)
  | some p =>
    refine seq_if (k := true) (evt_ts fun Q' q' => q') (fun _ => ?_) (fun z => by cases z)
    have fin : Q (finD ([upS a p] ++ some1 (meetS b (none, some (-1))) dnS)) S := by
      unfold remS at q
      rw [e] at q
      cases e2 : meetS b (none, some (-1)) <;> (rw [e2] at q; exact q)
    have d2 := down [upS a p] [some (sp a), some (sp b), some (.loc S.length), some (sp p), some (osp (meetS b (none, some (-1))))] (by simp) rfl rfl fin
    clear fin q down
    obtain ⟨p1, p2⟩ := p
    refine seq_seq ?_
    refine seq_app (d := sp (some 0, p2.map fun x => x - 1)) rfl (fun Q' q' => ?_) (szl (by decide)) ?_
    · cases p2 <;> exact ⟨sz2, q'⟩
    obtain ⟨x, y⟩ := a
    show seqW _ _ (D0 S Q) _ (S ++ .lst [sp (some 0, p2.map fun x => x - 1)] :: [])
    have skip : upS (x, y) (p1, p2) = (some 0, p2.map fun x => x - 1) → _ := fun ee => by
      rw [ee] at d2; exact d2
    cases x with
    | none => exact skip rfl
    | some x =>
      by_cases hx : 0 ≤ x
      · cases y with
        | none =>
          refine seq_if (k := false) (evt_and (k := true) (fun Q q => q) fun _ => evt_and (k := true) (j := false) (fun Q q => by
            rw [← decide_eq_true hx] at q; exact q) fun _ => fun Q q => q) (fun z => by cases z) fun _ => seq_nx ?_
          exact skip rfl
        | some y =>
          refine seq_if (k := true) (evt_and (k := true) (fun Q q => q) fun _ => evt_and (k := true) (j := true) (fun Q q => by
            rw [← decide_eq_true hx] at q; exact q) fun _ => fun Q q => q) (fun _ => ?_) (fun z => by cases z)
          have g : EvE (opW wIx (vW 2) (cW (.int 0))) [some (sp (some x, some y)), some (sp b), some (.loc S.length), some (sp (p1, p2)), some (osp (meetS b (none, some (-1))))] (S ++ .lst [sp (some 0, p2.map fun x => x - 1)] :: []) (sp (some 0, p2.map fun x => x - 1)) := eve_ix rfl rfl
          have g1 := ev_op (w := wIx) (d := eD (p2.map fun x => x - 1)) g (ev_c (d := .int 1)) (fun Q q => by cases p2 <;> exact q)
          have e0 : sp (upS (some x, some y) (p1, p2)) = .tup [.int 0, eD (upS (some x, some y) (p1, p2)).2] := by
            have e : (upS (some x, some y) (p1, p2)).1 = some 0 := by simp only [upS, if_pos hx]
            unfold sp
            rw [e]; rfl
          have ev : EvE (ifW (tsW (opW wIs (opW wIx (opW wIx (vW 2) (cW (.int 0))) (cW (.int 1))) (cW .non))) (opW wIx (vW 0) (cW (.int 1))) (clW wMin (consW (opW wIx (vW 0) (cW (.int 1))) (consW (opW wIx (opW wIx (vW 2) (cW (.int 0))) (cW (.int 1))) nilW)))) [some (sp (some x, some y)), some (sp b), some (.loc S.length), some (sp (p1, p2)), some (osp (meetS b (none, some (-1))))] (S ++ .lst [sp (some 0, p2.map fun x => x - 1)] :: []) (eD (upS (some x, some y) (p1, p2)).2) := by
            refine eve_if (k := p2.isNone) (evt_ts (ev_op g1 (ev_c (d := .non)) (fun Q q => by cases p2 <;> exact q))) (fun c => ?_) (fun c => ?_)
            · cases p2 with
              | none =>
                have e : (upS (some x, some y) (p1, none)).2 = some y := by simp only [upS, if_pos hx]; rfl
                rw [e]; exact fun Q q => q
              | some p2 => cases c
            · cases p2 with
              | none => cases c
              | some p2 =>
                have e : (upS (some x, some y) (p1, some p2)).2 = some (if p2 - 1 < y then p2 - 1 else y) := by simp only [upS, if_pos hx]; rfl
                rw [e]
                intro Q q
                have g2 : EvE (opW wIx (opW wIx (vW 2) (cW (.int 0))) (cW (.int 1))) _ _ (.int (p2 - 1)) := g1
                exact g2 (fun d S2 => wMin [.int y, d] S2 Q) q
          refine seq_put0 (d := sp (upS (some x, some y) (p1, p2))) (fun Q' q' => ?_) rfl Nat.zero_lt_one d2
          rw [e0] at q'
          exact ev (fun d S2 => [D.int 0, d].length ≤ sizeLine ∧ Q' (.tup [.int 0, d]) S2) ⟨sz2, q'⟩
      · refine seq_if (k := false) (evt_and (k := true) (fun Q q => q) fun _ => evt_and (k := false) (j := false) (fun Q q => by
            rw [← decide_eq_false hx] at q; exact q) fun z => by cases z) (fun z => by cases z) fun _ => seq_nx ?_
        refine skip ?_
        unfold upS
        cases y with
        | none => rfl
        | some y => simp only [if_neg hx]
end K40
namespace K40
open PySem PySem.Spec L2 DL
theorem ev_lo {ρ : Rho} {S : Store} {i : Nat} {a : SpT} (h : lk ρ i = some (sp a)) : EvE (opW wIx (vW i) (cW (.int 0))) ρ S (eD a.1) := ev_tix (ev_v h) rfl
theorem ev_hi {ρ : Rho} {S : Store} {i : Nat} {a : SpT} (h : lk ρ i = some (sp a)) : EvE (opW wIx (vW i) (cW (.int 1))) ρ S (eD a.2) := ev_tix (ev_v h) rfl
theorem filter_last {m : List Int} : ∀ {e : List Int}, m = e → (m.map D.int) = e.map D.int := fun h => by rw [h]
theorem sp_widen (ds : List D) (S : Store) (Q : DQ) (hS : S.all (Cell.blw S.length) = true) (h : m_widen ds S Q) : g_widen (D0 S Q) (startD ["one", "other", "marks", "low", "high", "below", "above", "mark"] ds) S := by
  unfold m_widen at h
  split at h
  · split at h
    · rename_i a b m e1 e2 e3
      obtain rfl := of_spOf e1
      obtain rfl := of_spOf e2
      obtain rfl := of_intsOf e3
      obtain ⟨hl, q⟩ := h
      obtain ⟨a1, a2⟩ := a
      obtain ⟨b1, b2⟩ := b
      refine seq_tup (ds := [eD a1, eD a2]) (fun Q q => q) rfl ?_
      have end2 : ∀ (lo : Option Int) (c5 : Option D), lo = widLo m a1 b1 → (seqW (ifS (andW (tsW (opW wIsnt (vW 4) (cW .non))) (orW (tsW (opW wIs (opW wIx (vW 1) (cW (.int 1))) (cW .non))) (tsW (opW wGt (opW wIx (vW 1) (cW (.int 1))) (vW 4))))) (seqW (asgW (.nm 6) (lcW (sqI (vW 2)) (.nm 7) (andW (tsW (opW wIsnt (opW wIx (vW 1) (cW (.int 1))) (cW .non))) (tsW (opW wGe (vW 7) (opW wIx (vW 1) (cW (.int 1)))))) (vW 7) [7]))
          (asgW (.nm 4) (ifW (tsW (opW wNe (vW 6) (lstW nilW))) (opW wIx (vW 6) (cW (.int 0))) (cW .non)))) nxW)
          (retW (tupW (consW (vW 3) (consW (vW 4) nilW))))) (D0 S Q) [some (sp (a1, a2)), some (sp (b1, b2)), some (.tup (m.map .int)), some (eD lo), some (eD a2), c5, none, none] S := by
        intro lo c5 hlo
        have fin : ∀ (hi : Option Int) (c6 : Option D), hi = widHi m a2 b2 → retW (tupW (consW (vW 3) (consW (vW 4) nilW))) (D0 S Q) [some (sp (a1, a2)), some (sp (b1, b2)), some (.tup (m.map .int)), some (eD lo), some (eD hi), c5, c6, none] S := by
          rintro hi c6 rfl
          subst hlo
          exact ⟨sz2, .inl q⟩
        cases a2 with
        | none => exact seq_if (k := false) (fun Q q => q) (fun z => by cases z) fun _ => seq_nx (fin none none rfl)
        | some x =>
          cases b2 with
          | none =>
            refine seq_if (k := true) (fun Q q => q) (fun _ => seq_seq ?_) fun z => by cases z
            refine seq_asg (ev_lcI (fun _ => false) (fun n => .int n) (wiv_t (ev_v rfl)) (by omega) fun n hn => ⟨fun Q q => q, fun z => by cases z⟩) ?_
            have e : m.filter (fun _ => false) = [] := by simp
            rw [e]
            refine seq_asg (d := .non) (eve_if (k := false) (evt_ts (ev_nenil (ns := []) (ev_v rfl))) (fun z => by cases z) (fun _ => ev_c)) ?_
            exact fin none _ rfl
          | some y =>
            by_cases hx : x < y
            · refine seq_if (k := true) (fun Q q => by rw [← decide_eq_true hx] at q; exact q) (fun _ => seq_seq ?_) fun z => by cases z
              refine seq_asg (ev_lcI (fun n => decide (y ≤ n)) (fun n => .int n) (wiv_t (ev_v rfl)) (by omega) fun n hn => ⟨fun Q q => q, fun _ => ev_v rfl⟩) ?_
              have key : widHi m (some x) (some y) = (m.filter fun n => decide (y ≤ n)).head? := by
                exact if_pos hx
              rw [key] at fin
              generalize (m.filter fun n => decide (y ≤ n)) = us at fin
              cases us with
              | nil =>
                refine seq_asg (d := .non) (eve_if (k := false) (evt_ts (ev_nenil (ns := []) (ev_v rfl))) (fun z => by cases z) (fun _ => ev_c)) ?_
                exact fin none _ rfl
              | cons u us =>
                have z := ev_nenil (ev_v (i := 6) (ρ := [some (sp (a1, some x)), some (sp (b1, some y)), some (.tup (m.map .int)), some (eD lo), some (eD (some x)), c5, some (.lst ((u :: us).map .int)), none]) (S := S) rfl)
                refine seq_asg (eve_if (evt_ts z) (x := .int u) (fun _ => ev_lix (ev_v rfl) ev_c rfl) (fun z => by cases z)) ?_
                exact fin (some u) _ rfl
            · refine seq_if (k := false) (fun Q q => by rw [← decide_eq_false hx] at q; exact q) (fun z => by cases z) fun _ => seq_nx (fin (some x) none ?_)
              exact (if_neg hx).symm
      cases a1 with
      | none => exact seq_if (k := false) (fun Q q => q) (fun z => by cases z) fun _ => seq_nx (end2 none none rfl)
      | some x =>
        cases b1 with
        | none =>
          refine seq_if (k := true) (fun Q q => q) (fun _ => seq_seq ?_) fun z => by cases z
          refine seq_asg (ev_lcI (fun _ => false) (fun n => .int n) (wiv_t (ev_v rfl)) (by omega) fun n hn => ⟨fun Q q => q, fun z => by cases z⟩) ?_
          have e : m.filter (fun _ => false) = [] := by simp
          rw [e]
          refine seq_asg (d := .non) (eve_if (k := false) (evt_ts (ev_nenil (ns := []) (ev_v rfl))) (fun z => by cases z) (fun _ => ev_c)) ?_
          exact end2 none _ rfl
        | some y =>
          by_cases hx : y < x
          · refine seq_if (k := true) (fun Q q => by rw [← decide_eq_true hx] at q; exact q) (fun _ => seq_seq ?_) fun z => by cases z
            refine seq_asg (ev_lcI (fun n => decide (n ≤ y)) (fun n => .int n) (wiv_t (ev_v rfl)) (by omega) fun n hn => ⟨fun Q q => q, fun _ => ev_v rfl⟩) ?_
            have key : widLo m (some x) (some y) = (m.filter fun n => decide (n ≤ y)).getLast? := by
              exact if_pos hx
            rw [key] at end2
            generalize (m.filter fun n => decide (n ≤ y)) = us at end2
            rcases List.eq_nil_or_concat us with rfl | ⟨vs, u, rfl⟩
            · refine seq_asg (d := .non) (eve_if (k := false) (evt_ts (ev_nenil (ns := []) (ev_v rfl))) (fun z => by cases z) (fun _ => ev_c)) ?_
              exact end2 none _ rfl
            · rw [List.concat_eq_append] at end2 ⊢
              have z := ev_nenil (ev_v (i := 5) (ρ := [some (sp (some x, a2)), some (sp (some y, b2)), some (.tup (m.map .int)), some (eD (some x)), some (eD a2), some (.lst ((vs ++ [u]).map .int)), none, none]) (S := S) rfl)
              have ne : (!(vs ++ [u]).isEmpty) = true := by simp
              refine seq_asg (eve_if (k := !(vs ++ [u]).isEmpty) (evt_ts z) (x := .int u) (fun _ => ev_lix (xs := (vs ++ [u]).map .int) (ev_v rfl) (ev_neg ev_c) ?_) (fun z => by rw [ne] at z; cases z)) ?_
              · rw [List.map_append]; exact ixD_last
              · exact end2 (some u) _ (by simp)
          · refine seq_if (k := false) (fun Q q => by rw [← decide_eq_false hx] at q; exact q) (fun z => by cases z) fun _ => seq_nx (end2 (some x) none ?_)
            exact (if_neg hx).symm
    · exact h.elim
  · exact h.elim
theorem pow12 : (10 : Int) ^ (12 : Int).toNat = 10 ^ 12 := rfl
theorem cpow {i j : Int} (h : 0 ≤ j) (h1 : j ≤ 1000000) (h2 : i.natAbs < 2 ^ 64) : CPow i j := ⟨h, h1, h2⟩
theorem sp_law_far (ds : List D) (S : Store) (Q : DQ) (hS : S.all (Cell.blw S.length) = true) (h : m_law_far ds S Q) : g_law_far (D0 S Q) (startD ["span"] ds) S := by
  obtain ⟨⟨a, b⟩, rfl, q⟩ := m1_inv h
  have c : CPow 10 12 := cpow (by decide) (by decide) (by decide)
  cases a <;> cases b
  · exact ⟨c, c, sz2, .inl q⟩
  · exact ⟨c, sz2, .inl q⟩
  · exact ⟨c, sz2, .inl q⟩
  · exact ⟨sz2, .inl q⟩
theorem sp_law_near (ds : List D) (S : Store) (Q : DQ) (hS : S.all (Cell.blw S.length) = true) (h : m_law_near ds S Q) : g_law_near (D0 S Q) (startD ["low", "high"] ds) S := by
  unfold m_law_near at h
  split at h
  · rename_i l u
    have c : CPow 10 9 := cpow (by decide) (by decide) (by decide)
    refine ret_of (ev_tup2 (x := eD (nearS l u).1) (y := eD (nearS l u).2) ?_ ?_) (.inl h)
    · refine eve_if (evt_ts (ev_lt (ev_v rfl) (ev_neg (n := 10 ^ 9) fun Q q => ⟨c, q⟩))) (fun e => ?_) (fun e => ?_)
      · have e2 : (nearS l u).1 = none := if_pos (of_decide_eq_true e)
        rw [e2]; exact ev_c
      · have e2 : (nearS l u).1 = some l := if_neg (of_decide_eq_false e)
        rw [e2]; exact ev_v rfl
    · refine eve_if (evt_ts (ev_gt (ev_v rfl) (n := 10 ^ 9) fun Q q => ⟨c, q⟩)) (fun e => ?_) (fun e => ?_)
      · have e2 : (nearS l u).2 = none := if_pos (of_decide_eq_true e)
        rw [e2]; exact ev_c
      · have e2 : (nearS l u).2 = some u := if_neg (of_decide_eq_false e)
        rw [e2]; exact ev_v rfl
  · exact h.elim
theorem sp_law_numbers (ds : List D) (S : Store) (Q : DQ) (hS : S.all (Cell.blw S.length) = true) (h : m_law_numbers ds S Q) : g_law_numbers (D0 S Q) (startD ["span", "number"] ds) S := by
  obtain ⟨⟨a, b⟩, rfl, q⟩ := m1_inv h
  refine ret_of (ev_lcI (ns := rng (-24) 49) (holdsB (a, b)) (fun n => .int n) ?_ (by rw [rng_len]; decide) fun n hn => ⟨?_, fun _ => ev_v rfl⟩) (.inl q)
  · have g := wiv_r2 (ρ := startD ["span", "number"] [sp (a, b)]) (S := S) (ev_neg (ev_c (d := .int 24))) (ev_c (d := .int 25)) (by decide) (by decide) (by decide) (by decide)
    rw [rngD_eq] at g
    exact g
  · intro Q q
    have lo : EvT (orW (tsW (opW wIs (opW wIx (vW 0) (cW (.int 0))) (cW .non))) (tsW (opW wGe (vW 1) (opW wIx (vW 0) (cW (.int 0)))))) [some (sp (a, b)), some (.int n)] S (loB (a, b) n) := by
      cases a with
      | none => exact fun Q q => q
      | some x => exact evt_or (k := false) (j := decide (x ≤ n)) (fun Q q => q) fun _ => fun Q q => q
    have hi : EvT (orW (tsW (opW wIs (opW wIx (vW 0) (cW (.int 1))) (cW .non))) (tsW (opW wLe (vW 1) (opW wIx (vW 0) (cW (.int 1)))))) [some (sp (a, b)), some (.int n)] S (hiB (a, b) n) := by
      cases b with
      | none => exact fun Q q => q
      | some x => exact evt_or (k := false) (j := decide (n ≤ x)) (fun Q q => q) fun _ => fun Q q => q
    exact evt_and lo (fun _ => hi) Q q
theorem sp_law_span (ds : List D) (S : Store) (Q : DQ) (hS : S.all (Cell.blw S.length) = true) (h : m_law_span ds S Q) : g_law_span (D0 S Q) (startD ["tape", "low", "high"] ds) S := by
  unfold m_law_span at h
  split at h
  · obtain ⟨ns, s, J, rfl, k, q⟩ := h
    refine ⟨by decide, by decide, ns, s, J, rfl, k, fun r ns s r0 r1 k => ?_⟩
    refine ⟨by decide, by decide, ns, s, J, rfl, k, fun t ns s t0 t1 k => ?_⟩
    refine ⟨sz2, sz2, sz2, sz2, sz2, sz2, sz2, sze (show (7 : Nat) ≤ 100000 by decide), ?_⟩
    refine ⟨Nat.zero_lt_succ _, (show (7 : Nat) < 1000000 by decide), ns, s, J, rfl, k, fun x ns s hx k => ?_⟩
    have key : ∃ a, x = sp a ∧ InDom a := by
      simp only [List.mem_cons, List.not_mem_nil, or_false] at hx
      rcases hx with rfl | rfl | rfl | rfl | rfl | rfl | rfl
      · exact ⟨(some (r - 8), some (r - 8 + t)), rfl, by intro x e; cases e; omega, by intro x e; cases e; omega, by intro x y e e2; cases e; cases e2; omega⟩
      · exact ⟨(some (r - 8), some (r - 8 + t)), rfl, by intro x e; cases e; omega, by intro x e; cases e; omega, by intro x y e e2; cases e; cases e2; omega⟩
      · exact ⟨(some (r - 8), some (r - 8 + t)), rfl, by intro x e; cases e; omega, by intro x e; cases e; omega, by intro x y e e2; cases e; cases e2; omega⟩
      · exact ⟨(none, some (r - 8 + t)), rfl, (by intro x e; cases e), by intro x e; cases e; omega, by intro x y e e2; cases e⟩
      · exact ⟨(some (r - 8), none), rfl, by intro x e; cases e; omega, (by intro x e; cases e), by intro x y e e2; cases e2⟩
      · exact ⟨(none, none), rfl, (by intro x e; cases e), (by intro x e; cases e), by intro x y e e2; cases e⟩
      · exact ⟨(some (r - 8), some (r - 8)), rfl, by intro x e; cases e; omega, by intro x e; cases e; omega, by intro x y e e2; cases e; cases e2; omega⟩
    obtain ⟨a, rfl, ha⟩ := key
    exact .inl (q a ns s ha k)
  · exact h.elim
end K40
namespace K40
open PySem PySem.Spec L2 DL
/-! ### plain laws -/
def wlo : Option Int → Option Int → Bool
  | _, none => true
  | none, some _ => false
  | some x, some y => decide (y ≤ x)
def whi : Option Int → Option Int → Bool
  | _, none => true
  | none, some _ => false
  | some x, some y => decide (x ≤ y)
theorem within_eq (a b : SpT) : withinB a b = (wlo a.1 b.1 && whi a.2 b.2) := by
  obtain ⟨a1, a2⟩ := a
  obtain ⟨b1, b2⟩ := b
  cases a1 <;> cases a2 <;> cases b1 <;> cases b2 <;> rfl
def narE : Option Int → Option Int → Option Int
  | none, j => j
  | some v, _ => some v
theorem lo_all (m : List Int) (x j : Option Int) (h : wlo x j = true) : wlo x (widLo m x j) = true ∧ wlo j (widLo m x j) = true ∧ (x = j → widLo m x j = x) ∧ wlo j (narE (widLo m x j) j) = true ∧ wlo (narE (widLo m x j) j) (widLo m x j) = true := by
  cases x with
  | none =>
    cases j with
    | none => exact ⟨rfl, rfl, fun _ => rfl, rfl, rfl⟩
    | some u => cases h
  | some v =>
    cases j with
    | none => exact ⟨rfl, rfl, fun z => (by cases z), rfl, rfl⟩
    | some u =>
      have hu : u ≤ v := of_decide_eq_true h
      by_cases hx : u < v
      · have e : widLo m (some v) (some u) = (below m u).getLast? := if_pos hx
        rw [e]
        cases e2 : (below m u).getLast? with
        | none =>
          refine ⟨rfl, rfl, fun z => ?_, ?_, rfl⟩
          · cases z; omega
          · exact decide_eq_true (Int.le_refl u)
        | some w =>
          have hw : w ≤ u := by
            have q := List.mem_of_getLast? e2
            unfold below at q
            exact of_decide_eq_true (List.mem_filter.mp q).2
          refine ⟨decide_eq_true (by omega), decide_eq_true hw, fun z => ?_, decide_eq_true hw, decide_eq_true (Int.le_refl w)⟩
          cases z; omega
      · have e : widLo m (some v) (some u) = some v := if_neg hx
        rw [e]
        exact ⟨decide_eq_true (by omega), decide_eq_true (by omega), fun _ => rfl, decide_eq_true (by omega), decide_eq_true (by omega)⟩
theorem hi_all (m : List Int) (x j : Option Int) (h : whi x j = true) : whi x (widHi m x j) = true ∧ whi j (widHi m x j) = true ∧ (x = j → widHi m x j = x) ∧ whi j (narE (widHi m x j) j) = true ∧ whi (narE (widHi m x j) j) (widHi m x j) = true := by
  cases x with
  | none =>
    cases j with
    | none => exact ⟨rfl, rfl, fun _ => rfl, rfl, rfl⟩
    | some u => cases h
  | some v =>
    cases j with
    | none => exact ⟨rfl, rfl, fun z => (by cases z), rfl, rfl⟩
    | some u =>
      have hu : v ≤ u := of_decide_eq_true h
      by_cases hx : v < u
      · have e : widHi m (some v) (some u) = (above m u).head? := if_pos hx
        rw [e]
        cases e2 : (above m u).head? with
        | none =>
          refine ⟨rfl, rfl, fun z => ?_, ?_, rfl⟩
          · cases z; omega
          · exact decide_eq_true (Int.le_refl u)
        | some w =>
          have hw : u ≤ w := by
            have q := List.mem_of_head? e2
            unfold above at q
            exact of_decide_eq_true (List.mem_filter.mp q).2
          refine ⟨decide_eq_true (by omega), decide_eq_true hw, fun z => ?_, decide_eq_true hw, decide_eq_true (Int.le_refl w)⟩
          cases z; omega
      · have e : widHi m (some v) (some u) = some v := if_neg hx
        rw [e]
        exact ⟨decide_eq_true (by omega), decide_eq_true (by omega), fun _ => rfl, decide_eq_true (by omega), decide_eq_true (by omega)⟩
theorem join_lo (a b : SpT) : wlo a.1 (joinS a b).1 = true := by
  obtain ⟨a1, a2⟩ := a
  obtain ⟨b1, b2⟩ := b
  cases a1 with
  | none => rfl
  | some x =>
    cases b1 with
    | none => rfl
    | some y =>
      refine decide_eq_true ?_
      split <;> omega
theorem join_hi (a b : SpT) : whi a.2 (joinS a b).2 = true := by
  obtain ⟨a1, a2⟩ := a
  obtain ⟨b1, b2⟩ := b
  cases a2 with
  | none => rfl
  | some x =>
    cases b2 with
    | none => rfl
    | some y =>
      refine decide_eq_true ?_
      split <;> omega
theorem nar_eq (a b : SpT) : narS a b = (narE a.1 b.1, narE a.2 b.2) := by
  obtain ⟨a1, a2⟩ := a
  cases a1 <;> cases a2 <;> rfl
/-! numbers in spans -/
theorem holds_iff (a : SpT) (n : Int) : holdsB a n = true ↔ (∀ x, a.1 = some x → x ≤ n) ∧ ∀ x, a.2 = some x → n ≤ x := by
  obtain ⟨a1, a2⟩ := a
  unfold holdsB loB hiB
  cases a1 <;> cases a2 <;> simp
theorem fdiv_pos {x y : Int} (h : 0 < y) : x.fdiv y = x / y := Int.fdiv_eq_ediv_of_nonneg x (by omega)
theorem fmod_pos {x y : Int} (h : 0 < y) : x.fmod y = x % y := Int.fmod_eq_emod_of_nonneg x (by omega)
def tlLo (near : Int) (far : Option Int) (x : Int) : Int := if x < 0 then x.fdiv near else match far with | none => 0 | some f => x.fdiv f
def tlHi (near : Int) (far : Option Int) (x : Int) : Int := if 0 ≤ x then x.fdiv near else match far with | none => -1 | some f => x.fdiv f
def up1 : Option Int → Int
  | none => 1
  | some x => if x < 1 then 1 else x
def dn1 : Option Int → Int
  | none => -1
  | some x => if -1 < x then -1 else x
theorem tail_holds {a : SpT} {near x y : Int} {far : Option Int} (hn : 1 ≤ near) (hy : near ≤ y) (hf : ∀ f, far = some f → y ≤ f) (h : holdsB a x = true) : holdsB (tailS a near far) (x.fdiv y) = true := by
  obtain ⟨h1, h2⟩ := (holds_iff a x).mp h
  rw [fdiv_pos (by omega)]
  refine (holds_iff _ _).mpr ⟨fun l e => ?_, fun u e => ?_⟩
  · obtain ⟨a1, a2⟩ := a
    cases a1 with
    | none => cases e
    | some l0 =>
      have hl := h1 l0 rfl
      have e' : tlLo near far l0 = l := Option.some.inj e
      subst e'
      unfold tlLo
      by_cases hl0 : l0 < 0
      · rw [if_pos hl0, fdiv_pos (by omega), Int.le_ediv_iff_mul_le (by omega)]
        have q1 : l0 / near * near ≤ l0 := Int.ediv_mul_le l0 (by omega)
        have q2 : l0 / near < 0 := Int.ediv_neg_of_neg_of_pos hl0 (by omega)
        have q3 : l0 / near * y ≤ l0 / near * near := Int.mul_le_mul_of_nonpos_left (by omega) hy
        omega
      · rw [if_neg hl0]
        cases far with
        | none => exact Int.ediv_nonneg (by omega) (by omega)
        | some f =>
          have hyf := hf f rfl
          show l0.fdiv f ≤ _
          rw [fdiv_pos (by omega), Int.le_ediv_iff_mul_le (by omega)]
          have q1 : l0 / f * f ≤ l0 := Int.ediv_mul_le l0 (by omega)
          have q2 : 0 ≤ l0 / f := Int.ediv_nonneg (by omega) (by omega)
          have q3 : l0 / f * y ≤ l0 / f * f := Int.mul_le_mul_of_nonneg_left hyf q2
          omega
  · obtain ⟨a1, a2⟩ := a
    cases a2 with
    | none => cases e
    | some u0 =>
      have hl := h2 u0 rfl
      have e' : tlHi near far u0 = u := Option.some.inj e
      subst e'
      unfold tlHi
      have q1 : x / y * y ≤ x := Int.ediv_mul_le x (by omega)
      by_cases hu0 : 0 ≤ u0
      · rw [if_pos hu0, fdiv_pos (by omega), Int.le_ediv_iff_mul_le (by omega)]
        by_cases hq : 0 ≤ x / y
        · have q3 : x / y * near ≤ x / y * y := Int.mul_le_mul_of_nonneg_left hy hq
          omega
        · have q3 : x / y * near ≤ 0 := Int.mul_nonpos_of_nonpos_of_nonneg (by omega) (by omega)
          omega
      · have q2 : x / y < 0 := Int.ediv_neg_of_neg_of_pos (by omega) (by omega)
        rw [if_neg hu0]
        cases far with
        | none => show _ ≤ (-1 : Int); omega
        | some f =>
          have hyf := hf f rfl
          show _ ≤ u0.fdiv f
          rw [fdiv_pos (by omega), Int.le_ediv_iff_mul_le (by omega)]
          have q3 : x / y * f ≤ x / y * y := Int.mul_le_mul_of_nonpos_left (by omega) hyf
          omega
theorem con_holds {a : SpT} {x : Int} (h : holdsB a x = true) : holdsB (conS a) (-x) = true := by
  obtain ⟨h1, h2⟩ := (holds_iff a x).mp h
  obtain ⟨a1, a2⟩ := a
  refine (holds_iff _ _).mpr ⟨fun l e => ?_, fun u e => ?_⟩
  · cases a2 with
    | none => cases e
    | some v =>
      have e2 : -v = l := Option.some.inj e
      have := h2 v rfl
      omega
  · cases a1 with
    | none => cases e
    | some v =>
      have e2 : -v = u := Option.some.inj e
      have := h1 v rfl
      omega
theorem join_holds_l {a b : SpT} {x : Int} (h : holdsB a x = true) : holdsB (joinS a b) x = true := by
  obtain ⟨h1, h2⟩ := (holds_iff a x).mp h
  obtain ⟨a1, a2⟩ := a
  obtain ⟨b1, b2⟩ := b
  refine (holds_iff _ _).mpr ⟨fun l e => ?_, fun u e => ?_⟩
  · cases a1 with
    | none => cases e
    | some v =>
      cases b1 with
      | none => cases e
      | some w =>
        have e2 : (if w < v then w else v) = l := Option.some.inj e
        have := h1 v rfl
        split at e2 <;> omega
  · cases a2 with
    | none => cases e
    | some v =>
      cases b2 with
      | none => cases e
      | some w =>
        have e2 : (if v < w then w else v) = u := Option.some.inj e
        have := h2 v rfl
        split at e2 <;> omega
theorem join_holds_r {a b : SpT} {x : Int} (h : holdsB b x = true) : holdsB (joinS a b) x = true := by
  obtain ⟨h1, h2⟩ := (holds_iff b x).mp h
  obtain ⟨a1, a2⟩ := a
  obtain ⟨b1, b2⟩ := b
  refine (holds_iff _ _).mpr ⟨fun l e => ?_, fun u e => ?_⟩
  · cases a1 with
    | none => cases e
    | some v =>
      cases b1 with
      | none => cases e
      | some w =>
        have e2 : (if w < v then w else v) = l := Option.some.inj e
        have := h1 w rfl
        split at e2 <;> omega
  · cases a2 with
    | none => cases e
    | some v =>
      cases b2 with
      | none => cases e
      | some w =>
        have e2 : (if v < w then w else v) = u := Option.some.inj e
        have := h2 w rfl
        split at e2 <;> omega
/-- the part above nothing, the part below -/
def upP (b : SpT) : Option SpT := meetS b (some 1, none)
def dnP (b : SpT) : Option SpT := meetS b (none, some (-1))
theorem up_eq (b : SpT) : upP b = (let l : Int := up1 b.1
    match b.2 with | none => some (some l, none) | some h => if h < l then none else some (some l, some h)) := by
  obtain ⟨b1, b2⟩ := b
  cases b1 <;> cases b2 <;> rfl
theorem dn_eq (b : SpT) : dnP b = (let h : Int := dn1 b.2
    match b.1 with | none => some (none, some h) | some l => if h < l then none else some (some l, some h)) := by
  obtain ⟨b1, b2⟩ := b
  cases b1 <;> cases b2 <;> rfl
theorem up_of {b p : SpT} (e : upP b = some p) : ∃ l, p = (some l, b.2) ∧ 1 ≤ l ∧ (∀ x, b.1 = some x → x ≤ l) ∧ (l = 1 ∨ b.1 = some l) ∧ ∀ h, b.2 = some h → l ≤ h := by
  rw [up_eq] at e
  obtain ⟨b1, b2⟩ := b
  cases b1 with
  | none =>
    cases b2 with
    | none => cases e; exact ⟨1, rfl, by decide, (by intro x z; cases z), .inl rfl, by intro x z; cases z⟩
    | some h =>
      have e' : (if h < 1 then none else some ((some (1 : Int), some h) : SpT)) = some p := e
      split at e'
      · cases e'
      · cases e'
        exact ⟨1, rfl, by decide, (by intro x z; cases z), .inl rfl, by intro x z; cases z; omega⟩
  | some v =>
    have hv : ∃ l, (if v < 1 then 1 else v) = l ∧ 1 ≤ l ∧ v ≤ l ∧ (l = 1 ∨ v = l) := by
      by_cases h : v < 1
      · exact ⟨1, if_pos h, by decide, by omega, .inl rfl⟩
      · exact ⟨v, if_neg h, by omega, by omega, .inr rfl⟩
    obtain ⟨l, el, h1, h2, h3⟩ := hv
    have h4 : l = 1 ∨ some v = some l := h3.imp id (congrArg some)
    cases b2 with
    | none =>
      have e' : some ((some (if v < 1 then 1 else v), none) : SpT) = some p := e
      rw [el] at e'
      cases e'
      exact ⟨l, rfl, h1, (by intro x z; cases z; exact h2), h4, by intro x z; cases z⟩
    | some h =>
      have e' : (if h < (if v < 1 then 1 else v) then none else some ((some (if v < 1 then 1 else v), some h) : SpT)) = some p := e
      rw [el] at e'
      split at e'
      · cases e'
      · cases e'
        exact ⟨l, rfl, h1, (by intro x z; cases z; exact h2), h4, by intro x z; cases z; omega⟩
theorem dn_of {b p : SpT} (e : dnP b = some p) : ∃ h, p = (b.1, some h) ∧ h ≤ -1 ∧ (∀ x, b.2 = some x → h ≤ x) ∧ (h = -1 ∨ b.2 = some h) ∧ ∀ l, b.1 = some l → l ≤ h := by
  rw [dn_eq] at e
  obtain ⟨b1, b2⟩ := b
  cases b2 with
  | none =>
    cases b1 with
    | none => cases e; exact ⟨-1, rfl, by decide, (by intro x z; cases z), .inl rfl, by intro x z; cases z⟩
    | some l =>
      have e' : (if (-1 : Int) < l then none else some ((some l, some (-1 : Int)) : SpT)) = some p := e
      split at e'
      · cases e'
      · cases e'
        exact ⟨-1, rfl, by decide, (by intro x z; cases z), .inl rfl, by intro x z; cases z; omega⟩
  | some v =>
    have hv : ∃ h, (if -1 < v then -1 else v) = h ∧ h ≤ -1 ∧ h ≤ v ∧ (h = -1 ∨ v = h) := by
      by_cases q : -1 < v
      · exact ⟨-1, if_pos q, by decide, by omega, .inl rfl⟩
      · exact ⟨v, if_neg q, by omega, by omega, .inr rfl⟩
    obtain ⟨h, el, h1, h2, h3⟩ := hv
    have h4 : h = -1 ∨ some v = some h := h3.imp id (congrArg some)
    cases b1 with
    | none =>
      have e' : some ((none, some (if -1 < v then -1 else v)) : SpT) = some p := e
      rw [el] at e'
      cases e'
      exact ⟨h, rfl, h1, (by intro x z; cases z; exact h2), h4, by intro x z; cases z⟩
    | some l =>
      have e' : (if (if -1 < v then -1 else v) < l then none else some ((some l, some (if -1 < v then -1 else v)) : SpT)) = some p := e
      rw [el] at e'
      split at e'
      · cases e'
      · cases e'
        exact ⟨h, rfl, h1, (by intro x z; cases z; exact h2), h4, by intro x z; cases z; omega⟩
theorem up_some {b : SpT} {y : Int} (h : holdsB b y = true) (hy : 1 ≤ y) : ∃ p, upP b = some p ∧ holdsB p y = true := by
  obtain ⟨h1, h2⟩ := (holds_iff b y).mp h
  rw [up_eq]
  obtain ⟨b1, b2⟩ := b
  have hl : ∃ l : Int, up1 b1 = l ∧ l ≤ y := by
    cases b1 with
    | none => exact ⟨1, rfl, hy⟩
    | some x =>
      have := h1 x rfl
      refine ⟨_, rfl, ?_⟩
      simp only [up1, dn1]
      split <;> omega
  obtain ⟨l, el, hl⟩ := hl
  dsimp only
  rw [el]
  cases b2 with
  | none => exact ⟨_, rfl, (holds_iff _ _).mpr ⟨(by intro x z; cases z; exact hl), by intro x z; cases z⟩⟩
  | some u =>
    have := h2 u rfl
    dsimp only
    rw [if_neg (by omega)]
    exact ⟨_, rfl, (holds_iff _ _).mpr ⟨(by intro x z; cases z; exact hl), by intro x z; cases z; exact this⟩⟩
theorem dn_some {b : SpT} {y : Int} (h : holdsB b y = true) (hy : y ≤ -1) : ∃ p, dnP b = some p ∧ holdsB p y = true := by
  obtain ⟨h1, h2⟩ := (holds_iff b y).mp h
  rw [dn_eq]
  obtain ⟨b1, b2⟩ := b
  have hl : ∃ l : Int, dn1 b2 = l ∧ y ≤ l := by
    cases b2 with
    | none => exact ⟨-1, rfl, hy⟩
    | some x =>
      have := h2 x rfl
      refine ⟨_, rfl, ?_⟩
      simp only [up1, dn1]
      split <;> omega
  obtain ⟨l, el, hl⟩ := hl
  dsimp only
  rw [el]
  cases b1 with
  | none => exact ⟨_, rfl, (holds_iff _ _).mpr ⟨(by intro x z; cases z), by intro x z; cases z; exact hl⟩⟩
  | some u =>
    have := h1 u rfl
    dsimp only
    rw [if_neg (by omega)]
    exact ⟨_, rfl, (holds_iff _ _).mpr ⟨(by intro x z; cases z; exact this), by intro x z; cases z; exact hl⟩⟩
theorem neg_fdiv (x y : Int) (h : y < 0) : x.fdiv y = (-x).fdiv (-y) := by
  rw [Int.neg_fdiv_neg]
theorem part_up {a b p : SpT} {x y : Int} (e : upP b = some p) (hp : holdsB p y = true) (h : holdsB a x = true) : holdsB (partS a p) (x.fdiv y) = true := by
  obtain ⟨l, rfl, h1, h2, h3, h4⟩ := up_of e
  obtain ⟨g1, g2⟩ := (holds_iff _ _).mp hp
  unfold partS
  rw [if_neg (by simp [negE]; omega)]
  exact tail_holds h1 (g1 l rfl) g2 h
theorem part_dn {a b p : SpT} {x y : Int} (e : dnP b = some p) (hp : holdsB p y = true) (h : holdsB a x = true) : holdsB (partS a p) (x.fdiv y) = true := by
  obtain ⟨u, rfl, h1, h2, h3, h4⟩ := dn_of e
  obtain ⟨g1, g2⟩ := (holds_iff _ _).mp hp
  have hy : y ≤ u := g2 u rfl
  have hn : negE b.1 = true := by
    cases e : b.1 with
    | none => rfl
    | some l =>
      have := h4 l e
      exact decide_eq_true (by omega)
  unfold partS
  rw [if_pos hn, neg_fdiv x y (by omega)]
  refine tail_holds (near := -u) (by omega) (by omega) (fun f ef => ?_) (con_holds h)
  cases e : b.1 with
  | none => rw [e] at ef; cases ef
  | some l =>
    rw [e] at ef
    have e2 : -l = f := Option.some.inj ef
    have := g1 l e
    omega
theorem emod_le' {x y : Int} (h : 0 ≤ x) (hy : 0 < y) : x % y ≤ x := by
  have e := Int.emod_add_mul_ediv x y
  have q : 0 ≤ y * (x / y) := Int.mul_nonneg (by omega) (Int.ediv_nonneg h (by omega))
  omega
theorem up_rem {a b p : SpT} {x y : Int} (e : upP b = some p) (hp : holdsB p y = true) (h : holdsB a x = true) : holdsB (upS a p) (x.fmod y) = true := by
  obtain ⟨l, rfl, h1, h2, h3, h4⟩ := up_of e
  obtain ⟨g1, g2⟩ := (holds_iff _ _).mp hp
  obtain ⟨k1, k2⟩ := (holds_iff a x).mp h
  have hy := g1 l rfl
  have q1 : 0 ≤ x % y := Int.emod_nonneg x (by omega)
  have q2 : x % y < y := Int.emod_lt_of_pos x (by omega)
  rw [fmod_pos (by omega)]
  have base : holdsB ((some 0, (some l, b.2).2.map fun x => x - 1) : SpT) (x % y) = true := by
    refine (holds_iff _ _).mpr ⟨(by intro v z; cases z; exact q1), fun v ev => ?_⟩
    cases e2 : b.2 with
    | none =>
      have ev' : (b.2).map (fun x => x - 1) = some v := ev
      rw [e2] at ev'; cases ev'
    | some w =>
      have ev' : (b.2).map (fun x => x - 1) = some v := ev
      rw [e2] at ev'
      have e3 : w - 1 = v := Option.some.inj ev'
      have := g2 w e2
      omega
  obtain ⟨a1, a2⟩ := a
  cases a1 with
  | none => exact base
  | some v =>
    cases a2 with
    | none => exact base
    | some u =>
      by_cases hv : 0 ≤ v
      · have k1 := k1 v rfl
        have k2 := k2 u rfl
        have q3 : x % y ≤ x := emod_le' (by omega) (by omega)
        obtain ⟨b1, b2⟩ := (holds_iff _ _).mp base
        have eu : upS (some v, some u) (some l, b.2) = (some 0, match (b.2).map (fun x => x - 1) with | none => some u | some k => some (if k < u then k else u)) := by
          simp only [upS, if_pos hv] <;> rfl
        rw [eu]
        refine (holds_iff _ _).mpr ⟨(by intro w z; cases z; exact q1), fun w ew => ?_⟩
        have ew' : (match (b.2).map (fun x => x - 1) with | none => some u | some k => some (if k < u then k else u)) = some w := ew
        cases em : (b.2).map (fun x => x - 1) with
        | none =>
          rw [em] at ew'
          cases ew'; omega
        | some k =>
          rw [em] at ew'
          have e3 : (if k < u then k else u) = w := Option.some.inj ew'
          have := b2 k em
          split at e3 <;> omega
      · have eu : upS (some v, some u) (some l, b.2) = (some 0, (some l, b.2).2.map fun x => x - 1) := by
          simp only [upS, if_neg hv]
        rw [eu]; exact base
theorem dn_rem {b p : SpT} {x y : Int} (e : dnP b = some p) (hp : holdsB p y = true) : holdsB (dnS p) (x.fmod y) = true := by
  obtain ⟨u, rfl, h1, h2, h3, h4⟩ := dn_of e
  obtain ⟨g1, g2⟩ := (holds_iff _ _).mp hp
  have hy : y ≤ u := g2 u rfl
  have q1 : x.fmod y = -((-x) % (-y)) := by
    have e := Int.neg_fmod_neg x y
    rw [fmod_pos (by omega)] at e
    omega
  have q2 : 0 ≤ (-x) % (-y) := Int.emod_nonneg _ (by omega)
  have q3 : (-x) % (-y) < -y := Int.emod_lt_of_pos _ (by omega)
  rw [q1]
  refine (holds_iff _ _).mpr ⟨fun v ev => ?_, (by intro v z; cases z; omega)⟩
  have ev' : (b.1).map (fun x => x + 1) = some v := ev
  cases e2 : b.1 with
  | none => rw [e2] at ev'; cases ev'
  | some w =>
    rw [e2] at ev'
    have e3 : w + 1 = v := Option.some.inj ev'
    have := g1 w e2
    omega
end K40
namespace K40
open PySem PySem.Spec L2 DL
def prodE (a b : SpT) : SpT := nearS (minL (farL a * farL b) [farH a * farL b, farL a * farH b, farH a * farH b]) (maxL (farL a * farL b) [farH a * farL b, farL a * farH b, farH a * farH b])
def chk (a b : SpT) : Bool := mulS a b == some (prodE a b)
def lows : List Int := (List.range 17).map fun (i : Nat) => (-8 : Int) + i
def highs : List Int := (List.range 25).map fun (i : Nat) => (-8 : Int) + i
def domN : List SpT := (none, none) :: (highs.map (fun y => (none, some y)) ++ lows.map (fun x => (some x, none)))
def domF : List SpT := lows.flatMap fun x => (highs.filter fun y => decide (x ≤ y)).map fun y => (some x, some y)
theorem chk_nn : (domN.all fun a => domN.all fun b => chk a b) = true := by decide +kernel
theorem chk_nf : (domN.all fun a => domF.all fun b => chk a b) = true := by decide +kernel
theorem chk_fn : (domF.all fun a => domN.all fun b => chk a b) = true := by decide +kernel
theorem mem_lows {x : Int} (h1 : -8 ≤ x) (h2 : x ≤ 8) : x ∈ lows := List.mem_map.mpr ⟨(x + 8).toNat, List.mem_range.mpr (by omega), by omega⟩
theorem mem_highs {x : Int} (h1 : -8 ≤ x) (h2 : x ≤ 16) : x ∈ highs := List.mem_map.mpr ⟨(x + 8).toNat, List.mem_range.mpr (by omega), by omega⟩
theorem dom_cases {a : SpT} (h : InDom a) : a ∈ domN ∨ (a ∈ domF ∧ ∃ x y, a = (some x, some y)) := by
  obtain ⟨a1, a2⟩ := a
  obtain ⟨h1, h2, h3⟩ := h
  unfold domN domF
  cases a1 with
  | none =>
    cases a2 with
    | none => exact .inl List.mem_cons_self
    | some y =>
      have q := h2 y rfl
      exact .inl (List.mem_cons_of_mem _ (List.mem_append.mpr (.inl (List.mem_map.mpr ⟨y, mem_highs q.1 q.2, rfl⟩))))
  | some x =>
    have p := h1 x rfl
    cases a2 with
    | none => exact .inl (List.mem_cons_of_mem _ (List.mem_append.mpr (.inr (List.mem_map.mpr ⟨x, mem_lows p.1 p.2, rfl⟩))))
    | some y =>
      have q := h2 y rfl
      refine .inr ⟨List.mem_flatMap.mpr ⟨x, mem_lows p.1 p.2, List.mem_map.mpr ⟨y, List.mem_filter.mpr ⟨mem_highs q.1 q.2, decide_eq_true (h3 x y rfl rfl)⟩, rfl⟩⟩, x, y, rfl⟩
theorem chk_of {xs ys : List SpT} (h : (xs.all fun a => ys.all fun b => chk a b) = true) {a b : SpT} (ha : a ∈ xs) (hb : b ∈ ys) : mulS a b = some (prodE a b) := by
  have q := List.all_eq_true.mp (List.all_eq_true.mp h a ha) b hb
  exact eq_of_beq q
theorem mul_ok {a b : SpT} (ha : InDom a) (hb : InDom b) : mulS a b = some (prodE a b) := by
  rcases dom_cases ha with da | ⟨da, x, y, rfl⟩
  · rcases dom_cases hb with db | ⟨db, _⟩
    · exact chk_of chk_nn da db
    · exact chk_of chk_nf da db
  · rcases dom_cases hb with db | ⟨db, u, v, rfl⟩
    · exact chk_of chk_fn da db
    · obtain ⟨h1, h2, h3⟩ := ha
      obtain ⟨g1, g2, g3⟩ := hb
      have x1 := h1 x rfl
      have y1 := h2 y rfl
      have xy := h3 x y rfl rfl
      have u1 := g1 u rfl
      have v1 := g2 v rfl
      have uv := g3 u v rfl rfl
      have bnd : ∀ {p q : Int}, -8 ≤ p → p ≤ 16 → -8 ≤ q → q ≤ 16 → -1000 ≤ p * q ∧ p * q ≤ 1000 := by
        intro p q p1 p2 q1 q2
        have a1 : 0 ≤ (p + 8) * (q + 8) := Int.mul_nonneg (by omega) (by omega)
        have a2 : 0 ≤ (16 - p) * (q + 8) := Int.mul_nonneg (by omega) (by omega)
        have a3 : 0 ≤ (p + 8) * (16 - q) := Int.mul_nonneg (by omega) (by omega)
        have a4 : 0 ≤ (16 - p) * (16 - q) := Int.mul_nonneg (by omega) (by omega)
        simp only [Int.add_mul, Int.mul_add, Int.sub_mul, Int.mul_sub] at a1 a2 a3 a4
        omega
      have p1 := bnd x1.1 (by omega) u1.1 (by omega)
      have p2 := bnd x1.1 (by omega) v1.1 (by omega)
      have p3 := bnd y1.1 (by omega) u1.1 (by omega)
      have p4 := bnd y1.1 (by omega) v1.1 (by omega)
      have gen : ∀ A B C D : Int, -1000 ≤ A → A ≤ 1000 → -1000 ≤ B → B ≤ 1000 → -1000 ≤ C → C ≤ 1000 → -1000 ≤ D → D ≤ 1000 →
          ((some (minL A [B, C, D]), some (maxL A [B, C, D])) : SpT) = nearS (minL A [C, B, D]) (maxL A [C, B, D]) := by
        intro A B C D a1 a2 b1 b2 c1 c2 d1 d2
        have m1 : minL A [B, C, D] = minL A [C, B, D] := by
          simp only [minL]
          repeat' split
          all_goals omega
        have m2 : maxL A [B, C, D] = maxL A [C, B, D] := by
          simp only [maxL]
          repeat' split
          all_goals omega
        have l1 : ¬ minL A [C, B, D] < -10 ^ 9 := by
          simp only [minL]
          repeat' split
          all_goals omega
        have l2 : ¬ 10 ^ 9 < maxL A [C, B, D] := by
          simp only [maxL]
          repeat' split
          all_goals omega
        rw [m1, m2]
        unfold nearS
        rw [if_neg l1, if_neg l2]
      have e := gen (x * u) (x * v) (y * u) (y * v) p1.1 p1.2 p2.1 p2.2 p3.1 p3.2 p4.1 p4.2
      unfold prodE
      show mulS (some x, some y) (some u, some v) = some (nearS (minL (x * u) [y * u, x * v, y * v]) (maxL (x * u) [y * u, x * v, y * v]))
      rw [← e]
      unfold mulS
      split
      · rename_i hz
        rcases hz with hz | hz
        · cases hz
          simp [zz, minL, maxL]
        · cases hz
          simp [zz, minL, maxL]
      · rfl
end K40
namespace K40
open PySem PySem.Spec L2 DL
section
variable {ρ : Rho} {S : Store} {fa fb fc : WE} {a b : SpT}
theorem ev_widen {m : List Int} (hm : m.length < 1000) (h : EvE fa ρ S (sp a)) (h2 : EvE fb ρ S (sp b)) (h3 : EvE fc ρ S (.tup (m.map .int))) : EvE (clW m_widen (consW fa (consW fb (consW fc nilW)))) ρ S (sp (widS a b m)) := fun Q q => h _ (h2 _ (h3 _ (by
  show m_widen [sp a, sp b, .tup (m.map .int)] S Q
  simp only [m_widen, spOf_sp, intsOf_map]; exact ⟨hm, q⟩)))
theorem wEq_e {x y : Option Int} {Q : DQ} (q : Q (.bl (decide (x = y))) S) : wEq (eD x) (eD y) S Q := by
  cases x with
  | none =>
    cases y with
    | none => exact ⟨rfl, rfl, q⟩
    | some y =>
      have e : decide ((none : Option Int) = some y) = false := decide_eq_false (fun z => by cases z)
      rw [e] at q
      exact ⟨rfl, rfl, q⟩
  | some x =>
    cases y with
    | none =>
      have e : decide (some x = none) = false := decide_eq_false (fun z => by cases z)
      rw [e] at q
      exact ⟨rfl, rfl, q⟩
    | some y =>
      have e : decide (some x = some y) = (x == y) := by
        rw [Bool.eq_iff_iff]; simp
      rw [e] at q
      exact ⟨rfl, rfl, q⟩
theorem wNe_e {x y : Option Int} {Q : DQ} (q : Q (.bl (!decide (x = y))) S) : wNe (eD x) (eD y) S Q := by
  cases x with
  | none =>
    cases y with
    | none => exact ⟨rfl, rfl, q⟩
    | some y =>
      have e : decide ((none : Option Int) = some y) = false := decide_eq_false (fun z => by cases z)
      rw [e] at q
      exact ⟨rfl, rfl, q⟩
  | some x =>
    cases y with
    | none =>
      have e : decide (some x = none) = false := decide_eq_false (fun z => by cases z)
      rw [e] at q
      exact ⟨rfl, rfl, q⟩
    | some y =>
      have e : decide (some x = some y) = (x == y) := by
        rw [Bool.eq_iff_iff]; simp
      rw [e] at q
      exact ⟨rfl, rfl, q⟩
theorem ev_eqE {x y : Option Int} (h : EvE fa ρ S (eD x)) (h2 : EvE fb ρ S (eD y)) : EvE (opW wEq fa fb) ρ S (.bl (decide (x = y))) := ev_op h h2 fun Q q => wEq_e q
theorem ev_neE {x y : Option Int} (h : EvE fa ρ S (eD x)) (h2 : EvE fb ρ S (eD y)) : EvE (opW wNe fa fb) ρ S (.bl (!decide (x = y))) := ev_op h h2 fun Q q => wNe_e q
theorem ev_div2 {d : D} (hb : smS b) (p1 : ∀ p, meetS b (some 1, none) = some p → isPart p) (p2 : ∀ p, meetS b (none, some (-1)) = some p → isPart p) (hd : osp (divS a b) = d) (h : EvE fa ρ S (sp a)) (h2 : EvE fb ρ S (sp b)) : EvE (clW m_divide (consW fa (consW fb nilW))) ρ S d := fun Q q => h _ (h2 _ (by
  show m_divide [sp a, sp b] S Q
  simp only [m_divide, spOf_sp]
  refine ⟨hb, p1, p2, ?_⟩
  rw [hd]; exact q))
end
theorem wTuple_lst {xs : List D} {S : Store} {Q : DQ} (q : Q (.tup xs) S) : wTuple [.lst xs] S Q := q
theorem small_of {a : SpT} (h : InDom a) : smS a := by
  obtain ⟨a1, a2⟩ := a
  obtain ⟨h1, h2, h3⟩ := h
  refine ⟨?_, ?_⟩
  · cases a1 with
    | none => trivial
    | some x => have := h1 x rfl; exact ⟨by omega, by omega⟩
  · cases a2 with
    | none => trivial
    | some x => have := h2 x rfl; exact ⟨by omega, by omega⟩
theorem part1 {b p : SpT} (h : InDom b) (e : meetS b (some 1, none) = some p) : isPart p := by
  obtain ⟨l, rfl, h1, h2, h3, h4⟩ := up_of (b := b) e
  have sb := small_of h
  refine ⟨⟨?_, sb.2⟩, .inl ⟨l, rfl, h1, h4⟩⟩
  show -1000000 ≤ l ∧ l ≤ 1000000
  rcases h3 with rfl | h3
  · exact ⟨by decide, by decide⟩
  · have := h.1 l h3
    omega
theorem part2 {b p : SpT} (h : InDom b) (e : meetS b (none, some (-1)) = some p) : isPart p := by
  obtain ⟨l, rfl, h1, h2, h3, h4⟩ := dn_of (b := b) e
  have sb := small_of h
  refine ⟨⟨sb.1, ?_⟩, .inr ⟨l, rfl, h1, h4⟩⟩
  show -1000000 ≤ l ∧ l ≤ 1000000
  rcases h3 with rfl | h3
  · exact ⟨by decide, by decide⟩
  · have := h.2.1 l h3
    omega
/-- quotients, rests -/
theorem div_holds {a b : SpT} {y : Int} (hy0 : y ≠ 0) (hy : holdsB b y = true) : ∃ t l, divS a b = some t ∧ remS a b = some l := by
  by_cases h : 1 ≤ y
  · obtain ⟨p, e, _⟩ := up_some hy h
    unfold divS remS
    rw [show meetS b (some 1, none) = some p from e]
    cases meetS b (none, some (-1)) <;> exact ⟨_, _, rfl, rfl⟩
  · obtain ⟨p, e, _⟩ := dn_some hy (by omega)
    unfold divS remS
    rw [show meetS b (none, some (-1)) = some p from e]
    cases meetS b (some 1, none) <;> exact ⟨_, _, rfl, rfl⟩
theorem div_in {a b t l : SpT} {x y : Int} (hy0 : y ≠ 0) (hx : holdsB a x = true) (hy : holdsB b y = true) (et : divS a b = some t) (el : remS a b = some l) : holdsB t (x.fdiv y) = true ∧ holdsB l (x.fmod y) = true := by
  unfold divS at et
  unfold remS at el
  by_cases h : 1 ≤ y
  · obtain ⟨p, e, hp⟩ := up_some hy h
    have e' : meetS b (some 1, none) = some p := e
    rw [e'] at et el
    cases e2 : meetS b (none, some (-1)) with
    | none =>
      rw [e2] at et el
      cases et; cases el
      exact ⟨part_up e hp hx, up_rem e hp hx⟩
    | some q =>
      rw [e2] at et el
      cases et; cases el
      exact ⟨join_holds_l (part_up e hp hx), join_holds_l (up_rem e hp hx)⟩
  · obtain ⟨p, e, hp⟩ := dn_some hy (by omega)
    have e' : meetS b (none, some (-1)) = some p := e
    rw [e'] at et el
    cases e2 : meetS b (some 1, none) with
    | none =>
      rw [e2] at et el
      cases et; cases el
      exact ⟨part_dn e hp hx, dn_rem e hp⟩
    | some q =>
      rw [e2] at et el
      cases et; cases el
      exact ⟨join_holds_r (part_dn e hp hx), join_holds_r (dn_rem e hp)⟩
theorem dom_one {a : SpT} (h : InDom a) : ∃ x, holdsB a x = true := by
  obtain ⟨a1, a2⟩ := a
  obtain ⟨h1, h2, h3⟩ := h
  cases a1 with
  | none =>
    cases a2 with
    | none => exact ⟨0, rfl⟩
    | some y => exact ⟨y, (holds_iff _ _).mpr ⟨(by intro x z; cases z), by intro x z; cases z; omega⟩⟩
  | some x =>
    refine ⟨x, (holds_iff _ _).mpr ⟨(by intro x z; cases z; omega), ?_⟩⟩
    intro y z
    exact h3 x y rfl z
theorem dom_nz {a : SpT} (h : InDom a) (hz : a ≠ zz) : ∃ x, x ≠ 0 ∧ holdsB a x = true := by
  obtain ⟨a1, a2⟩ := a
  obtain ⟨h1, h2, h3⟩ := h
  cases a1 with
  | none =>
    cases a2 with
    | none => exact ⟨1, by decide, rfl⟩
    | some y =>
      by_cases hy : y < 0
      · exact ⟨y, by omega, (holds_iff _ _).mpr ⟨(by intro x z; cases z), by intro x z; cases z; omega⟩⟩
      · exact ⟨-1, by decide, (holds_iff _ _).mpr ⟨(by intro x z; cases z), by intro x z; cases z; omega⟩⟩
  | some x =>
    by_cases hx : x = 0
    · subst hx
      cases a2 with
      | none => exact ⟨1, by decide, (holds_iff _ _).mpr ⟨(by intro x z; cases z; omega), by intro x z; cases z⟩⟩
      | some y =>
        have q := h3 0 y rfl rfl
        refine ⟨y, fun e => hz (by rw [e]; rfl), (holds_iff _ _).mpr ⟨(by intro x z; cases z; omega), by intro x z; cases z; omega⟩⟩
    · refine ⟨x, hx, (holds_iff _ _).mpr ⟨(by intro x z; cases z; omega), ?_⟩⟩
      intro y z
      exact h3 x y rfl z
theorem span_of {t : SpT} {x : Int} (h : holdsB t x = true) : isSpanB (sp t) = some true := by
  obtain ⟨h1, h2⟩ := (holds_iff _ _).mp h
  obtain ⟨t1, t2⟩ := t
  cases t1 with
  | none => cases t2 <;> rfl
  | some u =>
    cases t2 with
    | none => rfl
    | some v =>
      have := h1 u rfl
      have := h2 v rfl
      show some (true && true && decide (u ≤ v)) = some true
      rw [decide_eq_true (by omega)]; rfl
theorem ev_isspan {ρ : Rho} {S : Store} {fa : WE} {d : D} {k : Bool} (e : isSpanB d = some k) (h : EvE fa ρ S d) : EvE (clW m_is_span (consW fa nilW)) ρ S (.bl k) := fun Q q => h _ (by
  show m_is_span [d] S Q
  simp only [m_is_span, e]; exact q)
theorem nums_holds {a : SpT} {n : Int} (h : n ∈ nums a) : holdsB a n = true := (List.mem_filter.mp h).2
theorem nums_mem {a : SpT} {n : Int} (h : n ∈ nums a) : -24 ≤ n ∧ n ≤ 24 := by
  have q := mem_rng.mp (show n ∈ rng (-24) 49 from (List.mem_filter.mp h).1)
  omega
theorem nums_len (a : SpT) : (nums a).length ≤ 49 := by
  have q := List.length_filter_le (holdsB a) (rng (-24) 49)
  rw [rng_len] at q
  exact q
theorem sp_law_divided (ds : List D) (S : Store) (Q : DQ) (hS : S.all (Cell.blw S.length) = true) (h : m_law_divided ds S Q) : g_law_divided (D0 S Q) (startD ["one", "other", "numbers", "told", "left", "number", "mate"] ds) S := by
  unfold m_law_divided at h
  split at h
  · split at h
    · rename_i a b e1 e2
      obtain rfl := of_spOf e1
      obtain rfl := of_spOf e2
      obtain ⟨ha, hb, q⟩ := h
      have l1 := nums_len a
      have l2 := nums_len b
      refine seq_asg (ev_lcI (fun n => !decide (n = 0)) (fun n => .int n) (wiv_l (ev_m1 (ev_v rfl))) (by omega) fun n hn => ⟨evt_ts (ev_ne (ev_v rfl) ev_c), fun _ => ev_v rfl⟩) ?_
      generalize hN : (nums b).filter (fun n => !decide (n = 0)) = N
      have hN1 : ∀ n ∈ N, n ≠ 0 ∧ holdsB b n = true ∧ -24 ≤ n ∧ n ≤ 24 := by
        intro n hn
        rw [← hN] at hn
        obtain ⟨h1, h2⟩ := List.mem_filter.mp hn
        exact ⟨by simpa using h2, nums_holds h1, nums_mem h1⟩
      have hN2 : N.length < 100000 := by
        have q := List.length_filter_le (fun n => !decide (n = 0)) (nums b)
        rw [hN] at q
        omega
      refine seq_tup (ds := [osp (divS a b), osp (remS a b)]) (ev_tup2 (ev_div2 (small_of hb) (fun p e => part1 hb e) (fun p e => part2 hb e) rfl (ev_v rfl) (ev_v rfl)) (ev_m2 (ev_v rfl) (ev_v rfl))) rfl ?_
      refine seq_if (evt_ts (ev_eqzz (ev_v rfl))) (fun e => ?_) (fun e => ?_)
      · have hz : b = zz := of_decide_eq_true e
        subst hz
        have e1 : divS a zz = none := rfl
        have e2 : remS a zz = none := rfl
        rw [e1, e2]
        exact .inl q
      · have hz : b ≠ zz := of_decide_eq_false e
        obtain ⟨y0, y1, y2⟩ := dom_nz hb hz
        obtain ⟨x0, x1⟩ := dom_one ha
        obtain ⟨t, l, et, el⟩ := div_holds (a := a) y1 y2
        rw [et, el]
        refine seq_nx ?_
        have walk : WIv (sqI (clW m_law_numbers (consW (vW 0) nilW))) [some (sp a), some (sp b), some (.lst (N.map .int)), some (sp t), some (sp l), none, none] S ((nums a).map .int) := wiv_l (ev_m1 (ev_v rfl))
        refine seq_for walk ?_
        refine for_inv (fun xs ρ S' => (∀ x ∈ xs, ∃ n, x = D.int n ∧ n ∈ nums a) ∧ S' = S ∧ ∃ c, ρ = [some (sp a), some (sp b), some (.lst (N.map .int)), some (sp t), some (sp l), c, none]) ?_ _ _ _ ⟨fun x hx => ?_, rfl, none, rfl⟩ ?_
        · rintro x xs ρ S' ⟨hx, rfl, c, rfl⟩
          obtain ⟨n, rfl, hn⟩ := hx x List.mem_cons_self
          refine ⟨trivial, _, rfl, fun De h1 _ _ _ => ?_⟩
          refine (evt_not (evt_tru (ev_all (bs := N.map fun _ => true) ?_))) _ ?_
          · have g := ev_lcIy (wi := sqI (vW 2)) (ρ := [some (sp a), some (sp b), some (.lst (N.map .int)), some (sp t), some (sp l), some (.int n), none]) (S := S') (i := 6) (vs := [6]) (fe := andV (clW m_law_in (consW (vW 3) (consW (opW wDiv (vW 5) (vW 6)) nilW))) (clW m_law_in (consW (vW 4) (consW (opW wMod (vW 5) (vW 6)) nilW)))) (ns := N) (fun _ => .bl true) (wiv_l (ev_v rfl)) hN2 fun m hm => by
              obtain ⟨m0, m1, m2, m3⟩ := hN1 m hm
              obtain ⟨d1, d2⟩ := div_in m0 (nums_holds hn) m1 et el
              have g1 : EvE (clW m_law_in (consW (vW 3) (consW (opW wDiv (vW 5) (vW 6)) nilW))) [some (sp a), some (sp b), some (.lst (N.map .int)), some (sp t), some (sp l), some (.int n), some (.int m)] S' (.bl (holdsB t (n.fdiv m))) := ev_mI (ev_v rfl) (ev_div (ev_v rfl) (ev_v rfl) ⟨m0, by omega⟩)
              have g2 : EvE (clW m_law_in (consW (vW 4) (consW (opW wMod (vW 5) (vW 6)) nilW))) [some (sp a), some (sp b), some (.lst (N.map .int)), some (sp t), some (sp l), some (.int n), some (.int m)] S' (.bl (holdsB l (n.fmod m))) := ev_mI (ev_v rfl) (ev_mod (ev_v rfl) (ev_v rfl) m0)
              have g3 := ev_and g1 fun _ => g2
              rw [d1, d2] at g3
              exact g3
            rw [List.map_map]
            exact g
          · have e6 : (N.map fun _ => true).all id = true := by simp
            rw [e6]
            exact h1 _ _ ⟨fun y hy => hx y (List.mem_cons_of_mem _ hy), rfl, _, rfl⟩
        · obtain ⟨n, hn, rfl⟩ := List.mem_map.mp hx
          exact ⟨n, rfl, hn⟩
        · rintro ρ S' ⟨_, rfl, c, rfl⟩
          refine ⟨trivial, ?_⟩
          obtain ⟨d1, d2⟩ := div_in y1 x1 y2 et el
          have g := ev_and (ev_isb (j := true) (ev_isspan (span_of d1) (ev_v (i := 3) (ρ := [some (sp a), some (sp b), some (.lst (N.map .int)), some (sp t), some (sp l), c, none]) (S := S') rfl))) fun _ => ev_isb (j := true) (ev_isspan (span_of d2) (ev_v (i := 4) rfl))
          exact g _ (.inl q)
    · exact h.elim
  · exact h.elim
theorem sp_law_held (ds : List D) (S : Store) (Q : DQ) (hS : S.all (Cell.blw S.length) = true) (h : m_law_held ds S Q) : g_law_held (D0 S Q) (startD ["tape", "one", "other", "marks", "both", "wide", "less", "k"] ds) S := by
  unfold m_law_held at h
  split at h
  · split at h
    · rename_i a b e1 e2
      obtain rfl := of_spOf e1
      obtain rfl := of_spOf e2
      obtain ⟨ns, s, J, rfl, k, q⟩ := h
      generalize hD : D0 (tst ns s ++ J) Q = Dd
      have hrt : ∀ ns' s', Tk ns' s' → Dd.rt (.bl true) (tst ns' s' ++ J) := fun ns' s' k' => by subst hD; exact .inl (q ns' s' k')
      clear hD q
      refine seq_asgQ ?_
      refine ⟨by decide, by decide, ns, s, J, rfl, k, fun r ns s r0 r1 k => ?_⟩
      refine ⟨by omega, by omega, szl (by rw [rngD_length]; omega), ?_⟩
      refine comp_inv (fun xs ys S => ∃ zs ns s, ys = zs.map D.int ∧ zs.length + xs.length ≤ 10 ∧ S = tst ns s ++ J ∧ Tk ns s) ?_ _ [] _ ⟨[], ns, s, rfl, by rw [rngD_length]; simp; omega, rfl, k⟩ ?_
      · rintro x xs ys S ⟨zs, ns, s, rfl, hl, rfl, k⟩
        refine ⟨trivial, _, rfl, fun Q' hq => ?_⟩
        refine ⟨by decide, by decide, ns, s, J, rfl, k, fun r ns s r0 r1 k => ?_⟩
        refine hq (.int (r - 20)) _ ⟨zs ++ [r - 20], ns, s, by rw [List.map_append]; rfl, ?_, rfl, k⟩
        rw [List.length_cons] at hl
        rw [List.length_append]; simp; omega
      · rintro ys S ⟨zs, ns, s, e, hl, rfl, k⟩
        rw [List.nil_append] at e
        subst e
        refine ⟨trivial, ?_⟩
        show (match intsOf (zs.map D.int) with | some ns => _ | none => False)
        rw [intsOf_map]
        refine ⟨by simp at hl; omega, fun ms _ _ hml => ?_⟩
        have hm : ms.length < 1000 := by simp at hl; omega
        dsimp only [nilW]
        refine wTuple_lst ?_
        refine seq_asg (i := 4) (ev_m2 (ev_v rfl) (ev_v rfl)) ?_
        refine seq_asg (i := 5) (ev_widen hm (ev_v rfl) (ev_v rfl) (ev_v rfl)) ?_
        obtain ⟨p1, p2, p3, p4, p5⟩ := lo_all ms a.1 (joinS a b).1 (join_lo a b)
        obtain ⟨q1, q2, q3, q4, q5⟩ := hi_all ms a.2 (joinS a b).2 (join_hi a b)
        have w1 : withinB a (widS a (joinS a b) ms) = true := by rw [within_eq]; exact Bool.and_eq_true_iff.mpr ⟨p1, q1⟩
        have w2 : withinB (joinS a b) (widS a (joinS a b) ms) = true := by rw [within_eq]; exact Bool.and_eq_true_iff.mpr ⟨p2, q2⟩
        have w3 : withinB (joinS a b) (narS (widS a (joinS a b) ms) (joinS a b)) = true := by rw [within_eq, nar_eq]; exact Bool.and_eq_true_iff.mpr ⟨p4, q4⟩
        have w4 : withinB (narS (widS a (joinS a b) ms) (joinS a b)) (widS a (joinS a b) ms) = true := by rw [within_eq, nar_eq]; exact Bool.and_eq_true_iff.mpr ⟨p5, q5⟩
        have t1 := evt_or (evt_not (evt_tru (ev_m2 (f := fun a b => .bl (withinB a b)) (ev_v (i := 1) (d := sp a) (ρ := [some (.loc 1), some (sp a), some (sp b), some (.tup (ms.map .int)), some (sp (joinS a b)), some (sp (widS a (joinS a b) ms)), none, none]) (S := tst ns s ++ J) rfl) (ev_v (i := 5) rfl)))) fun _ => evt_not (evt_tru (ev_m2 (f := fun a b => .bl (withinB a b)) (ev_v (i := 4) (d := sp (joinS a b)) rfl) (ev_v (i := 5) (d := sp (widS a (joinS a b) ms)) rfl)))
        rw [w1, w2] at t1
        refine seq_if t1 (fun z => by cases z) fun _ => seq_nx ?_
        have t2 := evt_or (evt_and (evt_ts (ev_eqE (ev_lo (i := 1) (a := a) (ρ := [some (.loc 1), some (sp a), some (sp b), some (.tup (ms.map .int)), some (sp (joinS a b)), some (sp (widS a (joinS a b) ms)), none, none]) (S := tst ns s ++ J) rfl) (ev_lo (i := 4) (a := joinS a b) rfl))) fun _ => evt_ts (ev_neE (ev_lo (i := 5) (a := widS a (joinS a b) ms) rfl) (ev_lo (i := 1) (a := a) rfl)))
          fun _ => evt_and (evt_ts (ev_eqE (ev_hi (i := 1) (a := a) rfl) (ev_hi (i := 4) (a := joinS a b) rfl))) fun _ => evt_ts (ev_neE (ev_hi (i := 5) (a := widS a (joinS a b) ms) rfl) (ev_hi (i := 1) (a := a) rfl))
        have f1 : (decide (a.1 = (joinS a b).1) && !decide ((widS a (joinS a b) ms).1 = a.1)) = false := by
          by_cases z : a.1 = (joinS a b).1
          · have z2 : decide ((widS a (joinS a b) ms).1 = a.1) = true := decide_eq_true (p3 z)
            rw [z2, Bool.not_true, Bool.and_false]
          · rw [decide_eq_false z, Bool.false_and]
        have f2 : (decide (a.2 = (joinS a b).2) && !decide ((widS a (joinS a b) ms).2 = a.2)) = false := by
          by_cases z : a.2 = (joinS a b).2
          · have z2 : decide ((widS a (joinS a b) ms).2 = a.2) = true := decide_eq_true (q3 z)
            rw [z2, Bool.not_true, Bool.and_false]
          · rw [decide_eq_false z, Bool.false_and]
        rw [f1, f2] at t2
        refine seq_if t2 (fun z => by cases z) fun _ => seq_nx ?_
        refine seq_asg (i := 6) (ev_m2 (ev_v rfl) (ev_v rfl)) ?_
        have t3 := ev_and (ev_isb (j := true) (ev_m2 (f := fun a b => .bl (withinB a b)) (ev_v (i := 4) (d := sp (joinS a b)) (ρ := [some (.loc 1), some (sp a), some (sp b), some (.tup (ms.map .int)), some (sp (joinS a b)), some (sp (widS a (joinS a b) ms)), some (sp (narS (widS a (joinS a b) ms) (joinS a b))), none]) (S := tst ns s ++ J) rfl) (ev_v (i := 6) (d := sp (narS (widS a (joinS a b) ms) (joinS a b))) rfl))) fun _ => ev_isb (j := true) (ev_m2 (f := fun a b => .bl (withinB a b)) (ev_v (i := 6) (d := sp (narS (widS a (joinS a b) ms) (joinS a b))) rfl) (ev_v (i := 5) (d := sp (widS a (joinS a b) ms)) rfl))
        rw [w3, w4] at t3
        exact t3 _ (hrt ns s k)
    · exact h.elim
  · exact h.elim
end K40
namespace K40
open PySem PySem.Spec L2 DL
/-! what the law's own ends tell -/
theorem getD_n (d : Int) : (none : Option Int).getD d = d := rfl
theorem getD_s (x d : Int) : (some x).getD d = x := rfl
theorem add_ok {a b : SpT} (ha : InDom a) (hb : InDom b) : addS a b = nearS (farL a + farL b) (farH a + farH b) := by
  obtain ⟨a1, a2⟩ := a
  obtain ⟨b1, b2⟩ := b
  obtain ⟨h1, h2, _⟩ := ha
  obtain ⟨g1, g2, _⟩ := hb
  refine Prod.ext ?_ ?_
  · show _ = (if farL (a1, a2) + farL (b1, b2) < -10 ^ 9 then none else some (farL (a1, a2) + farL (b1, b2)))
    cases a1 with
    | none =>
      cases b1 with
      | none => rfl
      | some y => have := g1 y rfl; exact (if_pos (by simp only [farL, getD_n, getD_s]; omega)).symm
    | some x =>
      have := h1 x rfl
      cases b1 with
      | none => exact (if_pos (by simp only [farL, getD_n, getD_s]; omega)).symm
      | some y => have := g1 y rfl; exact (if_neg (by simp only [farL, getD_n, getD_s]; omega)).symm
  · show _ = (if 10 ^ 9 < farH (a1, a2) + farH (b1, b2) then none else some (farH (a1, a2) + farH (b1, b2)))
    cases a2 with
    | none =>
      cases b2 with
      | none => rfl
      | some y => have := g2 y rfl; exact (if_pos (by simp only [farH, getD_n, getD_s]; omega)).symm
    | some x =>
      have := h2 x rfl
      cases b2 with
      | none => exact (if_pos (by simp only [farH, getD_n, getD_s]; omega)).symm
      | some y => have := g2 y rfl; exact (if_neg (by simp only [farH, getD_n, getD_s]; omega)).symm
theorem sub_ok {a b : SpT} (ha : InDom a) (hb : InDom b) : subS a b = nearS (farL a - farH b) (farH a - farL b) := by
  obtain ⟨a1, a2⟩ := a
  obtain ⟨b1, b2⟩ := b
  obtain ⟨h1, h2, _⟩ := ha
  obtain ⟨g1, g2, _⟩ := hb
  refine Prod.ext ?_ ?_
  · show _ = (if farL (a1, a2) - farH (b1, b2) < -10 ^ 9 then none else some (farL (a1, a2) - farH (b1, b2)))
    cases a1 with
    | none =>
      cases b2 with
      | none => rfl
      | some y => have := g2 y rfl; exact (if_pos (by simp only [farL, farH, getD_n, getD_s]; omega)).symm
    | some x =>
      have := h1 x rfl
      cases b2 with
      | none => exact (if_pos (by simp only [farL, farH, getD_n, getD_s]; omega)).symm
      | some y => have := g2 y rfl; exact (if_neg (by simp only [farL, farH, getD_n, getD_s]; omega)).symm
  · show _ = (if 10 ^ 9 < farH (a1, a2) - farL (b1, b2) then none else some (farH (a1, a2) - farL (b1, b2)))
    cases a2 with
    | none =>
      cases b1 with
      | none => rfl
      | some y => have := g1 y rfl; exact (if_pos (by simp only [farL, farH, getD_n, getD_s]; omega)).symm
    | some x =>
      have := h2 x rfl
      cases b1 with
      | none => exact (if_pos (by simp only [farL, farH, getD_n, getD_s]; omega)).symm
      | some y => have := g1 y rfl; exact (if_neg (by simp only [farL, farH, getD_n, getD_s]; omega)).symm
theorem con_ok {a : SpT} (ha : InDom a) : conS a = nearS (-farH a) (-farL a) := by
  obtain ⟨a1, a2⟩ := a
  obtain ⟨h1, h2, _⟩ := ha
  refine Prod.ext ?_ ?_
  · show _ = (if -farH (a1, a2) < -10 ^ 9 then none else some (-farH (a1, a2)))
    cases a2 with
    | none => rfl
    | some x => have := h2 x rfl; exact (if_neg (by simp only [farH, getD_s]; omega)).symm
  · show _ = (if 10 ^ 9 < -farL (a1, a2) then none else some (-farL (a1, a2)))
    cases a1 with
    | none => rfl
    | some x => have := h1 x rfl; exact (if_neg (by simp only [farL, getD_s]; omega)).symm
def minI (i j : Int) : Int := if j < i then j else i
def maxI (i j : Int) : Int := if i < j then j else i
theorem join_ok {a b : SpT} (ha : InDom a) (hb : InDom b) : joinS a b = nearS (minI (farL a) (farL b)) (maxI (farH a) (farH b)) := by
  obtain ⟨a1, a2⟩ := a
  obtain ⟨b1, b2⟩ := b
  obtain ⟨h1, h2, _⟩ := ha
  obtain ⟨g1, g2, _⟩ := hb
  refine Prod.ext ?_ ?_
  · show _ = (if minI (farL (a1, a2)) (farL (b1, b2)) < -10 ^ 9 then none else some (minI (farL (a1, a2)) (farL (b1, b2))))
    cases a1 with
    | none =>
      cases b1 with
      | none => rfl
      | some y => have := g1 y rfl; exact (if_pos (by simp only [minI, farL, getD_n, getD_s]; omega)).symm
    | some x =>
      have := h1 x rfl
      cases b1 with
      | none => exact (if_pos (by simp only [minI, farL, getD_n, getD_s]; omega)).symm
      | some y => have := g1 y rfl; exact (if_neg (by simp only [minI, farL, getD_n, getD_s]; omega)).symm
  · show _ = (if 10 ^ 9 < maxI (farH (a1, a2)) (farH (b1, b2)) then none else some (maxI (farH (a1, a2)) (farH (b1, b2))))
    cases a2 with
    | none =>
      cases b2 with
      | none => rfl
      | some y => have := g2 y rfl; exact (if_pos (by simp only [maxI, farH, getD_n, getD_s]; omega)).symm
    | some x =>
      have := h2 x rfl
      cases b2 with
      | none => exact (if_pos (by simp only [maxI, farH, getD_n, getD_s]; omega)).symm
      | some y => have := g2 y rfl; exact (if_neg (by simp only [maxI, farH, getD_n, getD_s]; omega)).symm
def meetL (a b : SpT) : Int := maxI (farL a) (farL b)
def meetH (a b : SpT) : Int := minI (farH a) (farH b)
theorem meet0_ok {a b : SpT} (ha : InDom a) (hb : InDom b) : meet0 a b = nearS (meetL a b) (meetH a b) := by
  obtain ⟨a1, a2⟩ := a
  obtain ⟨b1, b2⟩ := b
  obtain ⟨h1, h2, _⟩ := ha
  obtain ⟨g1, g2, _⟩ := hb
  refine Prod.ext ?_ ?_
  · show _ = (if maxI (farL (a1, a2)) (farL (b1, b2)) < -10 ^ 9 then none else some (maxI (farL (a1, a2)) (farL (b1, b2))))
    cases a1 with
    | none =>
      cases b1 with
      | none => rfl
      | some y =>
        have := g1 y rfl
        have e : maxI (farL (none, a2)) (farL (some y, b2)) = y := by simp only [maxI, farL, getD_n, getD_s]; omega
        rw [e]
        exact (if_neg (by omega)).symm
    | some x =>
      have := h1 x rfl
      cases b1 with
      | none =>
        have e : maxI (farL (some x, a2)) (farL (none, b2)) = x := by simp only [maxI, farL, getD_n, getD_s]; omega
        rw [e]
        exact (if_neg (by omega)).symm
      | some y => have := g1 y rfl; exact (if_neg (by simp only [maxI, farL, getD_n, getD_s]; omega)).symm
  · show _ = (if 10 ^ 9 < minI (farH (a1, a2)) (farH (b1, b2)) then none else some (minI (farH (a1, a2)) (farH (b1, b2))))
    cases a2 with
    | none =>
      cases b2 with
      | none => rfl
      | some y =>
        have := g2 y rfl
        have e : minI (farH (a1, none)) (farH (b1, some y)) = y := by simp only [minI, farH, getD_n, getD_s]; omega
        rw [e]
        exact (if_neg (by omega)).symm
    | some x =>
      have := h2 x rfl
      cases b2 with
      | none =>
        have e : minI (farH (a1, some x)) (farH (b1, none)) = x := by simp only [minI, farH, getD_n, getD_s]; omega
        rw [e]
        exact (if_neg (by omega)).symm
      | some y => have := g2 y rfl; exact (if_neg (by simp only [minI, farH, getD_n, getD_s]; omega)).symm
theorem fars {a : SpT} (ha : InDom a) : -10 ^ 12 ≤ farL a ∧ farL a ≤ 8 ∧ -8 ≤ farH a ∧ farH a ≤ 10 ^ 12 := by
  obtain ⟨a1, a2⟩ := a
  obtain ⟨h1, h2, _⟩ := ha
  have p : -10 ^ 12 ≤ farL (a1, a2) ∧ farL (a1, a2) ≤ 8 := by
    cases a1 with
    | none => simp only [farL, getD_n]; omega
    | some x => have := h1 x rfl; simp only [farL, getD_s]; omega
  have q : -8 ≤ farH (a1, a2) ∧ farH (a1, a2) ≤ 10 ^ 12 := by
    cases a2 with
    | none => simp only [farH, getD_n]; omega
    | some x => have := h2 x rfl; simp only [farH, getD_s]; omega
  exact ⟨p.1, p.2, q.1, q.2⟩
theorem meet_ok {a b : SpT} (ha : InDom a) (hb : InDom b) : meetS a b = if meetH a b < meetL a b then none else some (nearS (meetL a b) (meetH a b)) := by
  have fa := fars ha
  have fb := fars hb
  unfold meetS
  rw [meet0_ok ha hb]
  have m1 : meetL a b ≤ 8 := by unfold meetL maxI; omega
  have m2 : -8 ≤ meetH a b := by unfold meetH minI; omega
  generalize meetL a b = l at *
  generalize meetH a b = h at *
  unfold nearS
  by_cases c1 : l < -10 ^ 9
  · rw [if_pos c1, if_neg (show ¬ h < l by omega)]
  · rw [if_neg c1]
    by_cases c2 : 10 ^ 9 < h
    · rw [if_pos c2, if_neg (show ¬ h < l by omega)]
    · rw [if_neg c2]
theorem within_ok {a b : SpT} (ha : InDom a) (hb : InDom b) : (decide (farL b ≤ farL a) && decide (farH a ≤ farH b)) = withinB a b := by
  rw [within_eq]
  obtain ⟨a1, a2⟩ := a
  obtain ⟨b1, b2⟩ := b
  obtain ⟨h1, h2, _⟩ := ha
  obtain ⟨g1, g2, _⟩ := hb
  have p : decide (farL (b1, b2) ≤ farL (a1, a2)) = wlo a1 b1 := by
    cases a1 with
    | none =>
      cases b1 with
      | none => rfl
      | some y => have := g1 y rfl; exact decide_eq_false (by simp only [farL, getD_n, getD_s]; omega)
    | some x =>
      have := h1 x rfl
      cases b1 with
      | none => exact decide_eq_true (by simp only [farL, getD_n, getD_s]; omega)
      | some y => rfl
  have q : decide (farH (a1, a2) ≤ farH (b1, b2)) = whi a2 b2 := by
    cases a2 with
    | none =>
      cases b2 with
      | none => rfl
      | some y => have := g2 y rfl; exact decide_eq_false (by simp only [farH, getD_n, getD_s]; omega)
    | some x =>
      have := h2 x rfl
      cases b2 with
      | none => exact decide_eq_true (by simp only [farH, getD_n, getD_s]; omega)
      | some y => rfl
  rw [p, q]
theorem tam_dom {a : SpT} (ha : InDom a) : tamS a = a := by
  obtain ⟨a1, a2⟩ := a
  obtain ⟨h1, h2, _⟩ := ha
  have e : most = 10 ^ 60 := rfl
  refine Prod.ext ?_ ?_
  · cases a1 with
    | none => rfl
    | some x => have := h1 x rfl; exact if_neg (by rw [e]; omega)
  · cases a2 with
    | none => rfl
    | some x => have := h2 x rfl; exact if_neg (by rw [e]; omega)
theorem tam_great (g : Int) : tamS (some (-g), some g) = if most < g then (none, none) else (some (-g), some g) := by
  by_cases h : most < g
  · rw [if_pos h]
    exact Prod.ext (if_pos (show -g < -most by omega)) (if_pos h)
  · rw [if_neg h]
    exact Prod.ext (if_neg (show ¬ -g < -most by omega)) (if_neg h)
theorem pl_sp (n : Nat) (a : SpT) : plD (n + 1) (sp a) = true := by
  obtain ⟨x, y⟩ := a
  cases x <;> cases y <;> cases n <;> rfl
theorem pl_osp (n : Nat) (a : Option SpT) : plD (n + 1) (osp a) = true := by
  cases a with
  | none => rfl
  | some a => exact pl_sp n a
theorem pl_siz (n : Nat) (a : SpT) : plD n (sizS a) = true := by
  obtain ⟨x, y⟩ := a
  cases x <;> cases y <;> cases n <;> rfl
section
variable {ρ : Rho} {S : Store} {fa fb fc fd : WE} {a b : SpT} {x y z u : D}
theorem ev_same {n : Nat} (hp : plD n x = true) (h : EvE fa ρ S x) (h2 : EvE fb ρ S x) : EvE (clW (m_law_same n) (consW fa (consW fb nilW))) ρ S (.bl true) := fun Q q => h _ (h2 _ ⟨hp, rfl, q⟩)
theorem ev_near {l h : Int} (h1 : EvE fa ρ S (.int l)) (h2 : EvE fb ρ S (.int h)) : EvE (clW m_law_near (consW fa (consW fb nilW))) ρ S (sp (nearS l h)) := fun Q q => h1 _ (h2 _ q)
theorem ev_mult {r : SpT} (s : smS a ∧ smS b) (e : mulS a b = some r) (h1 : EvE fa ρ S (sp a)) (h2 : EvE fb ρ S (sp b)) : EvE (clW m_multiply (consW fa (consW fb nilW))) ρ S (sp r) := fun Q q => h1 _ (h2 _ (by
  show m_multiply [sp a, sp b] S Q
  simp only [m_multiply, spOf_sp, e]; exact ⟨s, q⟩))
theorem ev_tup4 (h1 : EvE fa ρ S x) (h2 : EvE fb ρ S y) (h3 : EvE fc ρ S z) (h4 : EvE fd ρ S u) : EvE (tupW (consW fa (consW fb (consW fc (consW fd nilW))))) ρ S (.tup [x, y, z, u]) := fun Q q => h1 _ (h2 _ (h3 _ (h4 _ ⟨sz4, q⟩)))
theorem ev_minL {m : Int} {r : List Int} (h : EvE fa ρ S (.lst ((m :: r).map .int))) : EvE (clW wMin (consW fa nilW)) ρ S (.int (minL m r)) := fun Q q => h _ (by
  show (match intsOf ((m :: r).map D.int) with | some (m :: r) => Q (.int (minL m r)) S | _ => False)
  rw [intsOf_map]; exact q)
theorem ev_maxL {m : Int} {r : List Int} (h : EvE fa ρ S (.lst ((m :: r).map .int))) : EvE (clW wMax (consW fa nilW)) ρ S (.int (maxL m r)) := fun Q q => h _ (by
  show (match intsOf ((m :: r).map D.int) with | some (m :: r) => Q (.int (maxL m r)) S | _ => False)
  rw [intsOf_map]; exact q)
end
end K40
namespace K40
open PySem PySem.Spec L2 DL
theorem sp_law_tape (ds : List D) (S : Store) (Q : DQ) (hS : S.all (Cell.blw S.length) = true) (h : m_law_tape ds S Q) : g_law_tape (D0 S Q) (startD ["script", "seed", "cell"] ds) S := sp_tape ds S Q hS h
theorem sp_law_draw (ds : List D) (S : Store) (Q : DQ) (hS : S.all (Cell.blw S.length) = true) (h : m_law_draw ds S Q) : g_law_draw (D0 S Q) (startD ["tape", "many", "cells", "number"] ds) S := sp_draw ds S Q hS h
theorem sp_law_pick (ds : List D) (S : Store) (Q : DQ) (hS : S.all (Cell.blw S.length) = true) (h : m_law_pick ds S Q) : g_law_pick (D0 S Q) (startD ["tape", "row"] ds) S := sp_pick ds S Q hS h
theorem sp_law_same (n : Nat) (ds : List D) (S : Store) (Q : DQ) (hS : S.all (Cell.blw S.length) = true) (h : m_law_same n ds S Q) : g_law_same n (D0 S Q) (startD ["actual", "due", "k"] ds) S := sp_same n ds S Q hS h
section
variable {scr t : D} {a b : SpT} {S : Store}
/-- the body of a turn, before its last draws -/
def b_pure : WS :=
    (seqW (asgW (.tp [5, 6]) (tupW (consW (clW m_law_far (consW (vW 3) nilW)) (consW (clW m_law_far (consW (vW 4) nilW)) nilW))))
    (seqW (asgW (.nm 7) (opW wAdd (lcW (sqI (vW 5)) (.nm 16) yesW (opW wMul (vW 16) (opW wIx (vW 6) (cW (.int 0)))) [16]) (lcW (sqI (vW 5)) (.nm 16) yesW (opW wMul (vW 16) (opW wIx (vW 6) (cW (.int 1)))) [16])))
    (seqW (asgW (.nm 8) (tupW (consW (clW m_law_near (consW (opW wAdd (opW wIx (vW 5) (cW (.int 0))) (opW wIx (vW 6) (cW (.int 0)))) (consW (opW wAdd (opW wIx (vW 5) (cW (.int 1))) (opW wIx (vW 6) (cW (.int 1)))) nilW))) (consW (clW m_law_near (consW (opW wSub (opW wIx (vW 5) (cW (.int 0))) (opW wIx (vW 6) (cW (.int 1)))) (consW (opW wSub (opW wIx (vW 5) (cW (.int 1))) (opW wIx (vW 6) (cW (.int 0)))) nilW))) (consW (clW m_law_near (consW (unW wNeg (opW wIx (vW 5) (cW (.int 1)))) (consW (unW wNeg (opW wIx (vW 5) (cW (.int 0)))) nilW))) (consW (clW m_law_near (consW (clW wMin (consW (vW 7) nilW)) (consW (clW wMax (consW (vW 7) nilW)) nilW))) nilW))))))
    (seqW (ifS (notW (truW (clW (m_law_same 4) (consW (tupW (consW (clW m_add (consW (vW 3) (consW (vW 4) nilW))) (consW (clW m_subtract (consW (vW 3) (consW (vW 4) nilW))) (consW (clW m_contrary (consW (vW 3) nilW)) (consW (clW m_multiply (consW (vW 3) (consW (vW 4) nilW))) nilW))))) (consW (vW 8) nilW))))) (retW (cW (.bl false))) nxW)
    (seqW (parW 9 10 (consW (clW wMax (consW (opW wIx (vW 5) (cW (.int 0))) (consW (opW wIx (vW 6) (cW (.int 0))) nilW))) (consW (clW wMin (consW (opW wIx (vW 5) (cW (.int 1))) (consW (opW wIx (vW 6) (cW (.int 1))) nilW))) nilW)))
    (seqW (asgW (.nm 11) (tupW (consW (clW m_law_near (consW (clW wMin (consW (opW wIx (vW 5) (cW (.int 0))) (consW (opW wIx (vW 6) (cW (.int 0))) nilW))) (consW (clW wMax (consW (opW wIx (vW 5) (cW (.int 1))) (consW (opW wIx (vW 6) (cW (.int 1))) nilW))) nilW))) (consW (ifW (tsW (opW wGt (vW 9) (vW 10))) (cW .non) (clW m_law_near (consW (vW 9) (consW (vW 10) nilW)))) nilW))))
    (seqW (ifS (notW (truW (clW (m_law_same 4) (consW (tupW (consW (clW m_join (consW (vW 3) (consW (vW 4) nilW))) (consW (clW m_meet (consW (vW 3) (consW (vW 4) nilW))) nilW))) (consW (vW 11) nilW))))) (retW (cW (.bl false))) nxW)
    (seqW (ifS (notW (truW (clW (m_law_same 4) (consW (tupW (consW (clW m_is_within (consW (vW 3) (consW (vW 4) nilW))) (consW (clW m_size_of (consW (vW 3) nilW)) nilW))) (consW (tupW (consW (andV (opW wLe (opW wIx (vW 6) (cW (.int 0))) (opW wIx (vW 5) (cW (.int 0)))) (opW wLe (opW wIx (vW 5) (cW (.int 1))) (opW wIx (vW 6) (cW (.int 1))))) (consW (ifW (tsW (opW (wIn false) (cW .non) (vW 3))) (cW .non) (opW wAdd (opW wSub (opW wIx (vW 3) (cW (.int 1))) (opW wIx (vW 3) (cW (.int 0)))) (cW (.int 1)))) nilW))) nilW))))) (retW (cW (.bl false))) nxW)
    (ifS (notW (truW (clW wAll (consW (lcW (rgI2 (consW (unW wNeg (cW (.int 24))) (consW (cW (.int 25)) nilW))) (.nm 13) yesW (clW (m_law_same 4) (consW (clW m_holds (consW (vW 3) (consW (vW 13) nilW))) (consW (clW m_law_in (consW (vW 3) (consW (vW 13) nilW))) nilW))) [13]) nilW)))) (retW (cW (.bl false))) nxW)))))))))
theorem pure_ok (ha : InDom a) (hb : InDom b) {c5 c6 c7 c8 c9 c10 c11 c12 c13 c14 c15 c16 c17 : Option D} {De : DEnds} (rest : WS)
    (h : ∀ c5 c6 c7 c8 c9 c10 c11, rest De [some scr, some (.loc 1), some t, some (sp a), some (sp b), c5, c6, c7, c8, c9, c10, c11, c12, c13, c14, c15, c16, c17] S) :
    seqW b_pure rest De [some scr, some (.loc 1), some t, some (sp a), some (sp b), c5, c6, c7, c8, c9, c10, c11, c12, c13, c14, c15, c16, c17] S := by
  unfold b_pure
  have fa := fars ha
  have fb := fars hb
  refine seq_seq ?_
  refine seq_tup (ds := [.tup [.int (farL a), .int (farH a)], .tup [.int (farL b), .int (farH b)]]) (ev_tup2 (ev_m1 (ev_v rfl)) (ev_m1 (ev_v rfl))) rfl ?_
  refine seq_seq ?_
  refine seq_asg (i := 7) (d := .lst ([farL a * farL b, farH a * farL b, farL a * farH b, farH a * farH b].map .int)) ?_ ?_
  · have big : ∀ n, n ∈ [farL a, farH a] → ∀ m, CMul n m := by
      intro n hn m
      refine .inl ?_
      rcases (by simpa using hn : n = farL a ∨ n = farH a) with rfl | rfl
      · constructor <;> omega
      · constructor <;> omega
    refine ev_op (x := .lst ([farL a * farL b, farH a * farL b].map .int)) (y := .lst ([farL a * farH b, farH a * farH b].map .int)) ?_ ?_ (fun Q q => wAdd_l (show (4 : Nat) ≤ 100000 by decide) q)
    · exact ev_lcIy (ns := [farL a, farH a]) (fun n => .int (n * farL b)) (wiv_t (ev_v rfl)) (show (2 : Nat) < 100000 by decide) fun n hn => ev_mul (ev_v rfl) (ev_tix (ev_v rfl) rfl) (big n hn _)
    · exact ev_lcIy (ns := [farL a, farH a]) (fun n => .int (n * farH b)) (wiv_t (ev_v rfl)) (show (2 : Nat) < 100000 by decide) fun n hn => ev_mul (ev_v rfl) (ev_tix (ev_v rfl) rfl) (big n hn _)
  refine seq_seq ?_
  refine seq_asg (i := 8) (ev_tup4 (ev_near (ev_add (ev_tix (ev_v rfl) rfl) (ev_tix (ev_v rfl) rfl)) (ev_add (ev_tix (ev_v rfl) rfl) (ev_tix (ev_v rfl) rfl))) (ev_near (ev_sub (ev_tix (ev_v rfl) rfl) (ev_tix (ev_v rfl) rfl)) (ev_sub (ev_tix (ev_v rfl) rfl) (ev_tix (ev_v rfl) rfl)))
    (ev_near (ev_neg (ev_tix (ev_v rfl) rfl)) (ev_neg (ev_tix (ev_v rfl) rfl))) (ev_near (ev_minL (ev_v rfl)) (ev_maxL (ev_v rfl)))) ?_
  refine seq_seq ?_
  refine seq_if (k := false) (evt_not (k := true) (evt_tru (ev_same (x := .tup [sp (nearS (farL a + farL b) (farH a + farH b)), sp (nearS (farL a - farH b) (farH a - farL b)), sp (nearS (-farH a) (-farL a)), sp (prodE a b)]) ?_ ?_ (ev_v rfl)))) (fun z => by cases z) fun _ => seq_nx ?_
  · show ([sp _, sp _, sp _, sp _].all (plD 3) && decide _) = true
    simp only [List.all_cons, List.all_nil, pl_sp 2, Bool.and_true, Bool.true_and]
    rfl
  · rw [← add_ok ha hb, ← sub_ok ha hb, ← con_ok ha]
    exact ev_tup4 (ev_m2 (ev_v rfl) (ev_v rfl)) (ev_m2 (ev_v rfl) (ev_v rfl)) (ev_m1 (ev_v rfl)) (ev_mult ⟨small_of ha, small_of hb⟩ (mul_ok ha hb) (ev_v rfl) (ev_v rfl))
  refine seq_seq ?_
  refine seq_par (x := .int (meetL a b)) (y := .int (meetH a b)) (ev_max2 (ev_tix (ev_v rfl) rfl) (ev_tix (ev_v rfl) rfl)) (ev_min2 (ev_tix (ev_v rfl) rfl) (ev_tix (ev_v rfl) rfl)) ?_
  refine seq_seq ?_
  refine seq_asg (i := 11) (d := .tup [sp (joinS a b), osp (meetS a b)]) ?_ ?_
  · rw [join_ok ha hb, meet_ok ha hb]
    refine ev_tup2 (ev_near (ev_min2 (ev_tix (ev_v rfl) rfl) (ev_tix (ev_v rfl) rfl)) (ev_max2 (ev_tix (ev_v rfl) rfl) (ev_tix (ev_v rfl) rfl))) ?_
    refine eve_if (evt_ts (ev_gt (ev_v rfl) (ev_v rfl))) (fun e => ?_) (fun e => ?_)
    · rw [if_pos (of_decide_eq_true e)]; exact ev_c
    · rw [if_neg (of_decide_eq_false e)]; exact ev_near (ev_v rfl) (ev_v rfl)
  refine seq_seq ?_
  refine seq_if (k := false) (evt_not (k := true) (evt_tru (ev_same (x := .tup [sp (joinS a b), osp (meetS a b)]) ?_ (ev_tup2 (ev_m2 (ev_v rfl) (ev_v rfl)) (ev_m2 (ev_v rfl) (ev_v rfl))) (ev_v rfl)))) (fun z => by cases z) fun _ => seq_nx ?_
  · show ([sp _, osp _].all (plD 3) && decide _) = true
    simp only [List.all_cons, List.all_nil, pl_sp 2, pl_osp 2, Bool.and_true, Bool.true_and]
    rfl
  refine seq_seq ?_
  refine seq_if (k := false) (evt_not (k := true) (evt_tru (ev_same (x := .tup [.bl (withinB a b), sizS a]) ?_ (ev_tup2 (ev_m2 (f := fun a b => .bl (withinB a b)) (ev_v rfl) (ev_v rfl)) (ev_m1 (ev_v rfl))) ?_))) (fun z => by cases z) fun _ => seq_nx ?_
  · show ([D.bl _, sizS _].all (plD 3) && decide _) = true
    simp only [List.all_cons, List.all_nil, pl_siz 3, Bool.and_true, Bool.true_and]
    rfl
  · rw [← within_ok ha hb]
    refine ev_tup2 (ev_and (ev_le (ev_tix (ev_v rfl) rfl) (ev_tix (ev_v rfl) rfl)) fun _ => ev_le (ev_tix (ev_v rfl) rfl) (ev_tix (ev_v rfl) rfl)) ?_
    intro Q q
    obtain ⟨a1, a2⟩ := a
    cases a1 <;> cases a2 <;> exact ⟨rfl, rfl, q⟩
  refine seq_if (k := false) (evt_not (k := true) (evt_tru ?_)) (fun z => by cases z) fun _ => seq_nx ?_
  · have g := ev_all (bs := (rng (-24) 49).map fun _ => true) (by
      have g := ev_lcIy (wi := rgI2 (consW (unW wNeg (cW (.int 24))) (consW (cW (.int 25)) nilW))) (ρ := [some scr, some (.loc 1), some t, some (sp a), some (sp b), some (.tup [.int (farL a), .int (farH a)]), some (.tup [.int (farL b), .int (farH b)]), some (.lst ([farL a * farL b, farH a * farL b, farL a * farH b, farH a * farH b].map .int)),
        some (.tup [sp (nearS (farL a + farL b) (farH a + farH b)), sp (nearS (farL a - farH b) (farH a - farL b)), sp (nearS (-farH a) (-farL a)), sp (prodE a b)]), some (.int (meetL a b)), some (.int (meetH a b)), some (.tup [sp (joinS a b), osp (meetS a b)]), c12, c13, c14, c15, c16, c17]) (S := S) (i := 13) (vs := [13])
        (fe := clW (m_law_same 4) (consW (clW m_holds (consW (vW 3) (consW (vW 13) nilW))) (consW (clW m_law_in (consW (vW 3) (consW (vW 13) nilW))) nilW))) (ns := rng (-24) 49) (fun _ => .bl true) (by
          have g := wiv_r2 (ρ := [some scr, some (.loc 1), some t, some (sp a), some (sp b), some (.tup [.int (farL a), .int (farH a)]), some (.tup [.int (farL b), .int (farH b)]), some (.lst ([farL a * farL b, farH a * farL b, farL a * farH b, farH a * farH b].map .int)),
            some (.tup [sp (nearS (farL a + farL b) (farH a + farH b)), sp (nearS (farL a - farH b) (farH a - farL b)), sp (nearS (-farH a) (-farL a)), sp (prodE a b)]), some (.int (meetL a b)), some (.int (meetH a b)), some (.tup [sp (joinS a b), osp (meetS a b)]), c12, c13, c14, c15, c16, c17]) (S := S) (ev_neg (ev_c (d := .int 24))) (ev_c (d := .int 25)) (by decide) (by decide) (by decide) (by decide)
          rw [rngD_eq] at g
          exact g) (by rw [rng_len]; decide) fun n hn => ev_same (x := .bl (holdsB a n)) rfl (ev_mI (f := fun a n => .bl (holdsB a n)) (ev_v rfl) (ev_v rfl)) (ev_mI (f := fun a n => .bl (holdsB a n)) (ev_v rfl) (ev_v rfl))
      rw [List.map_map]
      exact g)
    have e : ((rng (-24) 49).map fun _ => true).all id = true := by simp
    rw [e] at g
    exact g
  · exact h _ _ _ _ _ _ _
end
end K40
namespace K40
open PySem PySem.Spec L2 DL
def b_great2 : WS :=
    (ifS (orW (notW (truW (clW (m_law_same 4) (consW (clW m_tamed (consW (tupW (consW (unW wNeg (vW 12)) (consW (vW 12) nilW))) nilW)) (consW (ifW (tsW (opW wGt (vW 12) (opW wPow (cW (.int 10)) (cW (.int 60))))) (tupW (consW (cW .non) (consW (cW .non) nilW))) (tupW (consW (unW wNeg (vW 12)) (consW (vW 12) nilW)))) nilW))))) (notW (truW (clW (m_law_same 4) (consW (clW m_tamed (consW (vW 3) nilW)) (consW (vW 3) nilW)))))) (retW (cW (.bl false))) nxW)
def b_great : WS :=
    (seqW (asgW (.nm 12) (opW wSub (opW wAdd (opW wPow (cW (.int 10)) (cW (.int 60))) (clW m_law_draw (consW (vW 1) (consW (cW (.int 3)) nilW)))) (cW (.int 1)))) b_great2)
def b_tail : WS :=
    (seqW (ifS (orW (notW (truW (clW m_law_divided (consW (vW 3) (consW (vW 4) nilW))))) (notW (truW (clW m_law_held (consW (vW 1) (consW (vW 3) (consW (vW 4) nilW))))))) (retW (cW (.bl false))) nxW)
    b_great)
theorem great_ok {a : SpT} (ha : InDom a) {ns : List Int} {s : Int} (k : Tk ns s) {scr t b : D} {c5 c6 c7 c8 c9 c10 c11 c12 c13 c14 c15 c16 c17 : Option D} {De : DEnds}
    (h : ∀ c12 ns s, Tk ns s → De.nx [some scr, some (.loc 1), some t, some (sp a), some b, c5, c6, c7, c8, c9, c10, c11, c12, c13, c14, c15, c16, c17] (tst ns s ++ [])) :
    b_great De [some scr, some (.loc 1), some t, some (sp a), some b, c5, c6, c7, c8, c9, c10, c11, c12, c13, c14, c15, c16, c17] (tst ns s ++ []) := by
  have c : CPow 10 60 := cpow (by decide) (by decide) (by decide)
  unfold b_great
  refine seq_asgQ ?_
  refine ⟨c, by decide, by decide, ns, s, [], rfl, k, fun r ns s r0 r1 k => ?_⟩
  show b_great2 De [some scr, some (.loc 1), some t, some (sp a), some b, c5, c6, c7, c8, c9, c10, c11, some (.int ((10 ^ 60 + r) - 1)), c13, c14, c15, c16, c17] (tst ns s ++ [])
  generalize (10 : Int) ^ 60 + r - 1 = g
  have e1 : ∀ (fe : WE) (ρ : Rho) (S : Store), EvE fe ρ S (sp (some (-g), some g)) → EvE (clW m_tamed (consW fe nilW)) ρ S (sp (if most < g then (none, none) else (some (-g), some g))) := fun fe ρ S h => by
    rw [← tam_great]
    exact ev_m1 h
  unfold b_great2
  have t1 := evt_or (k := false) (j := false) (ρ := [some scr, some (.loc 1), some t, some (sp a), some b, c5, c6, c7, c8, c9, c10, c11, some (.int g), c13, c14, c15, c16, c17]) (S := tst ns s ++ [])
    (ft := notW (truW (clW (m_law_same 4) (consW (clW m_tamed (consW (tupW (consW (unW wNeg (vW 12)) (consW (vW 12) nilW))) nilW)) (consW (ifW (tsW (opW wGt (vW 12) (opW wPow (cW (.int 10)) (cW (.int 60))))) (tupW (consW (cW .non) (consW (cW .non) nilW))) (tupW (consW (unW wNeg (vW 12)) (consW (vW 12) nilW)))) nilW)))))
    (fu := notW (truW (clW (m_law_same 4) (consW (clW m_tamed (consW (vW 3) nilW)) (consW (vW 3) nilW)))))
    (evt_not (k := true) (evt_tru (ev_same (pl_sp 3 _) (e1 _ _ _ (ev_tup2 (ev_neg (ev_v rfl)) (ev_v rfl))) (by
      refine eve_if (evt_ts (ev_gt (ev_v rfl) (n := most) fun Q q => ⟨c, q⟩)) (fun e => ?_) (fun e => ?_)
      · rw [if_pos (of_decide_eq_true e)]; exact ev_tup2 ev_c ev_c
      · rw [if_neg (of_decide_eq_false e)]; exact ev_tup2 (ev_neg (ev_v rfl)) (ev_v rfl)))))
    (fun _ => evt_not (k := true) (evt_tru (ev_same (pl_sp 3 a) (by
      have q := ev_m1 (f := fun a => sp (tamS a)) (ev_v (i := 3) (d := sp a) (ρ := [some scr, some (.loc 1), some t, some (sp a), some b, c5, c6, c7, c8, c9, c10, c11, some (.int g), c13, c14, c15, c16, c17]) (S := tst ns s ++ []) rfl)
      rw [tam_dom ha] at q
      exact q) (ev_v rfl))))
  refine t1 _ ?_
  exact h _ ns s k
theorem tail_ok {a b : SpT} (ha : InDom a) (hb : InDom b) {ns : List Int} {s : Int} (k : Tk ns s) {scr t : D} {c5 c6 c7 c8 c9 c10 c11 c12 c13 c14 c15 c16 c17 : Option D} {De : DEnds}
    (h : ∀ c12 ns s, Tk ns s → De.nx [some scr, some (.loc 1), some t, some (sp a), some (sp b), c5, c6, c7, c8, c9, c10, c11, c12, c13, c14, c15, c16, c17] (tst ns s ++ [])) :
    b_tail De [some scr, some (.loc 1), some t, some (sp a), some (sp b), c5, c6, c7, c8, c9, c10, c11, c12, c13, c14, c15, c16, c17] (tst ns s ++ []) := by
  unfold b_tail
  have hd : EvT (notW (truW (clW m_law_divided (consW (vW 3) (consW (vW 4) nilW))))) [some scr, some (.loc 1), some t, some (sp a), some (sp b), c5, c6, c7, c8, c9, c10, c11, c12, c13, c14, c15, c16, c17] (tst ns s ++ []) false := by
    refine evt_not (k := true) (evt_tru fun Q q => ?_)
    show m_law_divided [sp a, sp b] _ Q
    simp only [m_law_divided, spOf_sp]
    exact ⟨ha, hb, q⟩
  refine seq_ifQ (q_or hd (q_nottru (q_call3 (ev_v rfl) (ev_v rfl) (ev_v rfl) ?_)))
  simp only [m_law_held, spOf_sp]
  refine ⟨ns, s, [], rfl, k, fun ns s k => ?_⟩
  exact great_ok ha k h
/-- the end -/
def g_end : WS :=
    (seqW (asgW (.nm 14) (lstW (consW (tupW (consW (cW (.int 1)) (consW (cW (.int 0)) nilW))) (consW (tupW (consW (cW (.int 1)) nilW)) (consW (tupW (consW (cW (.int 1)) (consW (cW (.int 2)) (consW (cW (.int 3)) nilW)))) (consW (lstW (consW (cW (.int 1)) (consW (cW (.int 2)) nilW))) (consW (cW .non) (consW (cW (.int 5)) (consW (cW (.str "ab")) (consW (tupW (consW (cW (.bl true)) (consW (cW (.int 2)) nilW))) (consW (tupW (consW (cW (.int 1)) (consW (cW (.bl false)) nilW))) (consW (tupW (consW (cW .non) nilW)) (consW (tupW (consW (cW (.int 1)) (consW (cW (.str "a")) nilW))) (consW (tupW (consW (vW 13) (consW (opW wSub (vW 13) (cW (.int 1))) nilW))) nilW))))))))))))))
    (seqW (asgW (.nm 15) (lstW (consW (tupW (consW (vW 13) (consW (vW 13) nilW))) (consW (tupW (consW (cW .non) (consW (vW 13) nilW))) (consW (tupW (consW (vW 13) (consW (cW .non) nilW))) (consW (tupW (consW (cW .non) (consW (cW .non) nilW))) (consW (tupW (consW (vW 13) (consW (opW wAdd (vW 13) (cW (.int 3))) nilW))) nilW)))))))
    (retW (andV (clW (m_law_same 4) (consW (tupW (consW (cW (.tup [.non, .non])) (consW (clW m_of (consW (vW 13) nilW)) nilW))) (consW (tupW (consW (tupW (consW (cW .non) (consW (cW .non) nilW))) (consW (tupW (consW (vW 13) (consW (vW 13) nilW))) nilW))) nilW))) (andV (notV (clW wAny (consW (lcW (sqI (vW 14)) (.nm 17) yesW (clW m_is_span (consW (vW 17) nilW)) [17]) nilW))) (clW wAll (consW (lcW (sqI (vW 15)) (.nm 17) yesW (clW m_is_span (consW (vW 17) nilW)) [17]) nilW)))))))
def wrongs (n : Int) : List D := [.tup [.int 1, .int 0], .tup [.int 1], .tup [.int 1, .int 2, .int 3], .lst [.int 1, .int 2], .non, .int 5, .str "ab", .tup [.bl true, .int 2], .tup [.int 1, .bl false], .tup [.non], .tup [.int 1, .str "a"], .tup [.int n, .int (n - 1)]]
def rights (n : Int) : List D := [.tup [.int n, .int n], .tup [.non, .int n], .tup [.int n, .non], .tup [.non, .non], .tup [.int n, .int (n + 3)]]
def isB (d : D) : D := match isSpanB d with
  | some k => .bl k
  | none => .non
theorem wrongs_b (n : Int) : ∀ x ∈ wrongs n, isSpanB x = some false := by
  intro x hx
  simp only [wrongs, List.mem_cons, List.not_mem_nil, or_false] at hx
  rcases hx with rfl | rfl | rfl | rfl | rfl | rfl | rfl | rfl | rfl | rfl | rfl | rfl
  all_goals first | rfl | skip
  show some (true && true && decide (n ≤ n - 1)) = some false
  rw [decide_eq_false (by omega)]; rfl
theorem rights_b (n : Int) : ∀ x ∈ rights n, isSpanB x = some true := by
  intro x hx
  simp only [rights, List.mem_cons, List.not_mem_nil, or_false] at hx
  rcases hx with rfl | rfl | rfl | rfl | rfl
  · show some (true && true && decide (n ≤ n)) = some true
    rw [decide_eq_true (Int.le_refl n)]; rfl
  · rfl
  · rfl
  · rfl
  · show some (true && true && decide (n ≤ n + 3)) = some true
    rw [decide_eq_true (by omega)]; rfl
theorem ev_spans {ρ : Rho} {S : Store} {i j : Nat} {xs : List D} {k : Bool} (hj : ∀ x, lk ((wipeD ρ [j]).set j (some x)) j = some x) (h : lk ρ i = some (.lst xs)) (hx : ∀ x ∈ xs, isSpanB x = some k) (hl : xs.length < 100000) :
    EvE (lcW (sqI (vW i)) (.nm j) yesW (clW m_is_span (consW (vW j) nilW)) [j]) ρ S (.lst ((xs.map fun _ => k).map .bl)) := by
  intro Q q
  refine (wiv_l (ev_v h)) _ ⟨szl hl, ?_⟩
  refine comp_yes (fun _ => .bl k) trivial (fun x hm => ⟨_, rfl, ev_isspan (hx x hm) (ev_v (hj x))⟩) ?_
  rw [List.map_map] at q
  exact q
theorem end_ok {n : Int} {scr : D} {S : Store} {c1 c2 c3 c4 c5 c6 c7 c8 c9 c10 c11 c12 c14 c15 c16 c17 : Option D} {De : DEnds} (h : De.rt (.bl true) S) :
    g_end De [some scr, c1, c2, c3, c4, c5, c6, c7, c8, c9, c10, c11, c12, some (.int n), c14, c15, c16, c17] S := by
  unfold g_end
  refine seq_asg (i := 14) (d := .lst (wrongs n)) (fun Q q => ?_) ?_
  · exact ⟨sz2, sz1, sz3, sz2, sz2, sz2, sz1, sz2, sz2, sze (show (12 : Nat) ≤ 100000 by decide), q⟩
  refine seq_asg (i := 15) (d := .lst (rights n)) (fun Q q => ?_) ?_
  · exact ⟨sz2, sz2, sz2, sz2, sz2, sze (show (5 : Nat) ≤ 100000 by decide), q⟩
  have g := ev_and (k := true) (j := true) (ρ := [some scr, c1, c2, c3, c4, c5, c6, c7, c8, c9, c10, c11, c12, some (.int n), some (.lst (wrongs n)), some (.lst (rights n)), c16, c17]) (S := S)
    (fa := clW (m_law_same 4) (consW (tupW (consW (cW (.tup [.non, .non])) (consW (clW m_of (consW (vW 13) nilW)) nilW))) (consW (tupW (consW (tupW (consW (cW .non) (consW (cW .non) nilW))) (consW (tupW (consW (vW 13) (consW (vW 13) nilW))) nilW))) nilW)))
    (fb := andV (notV (clW wAny (consW (lcW (sqI (vW 14)) (.nm 17) yesW (clW m_is_span (consW (vW 17) nilW)) [17]) nilW))) (clW wAll (consW (lcW (sqI (vW 15)) (.nm 17) yesW (clW m_is_span (consW (vW 17) nilW)) [17]) nilW)))
    (ev_same (x := .tup [.tup [.non, .non], .tup [.int n, .int n]]) rfl (ev_tup2 ev_c fun Q q => q) (ev_tup2 (ev_tup2 ev_c ev_c) (ev_tup2 (ev_v rfl) (ev_v rfl))))
    (fun _ => by
      have a1 := ev_not (ev_any (ev_spans (ρ := [some scr, c1, c2, c3, c4, c5, c6, c7, c8, c9, c10, c11, c12, some (.int n), some (.lst (wrongs n)), some (.lst (rights n)), c16, c17]) (S := S) (i := 14) (j := 17) (fun x => rfl) rfl (wrongs_b n) (show (12 : Nat) < 100000 by decide)))
      have a2 := ev_all (ev_spans (ρ := [some scr, c1, c2, c3, c4, c5, c6, c7, c8, c9, c10, c11, c12, some (.int n), some (.lst (wrongs n)), some (.lst (rights n)), c16, c17]) (S := S) (i := 15) (j := 17) (fun x => rfl) rfl (rights_b n) (show (5 : Nat) < 100000 by decide))
      have a3 := ev_and a1 fun _ => a2
      exact a3)
  exact g _ h
theorem seqW_assoc (a b c : WS) : seqW (seqW a b) c = seqW a (seqW b c) := rfl
def b_spans : WS := (asgW (.tp [3, 4]) (tupW (consW (clW m_law_span (consW (vW 1) nilW)) (consW (clW m_law_span (consW (vW 1) nilW)) nilW))))
theorem g_law_eq : g_law = seqW (asgW (.nm 1) (clW m_law_tape (consW (vW 0) nilW))) (seqW (forW (rgI1 (consW (cW (.int 3)) nilW)) (.nm 2) (seqW b_spans (seqW b_pure b_tail))) (seqW (asgW (.nm 13) (opW wSub (clW m_law_draw (consW (vW 1) (consW (cW (.int 99)) nilW))) (cW (.int 49)))) g_end)) := by
  unfold g_law b_spans b_pure b_tail b_great b_great2 g_end
  simp only [seqW_assoc]
theorem seq_spans {scr t : D} {c3 c4 c5 c6 c7 c8 c9 c10 c11 c12 c13 c14 c15 c16 c17 : Option D} {De : DEnds} {rest : WS} {ns : List Int} {s : Int} (k : Tk ns s)
    (h : ∀ a b ns s, InDom a → InDom b → Tk ns s → rest De [some scr, some (.loc 1), some t, some (sp a), some (sp b), c5, c6, c7, c8, c9, c10, c11, c12, c13, c14, c15, c16, c17] (tst ns s ++ [])) :
    seqW b_spans rest De [some scr, some (.loc 1), some t, c3, c4, c5, c6, c7, c8, c9, c10, c11, c12, c13, c14, c15, c16, c17] (tst ns s ++ []) := by
  unfold b_spans
  exact ⟨ns, s, [], rfl, k, fun a ns s ha k => ⟨ns, s, [], rfl, k, fun b ns s hb k => ⟨sz2, h a b ns s ha hb k⟩⟩⟩
theorem turn_ok {scr t : D} {c3 c4 c5 c6 c7 c8 c9 c10 c11 c12 c13 c14 c15 c16 c17 : Option D} {De : DEnds} {ns : List Int} {s : Int} (k : Tk ns s)
    (h : ∀ c3 c4 c5 c6 c7 c8 c9 c10 c11 c12 ns s, Tk ns s → De.nx [some scr, some (.loc 1), some t, c3, c4, c5, c6, c7, c8, c9, c10, c11, c12, c13, c14, c15, c16, c17] (tst ns s ++ [])) :
    seqW b_spans (seqW b_pure b_tail) De [some scr, some (.loc 1), some t, c3, c4, c5, c6, c7, c8, c9, c10, c11, c12, c13, c14, c15, c16, c17] (tst ns s ++ []) :=
  seq_spans k fun a b ns s ha hb k => pure_ok ha hb b_tail fun c5 c6 c7 c8 c9 c10 c11 => tail_ok ha hb k fun c12 ns s k => h _ _ _ _ _ _ _ _ _ c12 ns s k
def RhoOk (scr : D) (ρ : Rho) : Prop := ∃ (c2 c3 c4 c5 c6 c7 c8 c9 c10 c11 c12 c13 c14 c15 c16 c17 : Option D), ρ = [some scr, some (.loc 1), c2, c3, c4, c5, c6, c7, c8, c9, c10, c11, c12, c13, c14, c15, c16, c17]
theorem turn_all {scr : D} {De : DEnds} {ns : List Int} {s : Int} {ρ : Rho} {x : D} (k : Tk ns s) (hr : RhoOk scr ρ) (h : ∀ ρ ns s, RhoOk scr ρ → Tk ns s → De.nx ρ (tst ns s ++ [])) : seqW b_spans (seqW b_pure b_tail) De (ρ.set 2 (some x)) (tst ns s ++ []) := by
  obtain ⟨c2, c3, c4, c5, c6, c7, c8, c9, c10, c11, c12, c13, c14, c15, c16, c17, rfl⟩ := hr
  exact turn_ok k fun c3 c4 c5 c6 c7 c8 c9 c10 c11 c12 ns s k => h _ ns s ⟨_, _, _, _, _, _, _, _, _, _, _, _, _, _, _, _, rfl⟩ k
theorem q_drawsub {ρ : Rho} {i : Nat} {many c : Int} {J : Store} {ns : List Int} {s : Int} {Q : DQ} (h : lk ρ i = some (.loc 1)) (h0 : 0 < many) (h1 : many < 1000000) (k : Tk ns s)
    (q : ∀ r ns s, 0 ≤ r → r < many → Tk ns s → Q (.int (r - c)) (tst ns s ++ J)) : opW wSub (clW m_draw (consW (vW i) (consW (cW (.int many)) nilW))) (cW (.int c)) ρ (tst ns s ++ J) Q := by
  refine (ev_v h) _ ?_
  exact ⟨h0, h1, ns, s, J, rfl, k, fun r ns s r0 r1 k => q r ns s r0 r1 k⟩
theorem end_all {scr : D} {De : DEnds} {ns : List Int} {s : Int} {ρ : Rho} (k : Tk ns s) (hr : RhoOk scr ρ) (h : ∀ S, De.rt (.bl true) S) : seqW (asgW (.nm 13) (opW wSub (clW m_law_draw (consW (vW 1) (consW (cW (.int 99)) nilW))) (cW (.int 49)))) g_end De ρ (tst ns s ++ []) := by
  obtain ⟨c2, c3, c4, c5, c6, c7, c8, c9, c10, c11, c12, c13, c14, c15, c16, c17, rfl⟩ := hr
  refine seq_asgQ ?_
  refine q_drawsub rfl (by decide) (by decide) k fun r ns s r0 r1 k => ?_
  exact end_ok (h _)
theorem loop_all {scr : D} {Dd : DEnds} {ns : List Int} {s : Int} {ρ : Rho} (k : Tk ns s) (hr : RhoOk scr ρ) (h : ∀ S, Dd.rt (.bl true) S) :
    seqW (forW (rgI1 (consW (cW (.int 3)) nilW)) (.nm 2) (seqW b_spans (seqW b_pure b_tail))) (seqW (asgW (.nm 13) (opW wSub (clW m_law_draw (consW (vW 1) (consW (cW (.int 99)) nilW))) (cW (.int 49)))) g_end) Dd ρ (tst ns s ++ []) := by
  have w : DL.WIv (rgI1 (consW (cW (.int 3)) nilW)) ρ (tst ns s ++ []) (rngD 0 3) := wiv_r1 (n := 3) DL.ev_c (by decide) (by decide)
  refine seq_for w ?_
  refine for_inv (fun xs ρ S => RhoOk scr ρ ∧ ∃ ns s, S = tst ns s ++ [] ∧ Tk ns s) ?_ _ _ _ ⟨hr, ns, s, rfl, k⟩ ?_
  · rintro x xs ρ S ⟨hr, ns, s, rfl, k⟩
    exact ⟨trivial, _, rfl, fun De h1 _ _ _ => turn_all k hr fun ρ ns s hr k => h1 _ _ ⟨hr, ns, s, rfl, k⟩⟩
  · rintro ρ S ⟨hr, ns, s, rfl, k⟩
    exact ⟨trivial, end_all k hr h⟩
theorem sp_law (ds : List D) (S : Store) (Q : DQ) (hS : S.all (Cell.blw S.length) = true) (h : m_law ds S Q) : g_law (D0 S Q) (startD ["script", "tape", "turn", "one", "other", "a", "b", "ends", "due", "low", "high", "known", "great", "number", "wrong", "right", "left", "value"] ds) S := by
  unfold m_law at h
  split at h
  · split at h
    · rename_i xs ns e
      obtain rfl := of_intsOf e
      obtain ⟨hl, rfl, q⟩ := h
      generalize hD : D0 [] Q = Dd
      have hrt : ∀ S', Dd.rt (.bl true) S' := fun S' => by subst hD; exact .inl (q S')
      clear hD q
      rw [g_law_eq]
      refine seq_asgQ ?_
      refine q_call1 (ev_v (d := .rol (ns.map .int)) rfl) ?_
      simp only [m_law_tape, m_tape, intsOf_map]
      refine ⟨hl, trivial, fun ns0 s0 k0 => ?_⟩
      exact loop_all (scr := D.rol (ns.map D.int)) k0 ⟨_, _, _, _, _, _, _, _, _, _, _, _, _, _, _, _, rfl⟩ hrt
    · exact h.elim
  · exact h.elim
end K40
namespace K40
open PySem PySem.Spec PyProof.Rows L2 DL
theorem l_tamed (ds : List D) (S : Store) (Q : DQ) (h : m_tamed ds S Q) : ds.length = 1 := by
  obtain ⟨_, rfl, _⟩ := m1_inv h; rfl
theorem l_contrary (ds : List D) (S : Store) (Q : DQ) (h : m_contrary ds S Q) : ds.length = 1 := by
  obtain ⟨_, rfl, _⟩ := m1_inv h; rfl
theorem l_size_of (ds : List D) (S : Store) (Q : DQ) (h : m_size_of ds S Q) : ds.length = 1 := by
  obtain ⟨_, rfl, _⟩ := m1_inv h; rfl
theorem l_end_signs (ds : List D) (S : Store) (Q : DQ) (h : m_end_signs ds S Q) : ds.length = 1 := by
  obtain ⟨_, rfl, _⟩ := m1_inv h; rfl
theorem l_known_ends (ds : List D) (S : Store) (Q : DQ) (h : m_known_ends ds S Q) : ds.length = 1 := by
  obtain ⟨_, rfl, _⟩ := m1_inv h; rfl
theorem l_law_far (ds : List D) (S : Store) (Q : DQ) (h : m_law_far ds S Q) : ds.length = 1 := by
  obtain ⟨_, rfl, _⟩ := m1_inv h; rfl
theorem l_law_numbers (ds : List D) (S : Store) (Q : DQ) (h : m_law_numbers ds S Q) : ds.length = 1 := by
  obtain ⟨_, rfl, _⟩ := m1_inv h; rfl
theorem l_is_within (ds : List D) (S : Store) (Q : DQ) (h : m_is_within ds S Q) : ds.length = 2 := by
  obtain ⟨_, _, rfl, _⟩ := m2_inv h; rfl
theorem l_join (ds : List D) (S : Store) (Q : DQ) (h : m_join ds S Q) : ds.length = 2 := by
  obtain ⟨_, _, rfl, _⟩ := m2_inv h; rfl
theorem l_meet (ds : List D) (S : Store) (Q : DQ) (h : m_meet ds S Q) : ds.length = 2 := by
  obtain ⟨_, _, rfl, _⟩ := m2_inv h; rfl
theorem l_narrow (ds : List D) (S : Store) (Q : DQ) (h : m_narrow ds S Q) : ds.length = 2 := by
  obtain ⟨_, _, rfl, _⟩ := m2_inv h; rfl
theorem l_add (ds : List D) (S : Store) (Q : DQ) (h : m_add ds S Q) : ds.length = 2 := by
  obtain ⟨_, _, rfl, _⟩ := m2_inv h; rfl
theorem l_subtract (ds : List D) (S : Store) (Q : DQ) (h : m_subtract ds S Q) : ds.length = 2 := by
  obtain ⟨_, _, rfl, _⟩ := m2_inv h; rfl
theorem l_remainder (ds : List D) (S : Store) (Q : DQ) (h : m_remainder ds S Q) : ds.length = 2 := by
  obtain ⟨_, _, rfl, _⟩ := m2_inv h; rfl
theorem l_holds (ds : List D) (S : Store) (Q : DQ) (h : m_holds ds S Q) : ds.length = 2 := by
  obtain ⟨_, _, rfl, _⟩ := mI_inv h; rfl
theorem l_law_in (ds : List D) (S : Store) (Q : DQ) (h : m_law_in ds S Q) : ds.length = 2 := by
  obtain ⟨_, _, rfl, _⟩ := mI_inv h; rfl
theorem l_is_span (ds : List D) (S : Store) (Q : DQ) (h : m_is_span ds S Q) : ds.length = 1 := by
  unfold m_is_span at h
  split at h
  · rfl
  · exact h.elim
theorem l_of (ds : List D) (S : Store) (Q : DQ) (h : m_of ds S Q) : ds.length = 1 := by
  unfold m_of at h
  split at h
  · rfl
  · exact h.elim
theorem l_law_span (ds : List D) (S : Store) (Q : DQ) (h : m_law_span ds S Q) : ds.length = 1 := by
  unfold m_law_span at h
  split at h
  · rfl
  · exact h.elim
theorem l_law_near (ds : List D) (S : Store) (Q : DQ) (h : m_law_near ds S Q) : ds.length = 2 := by
  unfold m_law_near at h
  split at h
  · rfl
  · exact h.elim
theorem l_law_divided (ds : List D) (S : Store) (Q : DQ) (h : m_law_divided ds S Q) : ds.length = 2 := by
  unfold m_law_divided at h
  split at h
  · rfl
  · exact h.elim
theorem l_law_held (ds : List D) (S : Store) (Q : DQ) (h : m_law_held ds S Q) : ds.length = 3 := by
  unfold m_law_held at h
  split at h
  · rfl
  · exact h.elim
theorem l_widen (ds : List D) (S : Store) (Q : DQ) (h : m_widen ds S Q) : ds.length = 3 := by
  unfold m_widen at h
  split at h
  · rfl
  · exact h.elim
theorem l_open_towards (ds : List D) (S : Store) (Q : DQ) (h : m_open_towards ds S Q) : ds.length = 3 := by
  unfold m_open_towards at h
  split at h
  · rfl
  · exact h.elim
theorem l_least_product (ds : List D) (S : Store) (Q : DQ) (h : m_least_product ds S Q) : ds.length = 2 := by
  unfold m_least_product at h
  split at h
  · rfl
  · exact h.elim
theorem l_greatest_product (ds : List D) (S : Store) (Q : DQ) (h : m_greatest_product ds S Q) : ds.length = 2 := by
  unfold m_greatest_product at h
  split at h
  · rfl
  · exact h.elim
theorem l_multiply (ds : List D) (S : Store) (Q : DQ) (h : m_multiply ds S Q) : ds.length = 2 := by
  unfold m_multiply at h
  split at h
  · rfl
  · exact h.elim
theorem l_by_part (ds : List D) (S : Store) (Q : DQ) (h : m_by_part ds S Q) : ds.length = 2 := by
  unfold m_by_part at h
  split at h
  · rfl
  · exact h.elim
theorem l_divide (ds : List D) (S : Store) (Q : DQ) (h : m_divide ds S Q) : ds.length = 2 := by
  unfold m_divide at h
  split at h
  · rfl
  · exact h.elim
theorem l_law (ds : List D) (S : Store) (Q : DQ) (h : m_law ds S Q) : ds.length = 1 := by
  unfold m_law at h
  split at h
  · rfl
  · exact h.elim
theorem l_law_tape (ds : List D) (S : Store) (Q : DQ) (h : m_law_tape ds S Q) : ds.length = 1 := l_tape ds S Q h
theorem l_law_draw (ds : List D) (S : Store) (Q : DQ) (h : m_law_draw ds S Q) : ds.length = 2 := l_draw ds S Q h
theorem l_law_pick (ds : List D) (S : Store) (Q : DQ) (h : m_law_pick ds S Q) : ds.length = 2 := l_pick ds S Q h
theorem l_law_same (n : Nat) (ds : List D) (S : Store) (Q : DQ) (h : m_law_same n ds S Q) : ds.length = 2 := l_same n ds S Q h
section
variable {P : Program} {w : World} {K : PySem.W.Frag} {mg : Str → Option Value} {base : Heap}
theorem ok_is_span (T : Txt K mg) : FnOk P w K mg base (L2.CX P w) 1 T.f_is_span T.fd_is_span ["value"] (spD K mg m_is_span) :=
  fn_data T.F_is_span sc_is_span l_is_span (fun cdv A outer s H E b hr =>
    (dss_cons (ds_if (DW.pt (dw_or (dt_not (dt_tru (de_isi (by rfl) T.n_isinstance (da_cons (de_v 0) (da_cons (de_ty (x := "tuple") (n := "tuple") (by rfl) T.n_tuple (by decide +kernel)) da_nil))))) (dw_or1 (dt_ne hr (de_len (by rfl) T.n_len (da_cons (de_v 0) da_nil)) de_int)))) (dss_one (ds_ret de_bl)) dss_nil)
    (dss_cons (ds_for PassesOwn.never rfl (di_seq (de_v 0)) (dg_nm (i := 1) sc_is_span.nd rfl (.inl rfl)) (dss_one (ds_if (DW.pt (dw_and (dt_isnt (de_v 1) de_non) (dw_and1 (DW.pt (dw_or (dt_tru (de_isi (by rfl) T.n_isinstance (da_cons (de_v 1) (da_cons (de_ty (x := "bool") (n := "bool") (by rfl) T.n_bool (by decide +kernel)) da_nil)))) (dw_or1 (dt_not (dt_tru (de_isi (by rfl) T.n_isinstance (da_cons (de_v 1) (da_cons (de_ty (x := "int") (n := "int") (by rfl) T.n_int (by decide +kernel)) da_nil))))))))))) (dss_one (ds_ret de_bl)) dss_nil)))
    (dss_one (ds_ret (de_or (de_in de_non (de_v 0)) (de_one (de_le (de_ix (de_v 0) de_int) (de_ix (de_v 0) de_int))))))))) sp_is_span

theorem ok_of (T : Txt K mg) : FnOk P w K mg base (L2.CX P w) 1 T.f_of T.fd_of ["number"] (spD K mg m_of) :=
  fn_data T.F_of sc_of l_of (fun cdv A outer s H E b hr =>
    (dss_one (ds_ret (de_tup (da_cons (de_v 0) (da_cons (de_v 0) da_nil)))))) sp_of

theorem ok_tamed (T : Txt K mg) : FnOk P w K mg base (L2.CX P w) 1 T.f_tamed T.fd_tamed ["one"] (spD K mg m_tamed) :=
  fn_data T.F_tamed sc_tamed l_tamed (fun cdv A outer s H E b hr =>
    (dss_cons (ds_asg (de_v 0) (dg_tp rfl (dgs_cons (dg_nm (i := 1) sc_tamed.nd rfl (.inl rfl)) (dgs_cons (dg_nm (i := 2) sc_tamed.nd rfl (.inl rfl)) dgs_nil))))
    (dss_cons (ds_set 1 sc_tamed.nd rfl (.inl rfl) (de_if (DW.pt (dw_and (dt_isnt (de_v 1) de_non) (dw_and1 (dt_lt (de_v 1) (de_neg (T.c_MOST rfl rfl (by rfl))))))) de_non (de_v 1)))
    (dss_one (ds_ret (de_tup (da_cons (de_v 1) (da_cons (de_if (DW.pt (dw_and (dt_isnt (de_v 2) de_non) (dw_and1 (dt_gt (de_v 2) (T.c_MOST rfl rfl (by rfl)))))) de_non (de_v 2)) da_nil)))))))) sp_tamed

theorem ok_holds (T : Txt K mg) : FnOk P w K mg base (L2.CX P w) 1 T.f_holds T.fd_holds ["one", "number"] (spD K mg m_holds) :=
  fn_data T.F_holds sc_holds l_holds (fun cdv A outer s H E b hr =>
    (dss_one (ds_ret (de_and (de_or (de_is (de_ix (de_v 0) de_int) de_non) (de_one (de_le (de_ix (de_v 0) de_int) (de_v 1)))) (de_one (de_or (de_is (de_ix (de_v 0) de_int) de_non) (de_one (de_le (de_v 1) (de_ix (de_v 0) de_int))))))))) sp_holds

theorem ok_is_within (T : Txt K mg) : FnOk P w K mg base (L2.CX P w) 1 T.f_is_within T.fd_is_within ["one", "other"] (spD K mg m_is_within) :=
  fn_data T.F_is_within sc_is_within l_is_within (fun cdv A outer s H E b hr =>
    (dss_cons (ds_set 2 sc_is_within.nd rfl (.inl rfl) (de_or (de_is (de_ix (de_v 1) de_int) de_non) (de_one (de_and (de_isnt (de_ix (de_v 0) de_int) de_non) (de_one (de_le (de_ix (de_v 1) de_int) (de_ix (de_v 0) de_int)))))))
    (dss_one (ds_ret (de_and (de_v 2) (de_one (de_or (de_is (de_ix (de_v 1) de_int) de_non) (de_one (de_and (de_isnt (de_ix (de_v 0) de_int) de_non) (de_one (de_le (de_ix (de_v 0) de_int) (de_ix (de_v 1) de_int)))))))))))) sp_is_within

theorem ok_join (T : Txt K mg) : FnOk P w K mg base (L2.CX P w) 1 T.f_join T.fd_join ["one", "other"] (spD K mg m_join) :=
  fn_data T.F_join sc_join l_join (fun cdv A outer s H E b hr =>
    (dss_cons (ds_set 2 sc_join.nd rfl (.inl rfl) (de_if (DW.pt (dw_or (dt_is (de_ix (de_v 0) de_int) de_non) (dw_or1 (dt_is (de_ix (de_v 1) de_int) de_non)))) de_non (de_min rfl (by rfl) T.n_min (da_cons (de_ix (de_v 0) de_int) (da_cons (de_ix (de_v 1) de_int) da_nil)))))
    (dss_one (ds_ret (de_tup (da_cons (de_v 2) (da_cons (de_if (DW.pt (dw_or (dt_is (de_ix (de_v 0) de_int) de_non) (dw_or1 (dt_is (de_ix (de_v 1) de_int) de_non)))) de_non (de_max rfl (by rfl) T.n_max (da_cons (de_ix (de_v 0) de_int) (da_cons (de_ix (de_v 1) de_int) da_nil)))) da_nil))))))) sp_join

theorem ok_meet (T : Txt K mg) : FnOk P w K mg base (L2.CX P w) 1 T.f_meet T.fd_meet ["one", "other"] (spD K mg m_meet) :=
  fn_data T.F_meet sc_meet l_meet (fun cdv A outer s H E b hr =>
    (dss_cons (ds_set 2 sc_meet.nd rfl (.inl rfl) (de_if (dt_is (de_ix (de_v 1) de_int) de_non) (de_ix (de_v 0) de_int) (de_if (dt_is (de_ix (de_v 0) de_int) de_non) (de_ix (de_v 1) de_int) (de_max rfl (by rfl) T.n_max (da_cons (de_ix (de_v 0) de_int) (da_cons (de_ix (de_v 1) de_int) da_nil))))))
    (dss_cons (ds_set 3 sc_meet.nd rfl (.inl rfl) (de_if (dt_is (de_ix (de_v 1) de_int) de_non) (de_ix (de_v 0) de_int) (de_if (dt_is (de_ix (de_v 0) de_int) de_non) (de_ix (de_v 1) de_int) (de_min rfl (by rfl) T.n_min (da_cons (de_ix (de_v 0) de_int) (da_cons (de_ix (de_v 1) de_int) da_nil))))))
    (dss_one (ds_ret (de_if (DW.pt (dw_and (dt_isnt (de_v 2) de_non) (dw_and (dt_isnt (de_v 3) de_non) (dw_and1 (dt_gt (de_v 2) (de_v 3)))))) de_non (de_tup (da_cons (de_v 2) (da_cons (de_v 3) da_nil))))))))) sp_meet

theorem ok_widen (T : Txt K mg) : FnOk P w K mg base (L2.CX P w) 1 T.f_widen T.fd_widen ["one", "other", "marks"] (spD K mg m_widen) :=
  fn_data T.F_widen sc_widen l_widen (fun cdv A outer s H E b hr =>
    (dss_cons (ds_asg (de_v 0) (dg_tp rfl (dgs_cons (dg_nm (i := 3) sc_widen.nd rfl (.inl rfl)) (dgs_cons (dg_nm (i := 4) sc_widen.nd rfl (.inl rfl)) dgs_nil))))
    (dss_cons (ds_if (DW.pt (dw_and (dt_isnt (de_v 3) de_non) (dw_and1 (DW.pt (dw_or (dt_is (de_ix (de_v 1) de_int) de_non) (dw_or1 (dt_lt (de_ix (de_v 1) de_int) (de_v 3)))))))) (dss_cons (ds_setLc 5 rfl sc_widen.nd (by decide) rfl rfl (sw_true rfl rfl rfl rfl) (di_seq (de_v 2)) (blkOk_by (own := [("mark", 7)]) rfl) (fun _ _ _ _ _ => (dg_nm (i := 7) sc_widen.nd rfl (.inl rfl))) (fun _ _ _ _ _ => (dts_one (DW.pt (dw_and (dt_isnt (de_ix (de_v 1) de_int) de_non) (dw_and1 (dt_le (de_v 7) (de_ix (de_v 1) de_int))))))) (fun _ _ _ _ _ => (de_v 7)))
    (dss_one (ds_set 3 sc_widen.nd rfl (.inl rfl) (de_if (dt_ne hr (de_v 5) (de_lst da_nil)) (de_ix (de_v 5) (de_neg de_int)) de_non)))) dss_nil)
    (dss_cons (ds_if (DW.pt (dw_and (dt_isnt (de_v 4) de_non) (dw_and1 (DW.pt (dw_or (dt_is (de_ix (de_v 1) de_int) de_non) (dw_or1 (dt_gt (de_ix (de_v 1) de_int) (de_v 4)))))))) (dss_cons (ds_setLc 6 rfl sc_widen.nd (by decide) rfl rfl (sw_true rfl rfl rfl rfl) (di_seq (de_v 2)) (blkOk_by (own := [("mark", 7)]) rfl) (fun _ _ _ _ _ => (dg_nm (i := 7) sc_widen.nd rfl (.inl rfl))) (fun _ _ _ _ _ => (dts_one (DW.pt (dw_and (dt_isnt (de_ix (de_v 1) de_int) de_non) (dw_and1 (dt_ge (de_v 7) (de_ix (de_v 1) de_int))))))) (fun _ _ _ _ _ => (de_v 7)))
    (dss_one (ds_set 4 sc_widen.nd rfl (.inl rfl) (de_if (dt_ne hr (de_v 6) (de_lst da_nil)) (de_ix (de_v 6) de_int) de_non)))) dss_nil)
    (dss_one (ds_ret (de_tup (da_cons (de_v 3) (da_cons (de_v 4) da_nil))))))))) sp_widen

theorem ok_narrow (T : Txt K mg) : FnOk P w K mg base (L2.CX P w) 1 T.f_narrow T.fd_narrow ["one", "other"] (spD K mg m_narrow) :=
  fn_data T.F_narrow sc_narrow l_narrow (fun cdv A outer s H E b hr =>
    (dss_one (ds_ret (de_tup (da_cons (de_if (dt_is (de_ix (de_v 0) de_int) de_non) (de_ix (de_v 1) de_int) (de_ix (de_v 0) de_int)) (da_cons (de_if (dt_is (de_ix (de_v 0) de_int) de_non) (de_ix (de_v 1) de_int) (de_ix (de_v 0) de_int)) da_nil)))))) sp_narrow

theorem ok_add (T : Txt K mg) : FnOk P w K mg base (L2.CX P w) 1 T.f_add T.fd_add ["one", "other"] (spD K mg m_add) :=
  fn_data T.F_add sc_add l_add (fun cdv A outer s H E b hr =>
    (dss_cons (ds_set 2 sc_add.nd rfl (.inl rfl) (de_if (DW.pt (dw_or (dt_is (de_ix (de_v 0) de_int) de_non) (dw_or1 (dt_is (de_ix (de_v 1) de_int) de_non)))) de_non (de_add (de_ix (de_v 0) de_int) (de_ix (de_v 1) de_int))))
    (dss_one (ds_ret (de_tup (da_cons (de_v 2) (da_cons (de_if (DW.pt (dw_or (dt_is (de_ix (de_v 0) de_int) de_non) (dw_or1 (dt_is (de_ix (de_v 1) de_int) de_non)))) de_non (de_add (de_ix (de_v 0) de_int) (de_ix (de_v 1) de_int))) da_nil))))))) sp_add

theorem ok_contrary (T : Txt K mg) : FnOk P w K mg base (L2.CX P w) 1 T.f_contrary T.fd_contrary ["one"] (spD K mg m_contrary) :=
  fn_data T.F_contrary sc_contrary l_contrary (fun cdv A outer s H E b hr =>
    (dss_one (ds_ret (de_tup (da_cons (de_if (dt_is (de_ix (de_v 0) de_int) de_non) de_non (de_neg (de_ix (de_v 0) de_int))) (da_cons (de_if (dt_is (de_ix (de_v 0) de_int) de_non) de_non (de_neg (de_ix (de_v 0) de_int))) da_nil)))))) sp_contrary

theorem ok_size_of (T : Txt K mg) : FnOk P w K mg base (L2.CX P w) 1 T.f_size_of T.fd_size_of ["one"] (spD K mg m_size_of) :=
  fn_data T.F_size_of sc_size_of l_size_of (fun cdv A outer s H E b hr =>
    (dss_one (ds_ret (de_if (dt_in de_non (de_v 0)) de_non (de_add (de_sub (de_ix (de_v 0) de_int) (de_ix (de_v 0) de_int)) de_int))))) sp_size_of

theorem ok_law_tape (T : Txt K mg) : FnOk P w K mg base (L2.CX P w) 1 T.f_law_tape T.fd_law_tape ["script"] (spD K mg m_law_tape) :=
  fn_data T.F_law_tape sc_law_tape l_law_tape (fun cdv A outer s H E b hr =>
    (dss_cons (ds_set 1 sc_law_tape.nd rfl (.inl rfl) de_int)
    (dss_cons (ds_for PassesOwn.never rfl (di_seq (de_v 0)) (dg_nm (i := 2) sc_law_tape.nd rfl (.inl rfl)) (dss_one (ds_set 1 sc_law_tape.nd rfl (.inl rfl) (de_mod (de_int1 (by rfl) T.n_int (da_cons (de_add (de_mul (de_v 1) de_int) (de_v 2)) da_nil)) de_int))))
    (dss_one (ds_ret (de_lstN (da_cons (de_lcN rfl sc_law_tape.nd (by decide) (di_seq (de_v 0)) (blkOk_by (own := [("cell", 2)]) rfl) (fun _ _ _ _ _ => (dg_nm (i := 2) sc_law_tape.nd rfl (.inl rfl))) (fun _ _ _ _ _ => dts_nil) (fun _ _ _ _ _ => (de_abs (by rfl) T.n_abs (da_cons (de_int1 (by rfl) T.n_int (da_cons (de_v 2) da_nil)) da_nil)))) (da_cons (de_add (de_v 1) de_int) da_nil)))))))) sp_law_tape

theorem ok_law_draw (T : Txt K mg) : FnOk P w K mg base (L2.CX P w) 1 T.f_law_draw T.fd_law_draw ["tape", "many"] (spD K mg m_law_draw) :=
  fn_data T.F_law_draw sc_law_draw l_law_draw (fun cdv A outer s H E b hr =>
    (dss_cons (ds_set 2 sc_law_draw.nd rfl (.inl rfl) (de_ix (de_v 0) de_int))
    (dss_cons (ds_while PassesOwn.never (DW.pt (dw_and (dt_gt (de_len (by rfl) T.n_len (da_cons (de_v 2) da_nil)) de_int) (dw_and1 (dt_eq hr (de_ix (de_v 2) de_int) de_int)))) (dss_one (ds_expr (de_popAt (de_v 2) de_int))))
    (dss_cons (ds_if (dt_gt (de_len (by rfl) T.n_len (da_cons (de_v 2) da_nil)) de_int) (dss_cons (ds_set 3 sc_law_draw.nd rfl (.inl rfl) (de_ix (de_v 2) de_int))
    (dss_cons (ds_put (de_div (de_v 3) (de_v 1)) (de_v 2) de_int)
    (dss_one (ds_ret (de_mod (de_int1 (by rfl) T.n_int (da_cons (de_v 3) da_nil)) (de_v 1)))))) dss_nil)
    (dss_cons (ds_put (de_mod (de_int1 (by rfl) T.n_int (da_cons (de_add (de_mul (de_ix (de_v 0) de_int) de_int) de_int) da_nil)) de_int) (de_v 0) de_int)
    (dss_one (ds_ret (de_mod (de_int1 (by rfl) T.n_int (da_cons (de_div (de_ix (de_v 0) de_int) de_int) da_nil)) (de_v 1))))))))) sp_law_draw

theorem ok_law_far (T : Txt K mg) : FnOk P w K mg base (L2.CX P w) 1 T.f_law_far T.fd_law_far ["span"] (spD K mg m_law_far) :=
  fn_data T.F_law_far sc_law_far l_law_far (fun cdv A outer s H E b hr =>
    (dss_one (ds_ret (de_tup (da_cons (de_if (dt_is (de_ix (de_v 0) de_int) de_non) (de_neg (de_pow de_int de_int)) (de_ix (de_v 0) de_int)) (da_cons (de_if (dt_is (de_ix (de_v 0) de_int) de_non) (de_pow de_int de_int) (de_ix (de_v 0) de_int)) da_nil)))))) sp_law_far

theorem ok_law_near (T : Txt K mg) : FnOk P w K mg base (L2.CX P w) 1 T.f_law_near T.fd_law_near ["low", "high"] (spD K mg m_law_near) :=
  fn_data T.F_law_near sc_law_near l_law_near (fun cdv A outer s H E b hr =>
    (dss_one (ds_ret (de_tup (da_cons (de_if (dt_lt (de_v 0) (de_neg (de_pow de_int de_int))) de_non (de_v 0)) (da_cons (de_if (dt_gt (de_v 1) (de_pow de_int de_int)) de_non (de_v 1)) da_nil)))))) sp_law_near

theorem ok_law_numbers (T : Txt K mg) : FnOk P w K mg base (L2.CX P w) 1 T.f_law_numbers T.fd_law_numbers ["span"] (spD K mg m_law_numbers) :=
  fn_data T.F_law_numbers sc_law_numbers l_law_numbers (fun cdv A outer s H E b hr =>
    (dss_one (ds_ret (de_lc rfl sc_law_numbers.nd (by decide) (di_range2 (by rfl) T.n_range (da_cons (de_neg de_int) (da_cons de_int da_nil))) (blkOk_by (own := [("number", 1)]) rfl) (fun _ _ _ _ _ => (dg_nm (i := 1) sc_law_numbers.nd rfl (.inl rfl))) (fun _ _ _ _ _ => (dts_one (DW.pt (dw_and (DW.pt (dw_or (dt_is (de_ix (de_v 0) de_int) de_non) (dw_or1 (dt_ge (de_v 1) (de_ix (de_v 0) de_int))))) (dw_and1 (DW.pt (dw_or (dt_is (de_ix (de_v 0) de_int) de_non) (dw_or1 (dt_le (de_v 1) (de_ix (de_v 0) de_int)))))))))) (fun _ _ _ _ _ => (de_v 1)))))) sp_law_numbers

theorem ok_law_in (T : Txt K mg) : FnOk P w K mg base (L2.CX P w) 1 T.f_law_in T.fd_law_in ["span", "number"] (spD K mg m_law_in) :=
  fn_data T.F_law_in sc_law_in l_law_in (fun cdv A outer s H E b hr =>
    (dss_one (ds_ret (de_and (de_or (de_is (de_ix (de_v 0) de_int) de_non) (de_one (de_le (de_ix (de_v 0) de_int) (de_v 1)))) (de_one (de_or (de_is (de_ix (de_v 0) de_int) de_non) (de_one (de_le (de_v 1) (de_ix (de_v 0) de_int))))))))) sp_law_in

theorem ok_subtract (T : Txt K mg) : FnOk P w K mg base (L2.CX P w) 2 T.f_subtract T.fd_subtract ["one", "other"] (spD K mg m_subtract) :=
  fn_data T.F_subtract sc_subtract l_subtract (fun cdv A outer s H E b hr =>
    (dss_one (ds_ret (de_call (ok_add T) (hr.mono (by decide)) (by rfl) T.g_add T.F_add.kp T.b_add (da_cons (de_v 0) (da_cons (de_call (ok_contrary T) (hr.mono (by decide)) (by rfl) T.g_contrary T.F_contrary.kp T.b_contrary (da_cons (de_v 1) da_nil)) da_nil)))))) sp_subtract

theorem ok_end_signs (T : Txt K mg) : FnOk P w K mg base (L2.CX P w) 2 T.f_end_signs T.fd_end_signs ["one"] (spD K mg m_end_signs) :=
  fn_data T.F_end_signs sc_end_signs l_end_signs (fun cdv A outer s H E b hr =>
    (dss_cons (ds_set 1 sc_end_signs.nd rfl (.inl rfl) (de_lstN da_nil))
    (dss_cons (ds_if (DW.pt (dw_or (dt_is (de_ix (de_v 0) de_int) de_non) (dw_or1 (dt_lt (de_ix (de_v 0) de_int) de_int)))) (dss_one (ds_expr (de_append (de_v 1) (de_neg de_int)))) dss_nil)
    (dss_cons (ds_if (dt_tru (de_call (ok_holds T) (hr.mono (by decide)) (by rfl) T.g_holds T.F_holds.kp T.b_holds (da_cons (de_v 0) (da_cons de_int da_nil)))) (dss_one (ds_expr (de_append (de_v 1) de_int))) dss_nil)
    (dss_cons (ds_if (DW.pt (dw_or (dt_is (de_ix (de_v 0) de_int) de_non) (dw_or1 (dt_gt (de_ix (de_v 0) de_int) de_int)))) (dss_one (ds_expr (de_append (de_v 1) de_int))) dss_nil)
    (dss_one (ds_ret (de_v 1)))))))) sp_end_signs

theorem ok_known_ends (T : Txt K mg) : FnOk P w K mg base (L2.CX P w) 2 T.f_known_ends T.fd_known_ends ["one"] (spD K mg m_known_ends) :=
  fn_data T.F_known_ends sc_known_ends l_known_ends (fun cdv A outer s H E b hr =>
    (dss_cons (ds_setLc 1 rfl sc_known_ends.nd (by decide) rfl rfl (sw_true rfl rfl rfl rfl) (di_seq (de_v 0)) (blkOk_by (own := [("end", 2)]) rfl) (fun _ _ _ _ _ => (dg_nm (i := 2) sc_known_ends.nd rfl (.inl rfl))) (fun _ _ _ _ _ => (dts_one (dt_isnt (de_v 2) de_non))) (fun _ _ _ _ _ => (de_v 2)))
    (dss_one (ds_ret (de_if (dt_tru (de_call (ok_holds T) (hr.mono (by decide)) (by rfl) T.g_holds T.F_holds.kp T.b_holds (da_cons (de_v 0) (da_cons de_int da_nil)))) (de_add (de_v 1) (de_lst (da_cons de_int da_nil))) (de_v 1)))))) sp_known_ends

theorem ok_by_part (T : Txt K mg) : FnOk P w K mg base (L2.CX P w) 2 T.f_by_part T.fd_by_part ["one", "part"] (spD K mg m_by_part) :=
  fn_data T.F_by_part sc_by_part l_by_part (fun cdv A outer s H E b hr =>
    (dss_cons (ds_if (DW.pt (dw_or (dt_is (de_ix (de_v 1) de_int) de_non) (dw_or1 (dt_lt (de_ix (de_v 1) de_int) de_int)))) (dss_one (ds_par (i := 0) (j := 1) rfl sc_by_part.nd rfl rfl (by decide) rfl rfl (da_cons (de_call (ok_contrary T) (hr.mono (by decide)) (by rfl) T.g_contrary T.F_contrary.kp T.b_contrary (da_cons (de_v 0) da_nil)) (da_cons (de_call (ok_contrary T) (hr.mono (by decide)) (by rfl) T.g_contrary T.F_contrary.kp T.b_contrary (da_cons (de_v 1) da_nil)) da_nil)) (by rfl))) dss_nil)
    (dss_cons (ds_par (i := 2) (j := 3) rfl sc_by_part.nd rfl rfl (by decide) rfl rfl (da_cons (de_ix (de_v 1) de_int) (da_cons (de_ix (de_v 1) de_int) da_nil)) (by rfl))
    (dss_cons (ds_asg (de_v 0) (dg_tp rfl (dgs_cons (dg_nm (i := 4) sc_by_part.nd rfl (.inl rfl)) (dgs_cons (dg_nm (i := 5) sc_by_part.nd rfl (.inl rfl)) dgs_nil))))
    (dss_cons (ds_if (dt_isnt (de_v 4) de_non) (dss_one (ds_set 4 sc_by_part.nd rfl (.inl rfl) (de_if (dt_lt (de_v 4) de_int) (de_div (de_v 4) (de_v 2)) (de_if (dt_is (de_v 3) de_non) de_int (de_div (de_v 4) (de_v 3)))))) dss_nil)
    (dss_cons (ds_if (dt_isnt (de_v 5) de_non) (dss_one (ds_set 5 sc_by_part.nd rfl (.inl rfl) (de_if (dt_ge (de_v 5) de_int) (de_div (de_v 5) (de_v 2)) (de_if (dt_is (de_v 3) de_non) (de_neg de_int) (de_div (de_v 5) (de_v 3)))))) dss_nil)
    (dss_one (ds_ret (de_tup (da_cons (de_v 4) (da_cons (de_v 5) da_nil))))))))))) sp_by_part

theorem ok_remainder (T : Txt K mg) : FnOk P w K mg base (L2.CX P w) 2 T.f_remainder T.fd_remainder ["one", "other"] (spD K mg m_remainder) :=
  fn_data T.F_remainder sc_remainder l_remainder (fun cdv A outer s H E b hr =>
    (dss_cons (ds_set 2 sc_remainder.nd rfl (.inl rfl) (de_lstN da_nil))
    (dss_cons (ds_par (i := 3) (j := 4) rfl sc_remainder.nd rfl rfl (by decide) rfl rfl (da_cons (de_call (ok_meet T) (hr.mono (by decide)) (by rfl) T.g_meet T.F_meet.kp T.b_meet (da_cons (de_v 1) (da_cons (de_tup (da_cons de_int (da_cons de_non da_nil))) da_nil))) (da_cons (de_call (ok_meet T) (hr.mono (by decide)) (by rfl) T.g_meet T.F_meet.kp T.b_meet (da_cons (de_v 1) (da_cons (de_tup (da_cons de_non (da_cons (de_neg de_int) da_nil))) da_nil))) da_nil)) (by rfl))
    (dss_cons (ds_if (dt_isnt (de_v 3) de_non) (dss_cons (ds_expr (de_append (de_v 2) (de_tup (da_cons de_int (da_cons (de_if (dt_is (de_ix (de_v 3) de_int) de_non) de_non (de_sub (de_ix (de_v 3) de_int) de_int)) da_nil)))))
    (dss_one (ds_if (DW.pt (dw_and (dt_isnt (de_ix (de_v 0) de_int) de_non) (dw_and (dt_ge (de_ix (de_v 0) de_int) de_int) (dw_and1 (dt_isnt (de_ix (de_v 0) de_int) de_non))))) (dss_one (ds_put (de_tup (da_cons de_int (da_cons (de_if (dt_is (de_ix (de_ix (de_v 2) de_int) de_int) de_non) (de_ix (de_v 0) de_int) (de_min rfl (by rfl) T.n_min (da_cons (de_ix (de_v 0) de_int) (da_cons (de_ix (de_ix (de_v 2) de_int) de_int) da_nil)))) da_nil))) (de_v 2) de_int)) dss_nil))) dss_nil)
    (dss_cons (ds_if (dt_isnt (de_v 4) de_non) (dss_one (ds_expr (de_append (de_v 2) (de_tup (da_cons (de_if (dt_is (de_ix (de_v 4) de_int) de_non) de_non (de_add (de_ix (de_v 4) de_int) de_int)) (da_cons de_int da_nil)))))) dss_nil)
    (dss_cons (ds_if (dt_eq hr (de_v 2) (de_lst da_nil)) (dss_one (ds_ret de_non)) dss_nil)
    (dss_one (ds_ret (de_if (dt_eq hr (de_len (by rfl) T.n_len (da_cons (de_v 2) da_nil)) de_int) (de_ix (de_v 2) de_int) (de_call (ok_join T) (hr.mono (by decide)) (by rfl) T.g_join T.F_join.kp T.b_join (da_cons (de_ix (de_v 2) de_int) (da_cons (de_ix (de_v 2) de_int) da_nil)))))))))))) sp_remainder

theorem ok_law_pick (T : Txt K mg) : FnOk P w K mg base (L2.CX P w) 2 T.f_law_pick T.fd_law_pick ["tape", "row"] (spD K mg m_law_pick) :=
  fn_data T.F_law_pick sc_law_pick l_law_pick (fun cdv A outer s H E b hr =>
    (dss_one (ds_ret (de_ix (de_v 1) (de_call (ok_law_draw T) (hr.mono (by decide)) (by rfl) T.g_law_draw T.F_law_draw.kp T.b_law_draw (da_cons (de_v 0) (da_cons (de_len (by rfl) T.n_len (da_cons (de_v 1) da_nil)) da_nil))))))) sp_law_pick

theorem ok_law_held (T : Txt K mg) : FnOk P w K mg base (L2.CX P w) 2 T.f_law_held T.fd_law_held ["tape", "one", "other"] (spD K mg m_law_held) :=
  fn_data T.F_law_held sc_law_held l_law_held (fun cdv A outer s H E b hr =>
    (dss_cons (ds_set 3 sc_law_held.nd rfl (.inl rfl) (de_tuple (by rfl) T.n_tuple (da_cons (de_sortset rfl (by rfl) T.n_sorted (by rfl) T.n_set (da_cons (de_lc rfl sc_law_held.nd (by decide) (di_range1 (by rfl) T.n_range (da_cons (de_call (ok_law_draw T) (hr.mono (by decide)) (by rfl) T.g_law_draw T.F_law_draw.kp T.b_law_draw (da_cons (de_v 0) (da_cons de_int da_nil))) da_nil)) (blkOk_by (own := [("k", 7)]) rfl) (fun _ _ _ _ _ => (dg_nm (i := 7) sc_law_held.nd rfl (.inl rfl))) (fun _ _ _ _ _ => dts_nil) (fun _ _ _ _ _ => (de_sub (de_call (ok_law_draw T) (hr.mono (by decide)) (by rfl) T.g_law_draw T.F_law_draw.kp T.b_law_draw (da_cons (de_v 0) (da_cons de_int da_nil))) de_int))) da_nil)) da_nil)))
    (dss_cons (ds_set 4 sc_law_held.nd rfl (.inl rfl) (de_call (ok_join T) (hr.mono (by decide)) (by rfl) T.g_join T.F_join.kp T.b_join (da_cons (de_v 1) (da_cons (de_v 2) da_nil))))
    (dss_cons (ds_set 5 sc_law_held.nd rfl (.inl rfl) (de_call (ok_widen T) (hr.mono (by decide)) (by rfl) T.g_widen T.F_widen.kp T.b_widen (da_cons (de_v 1) (da_cons (de_v 4) (da_cons (de_v 3) da_nil)))))
    (dss_cons (ds_if (DW.pt (dw_or (dt_not (dt_tru (de_call (ok_is_within T) (hr.mono (by decide)) (by rfl) T.g_is_within T.F_is_within.kp T.b_is_within (da_cons (de_v 1) (da_cons (de_v 5) da_nil))))) (dw_or1 (dt_not (dt_tru (de_call (ok_is_within T) (hr.mono (by decide)) (by rfl) T.g_is_within T.F_is_within.kp T.b_is_within (da_cons (de_v 4) (da_cons (de_v 5) da_nil)))))))) (dss_one (ds_ret de_bl)) dss_nil)
    (dss_cons (ds_if (DW.pt (dw_or (DW.pt (dw_and (dt_eq hr (de_ix (de_v 1) de_int) (de_ix (de_v 4) de_int)) (dw_and1 (dt_ne hr (de_ix (de_v 5) de_int) (de_ix (de_v 1) de_int))))) (dw_or1 (DW.pt (dw_and (dt_eq hr (de_ix (de_v 1) de_int) (de_ix (de_v 4) de_int)) (dw_and1 (dt_ne hr (de_ix (de_v 5) de_int) (de_ix (de_v 1) de_int)))))))) (dss_one (ds_ret de_bl)) dss_nil)
    (dss_cons (ds_set 6 sc_law_held.nd rfl (.inl rfl) (de_call (ok_narrow T) (hr.mono (by decide)) (by rfl) T.g_narrow T.F_narrow.kp T.b_narrow (da_cons (de_v 5) (da_cons (de_v 4) da_nil))))
    (dss_one (ds_ret (de_and (de_is (de_call (ok_is_within T) (hr.mono (by decide)) (by rfl) T.g_is_within T.F_is_within.kp T.b_is_within (da_cons (de_v 4) (da_cons (de_v 6) da_nil))) de_bl) (de_one (de_is (de_call (ok_is_within T) (hr.mono (by decide)) (by rfl) T.g_is_within T.F_is_within.kp T.b_is_within (da_cons (de_v 6) (da_cons (de_v 5) da_nil))) de_bl)))))))))))) sp_law_held

theorem ok_open_towards (T : Txt K mg) : FnOk P w K mg base (L2.CX P w) 3 T.f_open_towards T.fd_open_towards ["one", "other", "sign"] (spD K mg m_open_towards) :=
  fn_data T.F_open_towards sc_open_towards l_open_towards (fun cdv A outer s H E b hr =>
    (dss_cons (ds_for PassesOwn.never rfl (di_seq (de_tup (da_cons (de_tup (da_cons (de_v 0) (da_cons (de_v 1) da_nil))) (da_cons (de_tup (da_cons (de_v 1) (da_cons (de_v 0) da_nil))) da_nil)))) (dg_tp rfl (dgs_cons (dg_nm (i := 3) sc_open_towards.nd rfl (.inl rfl)) (dgs_cons (dg_nm (i := 4) sc_open_towards.nd rfl (.inl rfl)) dgs_nil))) (dss_cons (ds_if (DW.pt (dw_and (dt_is (de_ix (de_v 3) de_int) de_non) (dw_and1 (dt_in (de_v 2) (de_call (ok_end_signs T) (hr.mono (by decide)) (by rfl) T.g_end_signs T.F_end_signs.kp T.b_end_signs (da_cons (de_v 4) da_nil)))))) (dss_one (ds_ret de_bl)) dss_nil)
    (dss_one (ds_if (DW.pt (dw_and (dt_is (de_ix (de_v 3) de_int) de_non) (dw_and1 (dt_in (de_neg (de_v 2)) (de_call (ok_end_signs T) (hr.mono (by decide)) (by rfl) T.g_end_signs T.F_end_signs.kp T.b_end_signs (da_cons (de_v 4) da_nil)))))) (dss_one (ds_ret de_bl)) dss_nil))))
    (dss_one (ds_ret de_bl)))) sp_open_towards

theorem ok_least_product (T : Txt K mg) : FnOk P w K mg base (L2.CX P w) 3 T.f_least_product T.fd_least_product ["one", "other"] (spD K mg m_least_product) :=
  fn_data T.F_least_product sc_least_product l_least_product (fun cdv A outer s H E b hr =>
    (dss_cons (ds_setLc2 2 (vs1 := [4]) rfl sc_least_product.nd (by decide) (by decide) (by decide) rfl rfl (sw_true rfl rfl rfl rfl) (di_seq (de_call (ok_known_ends T) (hr.mono (by decide)) (by rfl) T.g_known_ends T.F_known_ends.kp T.b_known_ends (da_cons (de_v 0) da_nil))) (blkOk_by (own := [("left", 3), ("right", 4)]) rfl) (fun _ _ _ _ _ => (dg_nm (i := 3) sc_least_product.nd rfl (.inl rfl))) (fun _ _ _ _ _ => dts_nil) (fun _ _ _ _ _ => (di_seq (de_call (ok_known_ends T) (hr.mono (by decide)) (by rfl) T.g_known_ends T.F_known_ends.kp T.b_known_ends (da_cons (de_v 1) da_nil)))) (fun _ _ _ _ _ => (dg_nm (i := 4) sc_least_product.nd rfl (.inl rfl))) (fun _ _ _ _ _ => dts_nil) (fun _ _ _ _ _ => (de_mul (de_v 3) (de_v 4))))
    (dss_one (ds_ret (de_min rfl (by rfl) T.n_min (da_cons (de_v 2) da_nil)))))) sp_least_product

theorem ok_greatest_product (T : Txt K mg) : FnOk P w K mg base (L2.CX P w) 3 T.f_greatest_product T.fd_greatest_product ["one", "other"] (spD K mg m_greatest_product) :=
  fn_data T.F_greatest_product sc_greatest_product l_greatest_product (fun cdv A outer s H E b hr =>
    (dss_cons (ds_setLc2 2 (vs1 := [4]) rfl sc_greatest_product.nd (by decide) (by decide) (by decide) rfl rfl (sw_true rfl rfl rfl rfl) (di_seq (de_call (ok_known_ends T) (hr.mono (by decide)) (by rfl) T.g_known_ends T.F_known_ends.kp T.b_known_ends (da_cons (de_v 0) da_nil))) (blkOk_by (own := [("left", 3), ("right", 4)]) rfl) (fun _ _ _ _ _ => (dg_nm (i := 3) sc_greatest_product.nd rfl (.inl rfl))) (fun _ _ _ _ _ => dts_nil) (fun _ _ _ _ _ => (di_seq (de_call (ok_known_ends T) (hr.mono (by decide)) (by rfl) T.g_known_ends T.F_known_ends.kp T.b_known_ends (da_cons (de_v 1) da_nil)))) (fun _ _ _ _ _ => (dg_nm (i := 4) sc_greatest_product.nd rfl (.inl rfl))) (fun _ _ _ _ _ => dts_nil) (fun _ _ _ _ _ => (de_mul (de_v 3) (de_v 4))))
    (dss_one (ds_ret (de_max rfl (by rfl) T.n_max (da_cons (de_v 2) da_nil)))))) sp_greatest_product

theorem ok_divide (T : Txt K mg) : FnOk P w K mg base (L2.CX P w) 3 T.f_divide T.fd_divide ["one", "other"] (spD K mg m_divide) :=
  fn_data T.F_divide sc_divide l_divide (fun cdv A outer s H E b hr =>
    (dss_cons (ds_set 2 sc_divide.nd rfl (.inl rfl) (de_lstN da_nil))
    (dss_cons (ds_for PassesOwn.never rfl (di_seq (de_tup (da_cons (de_tup (da_cons de_int (da_cons de_non da_nil))) (da_cons (de_tup (da_cons de_non (da_cons (de_neg de_int) da_nil))) da_nil)))) (dg_nm (i := 3) sc_divide.nd rfl (.inl rfl)) (dss_cons (ds_set 4 sc_divide.nd rfl (.inl rfl) (de_call (ok_meet T) (hr.mono (by decide)) (by rfl) T.g_meet T.F_meet.kp T.b_meet (da_cons (de_v 1) (da_cons (de_v 3) da_nil))))
    (dss_one (ds_if (dt_isnt (de_v 4) de_non) (dss_one (ds_expr (de_append (de_v 2) (de_call (ok_by_part T) (hr.mono (by decide)) (by rfl) T.g_by_part T.F_by_part.kp T.b_by_part (da_cons (de_v 0) (da_cons (de_v 4) da_nil)))))) dss_nil))))
    (dss_cons (ds_if (dt_eq hr (de_v 2) (de_lst da_nil)) (dss_one (ds_ret de_non)) dss_nil)
    (dss_one (ds_ret (de_if (dt_eq hr (de_len (by rfl) T.n_len (da_cons (de_v 2) da_nil)) de_int) (de_ix (de_v 2) de_int) (de_call (ok_join T) (hr.mono (by decide)) (by rfl) T.g_join T.F_join.kp T.b_join (da_cons (de_ix (de_v 2) de_int) (da_cons (de_ix (de_v 2) de_int) da_nil)))))))))) sp_divide

theorem ok_law_span (T : Txt K mg) : FnOk P w K mg base (L2.CX P w) 3 T.f_law_span T.fd_law_span ["tape"] (spD K mg m_law_span) :=
  fn_data T.F_law_span sc_law_span l_law_span (fun cdv A outer s H E b hr =>
    (dss_cons (ds_set 1 sc_law_span.nd rfl (.inl rfl) (de_sub (de_call (ok_law_draw T) (hr.mono (by decide)) (by rfl) T.g_law_draw T.F_law_draw.kp T.b_law_draw (da_cons (de_v 0) (da_cons de_int da_nil))) de_int))
    (dss_cons (ds_set 2 sc_law_span.nd rfl (.inl rfl) (de_add (de_v 1) (de_call (ok_law_draw T) (hr.mono (by decide)) (by rfl) T.g_law_draw T.F_law_draw.kp T.b_law_draw (da_cons (de_v 0) (da_cons de_int da_nil)))))
    (dss_one (ds_ret (de_call (ok_law_pick T) (hr.mono (by decide)) (by rfl) T.g_law_pick T.F_law_pick.kp T.b_law_pick (da_cons (de_v 0) (da_cons (de_lst (da_cons (de_tup (da_cons (de_v 1) (da_cons (de_v 2) da_nil))) (da_cons (de_tup (da_cons (de_v 1) (da_cons (de_v 2) da_nil))) (da_cons (de_tup (da_cons (de_v 1) (da_cons (de_v 2) da_nil))) (da_cons (de_tup (da_cons de_non (da_cons (de_v 2) da_nil))) (da_cons (de_tup (da_cons (de_v 1) (da_cons de_non da_nil))) (da_cons (de_tup (da_cons de_non (da_cons de_non da_nil))) (da_cons (de_tup (da_cons (de_v 1) (da_cons (de_v 1) da_nil))) da_nil)))))))) da_nil)))))))) sp_law_span

theorem ok_multiply (T : Txt K mg) : FnOk P w K mg base (L2.CX P w) 4 T.f_multiply T.fd_multiply ["one", "other"] (spD K mg m_multiply) :=
  fn_data T.F_multiply sc_multiply l_multiply (fun cdv A outer s H E b hr =>
    (dss_cons (ds_if (DW.pt (dw_or (dt_eq hr (de_v 0) (de_tup (da_cons de_int (da_cons de_int da_nil)))) (dw_or1 (dt_eq hr (de_v 1) (de_tup (da_cons de_int (da_cons de_int da_nil))))))) (dss_one (ds_ret (de_tup (da_cons de_int (da_cons de_int da_nil))))) dss_nil)
    (dss_cons (ds_if (dt_notin de_non (de_add (de_v 0) (de_v 1))) (dss_cons (ds_setLc2 2 (vs1 := [7]) rfl sc_multiply.nd (by decide) (by decide) (by decide) rfl rfl (sw_true rfl rfl rfl rfl) (di_seq (de_v 0)) (blkOk_by (own := [("left", 6), ("right", 7)]) rfl) (fun _ _ _ _ _ => (dg_nm (i := 6) sc_multiply.nd rfl (.inl rfl))) (fun _ _ _ _ _ => dts_nil) (fun _ _ _ _ _ => (di_seq (de_v 1))) (fun _ _ _ _ _ => (dg_nm (i := 7) sc_multiply.nd rfl (.inl rfl))) (fun _ _ _ _ _ => dts_nil) (fun _ _ _ _ _ => (de_mul (de_v 6) (de_v 7))))
    (dss_one (ds_ret (de_tup (da_cons (de_min rfl (by rfl) T.n_min (da_cons (de_v 2) da_nil)) (da_cons (de_max rfl (by rfl) T.n_max (da_cons (de_v 2) da_nil)) da_nil)))))) dss_nil)
    (dss_cons (ds_setLc2 3 (vs1 := [7]) rfl sc_multiply.nd (by decide) (by decide) (by decide) rfl rfl (sw_true rfl rfl rfl rfl) (di_seq (de_call (ok_end_signs T) (hr.mono (by decide)) (by rfl) T.g_end_signs T.F_end_signs.kp T.b_end_signs (da_cons (de_v 0) da_nil))) (blkOk_by (own := [("left", 6), ("right", 7)]) rfl) (fun _ _ _ _ _ => (dg_nm (i := 6) sc_multiply.nd rfl (.inl rfl))) (fun _ _ _ _ _ => dts_nil) (fun _ _ _ _ _ => (di_seq (de_call (ok_end_signs T) (hr.mono (by decide)) (by rfl) T.g_end_signs T.F_end_signs.kp T.b_end_signs (da_cons (de_v 1) da_nil)))) (fun _ _ _ _ _ => (dg_nm (i := 7) sc_multiply.nd rfl (.inl rfl))) (fun _ _ _ _ _ => dts_nil) (fun _ _ _ _ _ => (de_mul (de_v 6) (de_v 7))))
    (dss_cons (ds_set 4 sc_multiply.nd rfl (.inl rfl) (de_if (DW.pt (dw_and (dt_in (de_neg de_int) (de_v 3)) (dw_and1 (dt_tru (de_call (ok_open_towards T) (hr.mono (by decide)) (by rfl) T.g_open_towards T.F_open_towards.kp T.b_open_towards (da_cons (de_v 0) (da_cons (de_v 1) (da_cons (de_neg de_int) da_nil)))))))) de_non (de_call (ok_least_product T) (hr.mono (by decide)) (by rfl) T.g_least_product T.F_least_product.kp T.b_least_product (da_cons (de_v 0) (da_cons (de_v 1) da_nil)))))
    (dss_cons (ds_set 5 sc_multiply.nd rfl (.inl rfl) (de_if (DW.pt (dw_and (dt_in de_int (de_v 3)) (dw_and1 (dt_tru (de_call (ok_open_towards T) (hr.mono (by decide)) (by rfl) T.g_open_towards T.F_open_towards.kp T.b_open_towards (da_cons (de_v 0) (da_cons (de_v 1) (da_cons de_int da_nil)))))))) de_non (de_call (ok_greatest_product T) (hr.mono (by decide)) (by rfl) T.g_greatest_product T.F_greatest_product.kp T.b_greatest_product (da_cons (de_v 0) (da_cons (de_v 1) da_nil)))))
    (dss_one (ds_ret (de_tup (da_cons (de_v 4) (da_cons (de_v 5) da_nil))))))))))) sp_multiply

theorem ok_law_divided (T : Txt K mg) : FnOk P w K mg base (L2.CX P w) 4 T.f_law_divided T.fd_law_divided ["one", "other"] (spD K mg m_law_divided) :=
  fn_data T.F_law_divided sc_law_divided l_law_divided (fun cdv A outer s H E b hr =>
    (dss_cons (ds_setLc 2 rfl sc_law_divided.nd (by decide) rfl rfl (sw_true rfl rfl rfl rfl) (di_seq (de_call (ok_law_numbers T) (hr.mono (by decide)) (by rfl) T.g_law_numbers T.F_law_numbers.kp T.b_law_numbers (da_cons (de_v 1) da_nil))) (blkOk_by (own := [("number", 5)]) rfl) (fun _ _ _ _ _ => (dg_nm (i := 5) sc_law_divided.nd rfl (by first | exact .inl rfl | exact .inr rfl))) (fun _ _ _ _ _ => (dts_one (dt_ne hr (de_v 5) de_int))) (fun _ _ _ _ _ => (de_v 5)))
    (dss_cons (ds_asg (de_tup (da_cons (de_call (ok_divide T) (hr.mono (by decide)) (by rfl) T.g_divide T.F_divide.kp T.b_divide (da_cons (de_v 0) (da_cons (de_v 1) da_nil))) (da_cons (de_call (ok_remainder T) (hr.mono (by decide)) (by rfl) T.g_remainder T.F_remainder.kp T.b_remainder (da_cons (de_v 0) (da_cons (de_v 1) da_nil))) da_nil))) (dg_tp rfl (dgs_cons (dg_nm (i := 3) sc_law_divided.nd rfl (.inr rfl)) (dgs_cons (dg_nm (i := 4) sc_law_divided.nd rfl (.inr rfl)) dgs_nil))))
    (dss_cons (ds_if (dt_eq hr (de_v 1) (de_tup (da_cons de_int (da_cons de_int da_nil)))) (dss_one (ds_ret (de_and (de_is (de_v 3) de_non) (de_one (de_is (de_v 4) de_non))))) dss_nil)
    (dss_cons (ds_for PassesOwn.never rfl (di_seq (de_call (ok_law_numbers T) (hr.mono (by decide)) (by rfl) T.g_law_numbers T.F_law_numbers.kp T.b_law_numbers (da_cons (de_v 0) da_nil))) (dg_nm (i := 5) sc_law_divided.nd rfl (.inr rfl)) (dss_one (ds_if (dt_not (dt_tru (de_all rfl (by rfl) T.n_all (da_cons (de_lc rfl sc_law_divided.nd (by decide) (di_seq (de_v 2)) (blkOk_by (own := [("mate", 6)]) rfl) (fun _ _ _ _ _ => (dg_nm (i := 6) sc_law_divided.nd rfl (.inl rfl))) (fun _ _ _ _ _ => dts_nil) (fun _ _ _ _ _ => (de_and (de_call (ok_law_in T) (hr.mono (by decide)) (by rfl) T.g_law_in T.F_law_in.kp T.b_law_in (da_cons (de_v 3) (da_cons (de_div (de_v 5) (de_v 6)) da_nil))) (de_one (de_call (ok_law_in T) (hr.mono (by decide)) (by rfl) T.g_law_in T.F_law_in.kp T.b_law_in (da_cons (de_v 4) (da_cons (de_mod (de_v 5) (de_v 6)) da_nil))))))) da_nil)))) (dss_one (ds_ret de_bl)) dss_nil)))
    (dss_one (ds_ret (de_and (de_is (de_call (ok_is_span T) (hr.mono (by decide)) (by rfl) T.g_is_span T.F_is_span.kp T.b_is_span (da_cons (de_v 3) da_nil)) de_bl) (de_one (de_is (de_call (ok_is_span T) (hr.mono (by decide)) (by rfl) T.g_is_span T.F_is_span.kp T.b_is_span (da_cons (de_v 4) da_nil)) de_bl)))))))))) sp_law_divided

theorem ok_law_same (T : Txt K mg) (n : Nat) : FnOk P w K mg base (L2.CX P w) (n + 1) T.f_law_same T.fd_law_same ["actual", "due"] (spD K mg (m_law_same n)) := by
  have st : ∀ n : Nat, FnOk P w K mg base (L2.CX P w) (n + 0) T.f_law_same T.fd_law_same ["actual", "due"] (spD K mg (prv m_law_same n)) → FnOk P w K mg base (L2.CX P w) (n + 1) T.f_law_same T.fd_law_same ["actual", "due"] (spD K mg (m_law_same n)) := fun n ih => fn_data (k := n + 0) (m := m_law_same n) T.F_law_same sc_law_same (l_law_same n) (fun cdv A outer s H E b hr =>
    (dss_cons (ds_if (dt_is (de_v 1) de_non) (dss_one (ds_ret (de_is (de_v 0) de_non))) dss_nil)
    (dss_cons (ds_if (dt_tru (de_isi (by rfl) T.n_isinstance (da_cons (de_v 1) (da_cons (de_ty (x := "bool") (n := "bool") (by rfl) T.n_bool (by decide +kernel)) da_nil)))) (dss_one (ds_ret (de_and (de_isi (by rfl) T.n_isinstance (da_cons (de_v 0) (da_cons (de_ty (x := "bool") (n := "bool") (by rfl) T.n_bool (by decide +kernel)) da_nil))) (de_one (de_eq hr (de_v 0) (de_v 1)))))) dss_nil)
    (dss_cons (ds_if (dt_tru (de_isi (by rfl) T.n_isinstance (da_cons (de_v 1) (da_cons (de_ty (x := "tuple") (n := "tuple") (by rfl) T.n_tuple (by decide +kernel)) da_nil)))) (dss_cons (ds_if (DW.pt (dw_or (dt_not (dt_tru (de_isi (by rfl) T.n_isinstance (da_cons (de_v 0) (da_cons (de_ty (x := "tuple") (n := "tuple") (by rfl) T.n_tuple (by decide +kernel)) da_nil))))) (dw_or1 (dt_ne hr (de_len (by rfl) T.n_len (da_cons (de_v 0) da_nil)) (de_len (by rfl) T.n_len (da_cons (de_v 1) da_nil)))))) (dss_one (ds_ret de_bl)) dss_nil)
    (dss_one (ds_ret (de_all rfl (by rfl) T.n_all (da_cons (de_lc rfl sc_law_same.nd (by decide) (di_range1 (by rfl) T.n_range (da_cons (de_len (by rfl) T.n_len (da_cons (de_v 1) da_nil)) da_nil)) (blkOk_by (own := [("k", 2)]) rfl) (fun _ _ _ _ _ => (dg_nm (i := 2) sc_law_same.nd rfl (.inl rfl))) (fun _ _ _ _ _ => dts_nil) (fun _ _ _ _ _ => (de_call ih hr (by rfl) T.g_law_same T.F_law_same.kp T.b_law_same (da_cons (de_ix (de_v 0) (de_v 2)) (da_cons (de_ix (de_v 1) (de_v 2)) da_nil))))) da_nil))))) dss_nil)
    (dss_cons (ds_if (dt_tru (de_isi (by rfl) T.n_isinstance (da_cons (de_v 1) (da_cons (de_ty (x := "str") (n := "str") (by rfl) T.n_str (by decide +kernel)) da_nil)))) (dss_one (ds_ret (de_and (de_isi (by rfl) T.n_isinstance (da_cons (de_v 0) (da_cons (de_ty (x := "str") (n := "str") (by rfl) T.n_str (by decide +kernel)) da_nil))) (de_one (de_eq hr (de_v 0) (de_v 1)))))) dss_nil)
    (dss_one (ds_ret (de_and (de_isi (by rfl) T.n_isinstance (da_cons (de_v 0) (da_cons (de_ty (x := "int") (n := "int") (by rfl) T.n_int (by decide +kernel)) da_nil))) (de_and (de_not (de_isi (by rfl) T.n_isinstance (da_cons (de_v 0) (da_cons (de_ty (x := "bool") (n := "bool") (by rfl) T.n_bool (by decide +kernel)) da_nil)))) (de_one (de_eq hr (de_v 0) (de_v 1)))))))))))) (sp_law_same n)
  induction n with
  | zero => exact st 0 fn_never
  | succ n ih => exact st (n + 1) ih

theorem ok_law (T : Txt K mg) : FnOk P w K mg base (L2.CX P w) 6 T.f_law T.fd_law ["script"] (spD K mg m_law) :=
  fn_data T.F_law sc_law l_law (fun cdv A outer s H E b hr =>
    (dss_cons (ds_set 1 sc_law.nd rfl (.inl rfl) (de_call (ok_law_tape T) (hr.mono (by decide)) (by rfl) T.g_law_tape T.F_law_tape.kp T.b_law_tape (da_cons (de_v 0) da_nil)))
    (dss_cons (ds_for PassesOwn.never rfl (di_range1 (by rfl) T.n_range (da_cons de_int da_nil)) (dg_nm (i := 2) sc_law.nd rfl (.inl rfl)) (dss_cons (ds_asg (de_tup (da_cons (de_call (ok_law_span T) (hr.mono (by decide)) (by rfl) T.g_law_span T.F_law_span.kp T.b_law_span (da_cons (de_v 1) da_nil)) (da_cons (de_call (ok_law_span T) (hr.mono (by decide)) (by rfl) T.g_law_span T.F_law_span.kp T.b_law_span (da_cons (de_v 1) da_nil)) da_nil))) (dg_tp rfl (dgs_cons (dg_nm (i := 3) sc_law.nd rfl (.inr rfl)) (dgs_cons (dg_nm (i := 4) sc_law.nd rfl (.inl rfl)) dgs_nil))))
    (dss_cons (ds_asg (de_tup (da_cons (de_call (ok_law_far T) (hr.mono (by decide)) (by rfl) T.g_law_far T.F_law_far.kp T.b_law_far (da_cons (de_v 3) da_nil)) (da_cons (de_call (ok_law_far T) (hr.mono (by decide)) (by rfl) T.g_law_far T.F_law_far.kp T.b_law_far (da_cons (de_v 4) da_nil)) da_nil))) (dg_tp rfl (dgs_cons (dg_nm (i := 5) sc_law.nd rfl (.inl rfl)) (dgs_cons (dg_nm (i := 6) sc_law.nd rfl (.inr rfl)) dgs_nil))))
    (dss_cons (ds_set 7 sc_law.nd rfl (.inl rfl) (de_add (de_lc rfl sc_law.nd (by decide) (di_seq (de_v 5)) (blkOk_by (own := [("left", 16)]) rfl) (fun _ _ _ _ _ => (dg_nm (i := 16) sc_law.nd rfl (.inl rfl))) (fun _ _ _ _ _ => dts_nil) (fun _ _ _ _ _ => (de_mul (de_v 16) (de_ix (de_v 6) de_int)))) (de_lc rfl sc_law.nd (by decide) (di_seq (de_v 5)) (blkOk_by (own := [("left", 16)]) rfl) (fun _ _ _ _ _ => (dg_nm (i := 16) sc_law.nd rfl (.inl rfl))) (fun _ _ _ _ _ => dts_nil) (fun _ _ _ _ _ => (de_mul (de_v 16) (de_ix (de_v 6) de_int))))))
    (dss_cons (ds_set 8 sc_law.nd rfl (.inl rfl) (de_tup (da_cons (de_call (ok_law_near T) (hr.mono (by decide)) (by rfl) T.g_law_near T.F_law_near.kp T.b_law_near (da_cons (de_add (de_ix (de_v 5) de_int) (de_ix (de_v 6) de_int)) (da_cons (de_add (de_ix (de_v 5) de_int) (de_ix (de_v 6) de_int)) da_nil))) (da_cons (de_call (ok_law_near T) (hr.mono (by decide)) (by rfl) T.g_law_near T.F_law_near.kp T.b_law_near (da_cons (de_sub (de_ix (de_v 5) de_int) (de_ix (de_v 6) de_int)) (da_cons (de_sub (de_ix (de_v 5) de_int) (de_ix (de_v 6) de_int)) da_nil))) (da_cons (de_call (ok_law_near T) (hr.mono (by decide)) (by rfl) T.g_law_near T.F_law_near.kp T.b_law_near (da_cons (de_neg (de_ix (de_v 5) de_int)) (da_cons (de_neg (de_ix (de_v 5) de_int)) da_nil))) (da_cons (de_call (ok_law_near T) (hr.mono (by decide)) (by rfl) T.g_law_near T.F_law_near.kp T.b_law_near (da_cons (de_min rfl (by rfl) T.n_min (da_cons (de_v 7) da_nil)) (da_cons (de_max rfl (by rfl) T.n_max (da_cons (de_v 7) da_nil)) da_nil))) da_nil))))))
    (dss_cons (ds_if (dt_not (dt_tru (de_call (ok_law_same T 4) (hr.mono (by decide)) (by rfl) T.g_law_same T.F_law_same.kp T.b_law_same (da_cons (de_tup (da_cons (de_call (ok_add T) (hr.mono (by decide)) (by rfl) T.g_add T.F_add.kp T.b_add (da_cons (de_v 3) (da_cons (de_v 4) da_nil))) (da_cons (de_call (ok_subtract T) (hr.mono (by decide)) (by rfl) T.g_subtract T.F_subtract.kp T.b_subtract (da_cons (de_v 3) (da_cons (de_v 4) da_nil))) (da_cons (de_call (ok_contrary T) (hr.mono (by decide)) (by rfl) T.g_contrary T.F_contrary.kp T.b_contrary (da_cons (de_v 3) da_nil)) (da_cons (de_call (ok_multiply T) (hr.mono (by decide)) (by rfl) T.g_multiply T.F_multiply.kp T.b_multiply (da_cons (de_v 3) (da_cons (de_v 4) da_nil))) da_nil))))) (da_cons (de_v 8) da_nil))))) (dss_one (ds_ret de_bl)) dss_nil)
    (dss_cons (ds_par (i := 9) (j := 10) rfl sc_law.nd rfl rfl (by decide) rfl rfl (da_cons (de_max rfl (by rfl) T.n_max (da_cons (de_ix (de_v 5) de_int) (da_cons (de_ix (de_v 6) de_int) da_nil))) (da_cons (de_min rfl (by rfl) T.n_min (da_cons (de_ix (de_v 5) de_int) (da_cons (de_ix (de_v 6) de_int) da_nil))) da_nil)) (by rfl))
    (dss_cons (ds_set 11 sc_law.nd rfl (.inl rfl) (de_tup (da_cons (de_call (ok_law_near T) (hr.mono (by decide)) (by rfl) T.g_law_near T.F_law_near.kp T.b_law_near (da_cons (de_min rfl (by rfl) T.n_min (da_cons (de_ix (de_v 5) de_int) (da_cons (de_ix (de_v 6) de_int) da_nil))) (da_cons (de_max rfl (by rfl) T.n_max (da_cons (de_ix (de_v 5) de_int) (da_cons (de_ix (de_v 6) de_int) da_nil))) da_nil))) (da_cons (de_if (dt_gt (de_v 9) (de_v 10)) de_non (de_call (ok_law_near T) (hr.mono (by decide)) (by rfl) T.g_law_near T.F_law_near.kp T.b_law_near (da_cons (de_v 9) (da_cons (de_v 10) da_nil)))) da_nil))))
    (dss_cons (ds_if (dt_not (dt_tru (de_call (ok_law_same T 4) (hr.mono (by decide)) (by rfl) T.g_law_same T.F_law_same.kp T.b_law_same (da_cons (de_tup (da_cons (de_call (ok_join T) (hr.mono (by decide)) (by rfl) T.g_join T.F_join.kp T.b_join (da_cons (de_v 3) (da_cons (de_v 4) da_nil))) (da_cons (de_call (ok_meet T) (hr.mono (by decide)) (by rfl) T.g_meet T.F_meet.kp T.b_meet (da_cons (de_v 3) (da_cons (de_v 4) da_nil))) da_nil))) (da_cons (de_v 11) da_nil))))) (dss_one (ds_ret de_bl)) dss_nil)
    (dss_cons (ds_if (dt_not (dt_tru (de_call (ok_law_same T 4) (hr.mono (by decide)) (by rfl) T.g_law_same T.F_law_same.kp T.b_law_same (da_cons (de_tup (da_cons (de_call (ok_is_within T) (hr.mono (by decide)) (by rfl) T.g_is_within T.F_is_within.kp T.b_is_within (da_cons (de_v 3) (da_cons (de_v 4) da_nil))) (da_cons (de_call (ok_size_of T) (hr.mono (by decide)) (by rfl) T.g_size_of T.F_size_of.kp T.b_size_of (da_cons (de_v 3) da_nil)) da_nil))) (da_cons (de_tup (da_cons (de_and (de_le (de_ix (de_v 6) de_int) (de_ix (de_v 5) de_int)) (de_one (de_le (de_ix (de_v 5) de_int) (de_ix (de_v 6) de_int)))) (da_cons (de_if (dt_in de_non (de_v 3)) de_non (de_add (de_sub (de_ix (de_v 3) de_int) (de_ix (de_v 3) de_int)) de_int)) da_nil))) da_nil))))) (dss_one (ds_ret de_bl)) dss_nil)
    (dss_cons (ds_if (dt_not (dt_tru (de_all rfl (by rfl) T.n_all (da_cons (de_lc rfl sc_law.nd (by decide) (di_range2 (by rfl) T.n_range (da_cons (de_neg de_int) (da_cons de_int da_nil))) (blkOk_by (own := [("number", 13)]) rfl) (fun _ _ _ _ _ => (dg_nm (i := 13) sc_law.nd rfl (.inl rfl))) (fun _ _ _ _ _ => dts_nil) (fun _ _ _ _ _ => (de_call (ok_law_same T 4) (hr.mono (by decide)) (by rfl) T.g_law_same T.F_law_same.kp T.b_law_same (da_cons (de_call (ok_holds T) (hr.mono (by decide)) (by rfl) T.g_holds T.F_holds.kp T.b_holds (da_cons (de_v 3) (da_cons (de_v 13) da_nil))) (da_cons (de_call (ok_law_in T) (hr.mono (by decide)) (by rfl) T.g_law_in T.F_law_in.kp T.b_law_in (da_cons (de_v 3) (da_cons (de_v 13) da_nil))) da_nil))))) da_nil)))) (dss_one (ds_ret de_bl)) dss_nil)
    (dss_cons (ds_if (DW.pt (dw_or (dt_not (dt_tru (de_call (ok_law_divided T) (hr.mono (by decide)) (by rfl) T.g_law_divided T.F_law_divided.kp T.b_law_divided (da_cons (de_v 3) (da_cons (de_v 4) da_nil))))) (dw_or1 (dt_not (dt_tru (de_call (ok_law_held T) (hr.mono (by decide)) (by rfl) T.g_law_held T.F_law_held.kp T.b_law_held (da_cons (de_v 1) (da_cons (de_v 3) (da_cons (de_v 4) da_nil))))))))) (dss_one (ds_ret de_bl)) dss_nil)
    (dss_cons (ds_set 12 sc_law.nd rfl (.inl rfl) (de_sub (de_add (de_pow de_int de_int) (de_call (ok_law_draw T) (hr.mono (by decide)) (by rfl) T.g_law_draw T.F_law_draw.kp T.b_law_draw (da_cons (de_v 1) (da_cons de_int da_nil)))) de_int))
    (dss_one (ds_if (DW.pt (dw_or (dt_not (dt_tru (de_call (ok_law_same T 4) (hr.mono (by decide)) (by rfl) T.g_law_same T.F_law_same.kp T.b_law_same (da_cons (de_call (ok_tamed T) (hr.mono (by decide)) (by rfl) T.g_tamed T.F_tamed.kp T.b_tamed (da_cons (de_tup (da_cons (de_neg (de_v 12)) (da_cons (de_v 12) da_nil))) da_nil)) (da_cons (de_if (dt_gt (de_v 12) (de_pow de_int de_int)) (de_tup (da_cons de_non (da_cons de_non da_nil))) (de_tup (da_cons (de_neg (de_v 12)) (da_cons (de_v 12) da_nil)))) da_nil))))) (dw_or1 (dt_not (dt_tru (de_call (ok_law_same T 4) (hr.mono (by decide)) (by rfl) T.g_law_same T.F_law_same.kp T.b_law_same (da_cons (de_call (ok_tamed T) (hr.mono (by decide)) (by rfl) T.g_tamed T.F_tamed.kp T.b_tamed (da_cons (de_v 3) da_nil)) (da_cons (de_v 3) da_nil)))))))) (dss_one (ds_ret de_bl)) dss_nil)))))))))))))))
    (dss_cons (ds_set 13 sc_law.nd rfl (.inl rfl) (de_sub (de_call (ok_law_draw T) (hr.mono (by decide)) (by rfl) T.g_law_draw T.F_law_draw.kp T.b_law_draw (da_cons (de_v 1) (da_cons de_int da_nil))) de_int))
    (dss_cons (ds_set 14 sc_law.nd rfl (.inl rfl) (de_lst (da_cons (de_tup (da_cons de_int (da_cons de_int da_nil))) (da_cons (de_tup (da_cons de_int da_nil)) (da_cons (de_tup (da_cons de_int (da_cons de_int (da_cons de_int da_nil)))) (da_cons (de_lst (da_cons de_int (da_cons de_int da_nil))) (da_cons de_non (da_cons de_int (da_cons de_str (da_cons (de_tup (da_cons de_bl (da_cons de_int da_nil))) (da_cons (de_tup (da_cons de_int (da_cons de_bl da_nil))) (da_cons (de_tup (da_cons de_non da_nil)) (da_cons (de_tup (da_cons de_int (da_cons de_str da_nil))) (da_cons (de_tup (da_cons (de_v 13) (da_cons (de_sub (de_v 13) de_int) da_nil))) da_nil))))))))))))))
    (dss_cons (ds_set 15 sc_law.nd rfl (.inl rfl) (de_lst (da_cons (de_tup (da_cons (de_v 13) (da_cons (de_v 13) da_nil))) (da_cons (de_tup (da_cons de_non (da_cons (de_v 13) da_nil))) (da_cons (de_tup (da_cons (de_v 13) (da_cons de_non da_nil))) (da_cons (de_tup (da_cons de_non (da_cons de_non da_nil))) (da_cons (de_tup (da_cons (de_v 13) (da_cons (de_add (de_v 13) de_int) da_nil))) da_nil)))))))
    (dss_one (ds_ret (de_and (de_call (ok_law_same T 4) (hr.mono (by decide)) (by rfl) T.g_law_same T.F_law_same.kp T.b_law_same (da_cons (de_tup (da_cons (T.c_ALL rfl rfl (by rfl)) (da_cons (de_call (ok_of T) (hr.mono (by decide)) (by rfl) T.g_of T.F_of.kp T.b_of (da_cons (de_v 13) da_nil)) da_nil))) (da_cons (de_tup (da_cons (de_tup (da_cons de_non (da_cons de_non da_nil))) (da_cons (de_tup (da_cons (de_v 13) (da_cons (de_v 13) da_nil))) da_nil))) da_nil))) (de_and (de_not (de_any rfl (by rfl) T.n_any (da_cons (de_lc rfl sc_law.nd (by decide) (di_seq (de_v 14)) (blkOk_by (own := [("value", 17)]) rfl) (fun _ _ _ _ _ => (dg_nm (i := 17) sc_law.nd rfl (.inl rfl))) (fun _ _ _ _ _ => dts_nil) (fun _ _ _ _ _ => (de_call (ok_is_span T) (hr.mono (by decide)) (by rfl) T.g_is_span T.F_is_span.kp T.b_is_span (da_cons (de_v 17) da_nil)))) da_nil))) (de_one (de_all rfl (by rfl) T.n_all (da_cons (de_lc rfl sc_law.nd (by decide) (di_seq (de_v 15)) (blkOk_by (own := [("value", 17)]) rfl) (fun _ _ _ _ _ => (dg_nm (i := 17) sc_law.nd rfl (.inl rfl))) (fun _ _ _ _ _ => dts_nil) (fun _ _ _ _ _ => (de_call (ok_is_span T) (hr.mono (by decide)) (by rfl) T.g_is_span T.F_is_span.kp T.b_is_span (da_cons (de_v 17) da_nil)))) da_nil))))))))))))) sp_law

end
def DefOk (K : PySem.W.Frag) (mg : Str → Option Value) (x : Str) (st : Stmt) : Prop := ∃ f fd, Fun K x x st f fd ∧ mg x = some (.ref f)
theorem def_mk {K : PySem.W.Frag} {h : Heap} {mg : Str → Option Value} (X : K.In h) (G : h.Ns mainGlobals mg) {x : Str} {st : Stmt} {f : Addr} {od an : Option Addr} {sl : Array (Option Value)} {oc kV dc pm cd ct : Value}
    (a : PySem.W.nsIn K mainGlobals x = some (some (.ref f))) (l : K.lookup f = some ⟨oc, od, .func (PySem.W.fnOf x x (defArgs st) (defBody st) (defScope st) .none kV dc pm an cd ct), sl⟩) (c : PySem.W.codeIn K cd x = true) (k : PySem.W.keepIn K (.ref f) = true) : DefOk K mg x st :=
  ⟨f, _, fun_mk (st := st) l c k, PySem.W.mg_of X G a⟩
theorem txt_mk {K : PySem.W.Frag} {mg : Str → Option Value} (d_is_span : DefOk K mg "is_span" s_is_span) (d_of : DefOk K mg "of" s_of) (d_tamed : DefOk K mg "tamed" s_tamed) (d_holds : DefOk K mg "holds" s_holds) (d_is_within : DefOk K mg "is_within" s_is_within) (d_join : DefOk K mg "join" s_join) (d_meet : DefOk K mg "meet" s_meet) (d_widen : DefOk K mg "widen" s_widen) (d_narrow : DefOk K mg "narrow" s_narrow) (d_add : DefOk K mg "add" s_add) (d_contrary : DefOk K mg "contrary" s_contrary) (d_size_of : DefOk K mg "size_of" s_size_of) (d_law_tape : DefOk K mg "_law_tape" s_law_tape) (d_law_draw : DefOk K mg "_law_draw" s_law_draw) (d_law_far : DefOk K mg "_law_far" s_law_far) (d_law_near : DefOk K mg "_law_near" s_law_near) (d_law_numbers : DefOk K mg "_law_numbers" s_law_numbers) (d_law_in : DefOk K mg "_law_in" s_law_in) (d_subtract : DefOk K mg "subtract" s_subtract) (d_end_signs : DefOk K mg "end_signs" s_end_signs) (d_known_ends : DefOk K mg "known_ends" s_known_ends) (d_by_part : DefOk K mg "by_part" s_by_part) (d_remainder : DefOk K mg "remainder" s_remainder) (d_law_pick : DefOk K mg "_law_pick" s_law_pick) (d_law_held : DefOk K mg "_law_held" s_law_held) (d_open_towards : DefOk K mg "open_towards" s_open_towards) (d_least_product : DefOk K mg "least_product" s_least_product) (d_greatest_product : DefOk K mg "greatest_product" s_greatest_product) (d_divide : DefOk K mg "divide" s_divide) (d_law_span : DefOk K mg "_law_span" s_law_span) (d_multiply : DefOk K mg "multiply" s_multiply) (d_law_divided : DefOk K mg "_law_divided" s_law_divided) (d_law_same : DefOk K mg "_law_same" s_law_same) (d_law : DefOk K mg "law" s_law) (n_abs : mg "abs" = none) (n_all : mg "all" = none) (n_any : mg "any" = none) (n_bool : mg "bool" = none) (n_int : mg "int" = none) (n_isinstance : mg "isinstance" = none) (n_len : mg "len" = none) (n_max : mg "max" = none) (n_min : mg "min" = none) (n_range : mg "range" = none) (n_set : mg "set" = none) (n_sorted : mg "sorted" = none) (n_str : mg "str" = none) (n_tuple : mg "tuple" = none) (c_ALL : ∀ {X : Cx} {b : Bs} {pos : Pos}, X.K = K → X.mg = mg → Gl X "ALL" → DE X b (.Name "ALL" pos) (cW (.tup [.non, .non]))) (c_MOST : ∀ {X : Cx} {b : Bs} {pos : Pos}, X.K = K → X.mg = mg → Gl X "MOST" → DE X b (.Name "MOST" pos) (cW (.int (10 ^ 60)))) : Nonempty (Txt K mg) := by
  obtain ⟨f_is_span, fd_is_span, F_is_span, g_is_span⟩ := d_is_span
  obtain ⟨f_of, fd_of, F_of, g_of⟩ := d_of
  obtain ⟨f_tamed, fd_tamed, F_tamed, g_tamed⟩ := d_tamed
  obtain ⟨f_holds, fd_holds, F_holds, g_holds⟩ := d_holds
  obtain ⟨f_is_within, fd_is_within, F_is_within, g_is_within⟩ := d_is_within
  obtain ⟨f_join, fd_join, F_join, g_join⟩ := d_join
  obtain ⟨f_meet, fd_meet, F_meet, g_meet⟩ := d_meet
  obtain ⟨f_widen, fd_widen, F_widen, g_widen⟩ := d_widen
  obtain ⟨f_narrow, fd_narrow, F_narrow, g_narrow⟩ := d_narrow
  obtain ⟨f_add, fd_add, F_add, g_add⟩ := d_add
  obtain ⟨f_contrary, fd_contrary, F_contrary, g_contrary⟩ := d_contrary
  obtain ⟨f_size_of, fd_size_of, F_size_of, g_size_of⟩ := d_size_of
  obtain ⟨f_law_tape, fd_law_tape, F_law_tape, g_law_tape⟩ := d_law_tape
  obtain ⟨f_law_draw, fd_law_draw, F_law_draw, g_law_draw⟩ := d_law_draw
  obtain ⟨f_law_far, fd_law_far, F_law_far, g_law_far⟩ := d_law_far
  obtain ⟨f_law_near, fd_law_near, F_law_near, g_law_near⟩ := d_law_near
  obtain ⟨f_law_numbers, fd_law_numbers, F_law_numbers, g_law_numbers⟩ := d_law_numbers
  obtain ⟨f_law_in, fd_law_in, F_law_in, g_law_in⟩ := d_law_in
  obtain ⟨f_subtract, fd_subtract, F_subtract, g_subtract⟩ := d_subtract
  obtain ⟨f_end_signs, fd_end_signs, F_end_signs, g_end_signs⟩ := d_end_signs
  obtain ⟨f_known_ends, fd_known_ends, F_known_ends, g_known_ends⟩ := d_known_ends
  obtain ⟨f_by_part, fd_by_part, F_by_part, g_by_part⟩ := d_by_part
  obtain ⟨f_remainder, fd_remainder, F_remainder, g_remainder⟩ := d_remainder
  obtain ⟨f_law_pick, fd_law_pick, F_law_pick, g_law_pick⟩ := d_law_pick
  obtain ⟨f_law_held, fd_law_held, F_law_held, g_law_held⟩ := d_law_held
  obtain ⟨f_open_towards, fd_open_towards, F_open_towards, g_open_towards⟩ := d_open_towards
  obtain ⟨f_least_product, fd_least_product, F_least_product, g_least_product⟩ := d_least_product
  obtain ⟨f_greatest_product, fd_greatest_product, F_greatest_product, g_greatest_product⟩ := d_greatest_product
  obtain ⟨f_divide, fd_divide, F_divide, g_divide⟩ := d_divide
  obtain ⟨f_law_span, fd_law_span, F_law_span, g_law_span⟩ := d_law_span
  obtain ⟨f_multiply, fd_multiply, F_multiply, g_multiply⟩ := d_multiply
  obtain ⟨f_law_divided, fd_law_divided, F_law_divided, g_law_divided⟩ := d_law_divided
  obtain ⟨f_law_same, fd_law_same, F_law_same, g_law_same⟩ := d_law_same
  obtain ⟨f_law, fd_law, F_law, g_law⟩ := d_law
  exact ⟨{
    f_is_span := f_is_span, fd_is_span := fd_is_span, F_is_span := F_is_span, g_is_span := g_is_span, b_is_span := F_is_span.binds (ps := ["value"]) fun _ _ _ _ _ _ us hl => match us, hl with | [_], _ => rfl,
    f_of := f_of, fd_of := fd_of, F_of := F_of, g_of := g_of, b_of := F_of.binds (ps := ["number"]) fun _ _ _ _ _ _ us hl => match us, hl with | [_], _ => rfl,
    f_tamed := f_tamed, fd_tamed := fd_tamed, F_tamed := F_tamed, g_tamed := g_tamed, b_tamed := F_tamed.binds (ps := ["one"]) fun _ _ _ _ _ _ us hl => match us, hl with | [_], _ => rfl,
    f_holds := f_holds, fd_holds := fd_holds, F_holds := F_holds, g_holds := g_holds, b_holds := F_holds.binds (ps := ["one", "number"]) fun _ _ _ _ _ _ us hl => match us, hl with | [_, _], _ => rfl,
    f_is_within := f_is_within, fd_is_within := fd_is_within, F_is_within := F_is_within, g_is_within := g_is_within, b_is_within := F_is_within.binds (ps := ["one", "other"]) fun _ _ _ _ _ _ us hl => match us, hl with | [_, _], _ => rfl,
    f_join := f_join, fd_join := fd_join, F_join := F_join, g_join := g_join, b_join := F_join.binds (ps := ["one", "other"]) fun _ _ _ _ _ _ us hl => match us, hl with | [_, _], _ => rfl,
    f_meet := f_meet, fd_meet := fd_meet, F_meet := F_meet, g_meet := g_meet, b_meet := F_meet.binds (ps := ["one", "other"]) fun _ _ _ _ _ _ us hl => match us, hl with | [_, _], _ => rfl,
    f_widen := f_widen, fd_widen := fd_widen, F_widen := F_widen, g_widen := g_widen, b_widen := F_widen.binds (ps := ["one", "other", "marks"]) fun _ _ _ _ _ _ us hl => match us, hl with | [_, _, _], _ => rfl,
    f_narrow := f_narrow, fd_narrow := fd_narrow, F_narrow := F_narrow, g_narrow := g_narrow, b_narrow := F_narrow.binds (ps := ["one", "other"]) fun _ _ _ _ _ _ us hl => match us, hl with | [_, _], _ => rfl,
    f_add := f_add, fd_add := fd_add, F_add := F_add, g_add := g_add, b_add := F_add.binds (ps := ["one", "other"]) fun _ _ _ _ _ _ us hl => match us, hl with | [_, _], _ => rfl,
    f_contrary := f_contrary, fd_contrary := fd_contrary, F_contrary := F_contrary, g_contrary := g_contrary, b_contrary := F_contrary.binds (ps := ["one"]) fun _ _ _ _ _ _ us hl => match us, hl with | [_], _ => rfl,
    f_size_of := f_size_of, fd_size_of := fd_size_of, F_size_of := F_size_of, g_size_of := g_size_of, b_size_of := F_size_of.binds (ps := ["one"]) fun _ _ _ _ _ _ us hl => match us, hl with | [_], _ => rfl,
    f_law_tape := f_law_tape, fd_law_tape := fd_law_tape, F_law_tape := F_law_tape, g_law_tape := g_law_tape, b_law_tape := F_law_tape.binds (ps := ["script"]) fun _ _ _ _ _ _ us hl => match us, hl with | [_], _ => rfl,
    f_law_draw := f_law_draw, fd_law_draw := fd_law_draw, F_law_draw := F_law_draw, g_law_draw := g_law_draw, b_law_draw := F_law_draw.binds (ps := ["tape", "many"]) fun _ _ _ _ _ _ us hl => match us, hl with | [_, _], _ => rfl,
    f_law_far := f_law_far, fd_law_far := fd_law_far, F_law_far := F_law_far, g_law_far := g_law_far, b_law_far := F_law_far.binds (ps := ["span"]) fun _ _ _ _ _ _ us hl => match us, hl with | [_], _ => rfl,
    f_law_near := f_law_near, fd_law_near := fd_law_near, F_law_near := F_law_near, g_law_near := g_law_near, b_law_near := F_law_near.binds (ps := ["low", "high"]) fun _ _ _ _ _ _ us hl => match us, hl with | [_, _], _ => rfl,
    f_law_numbers := f_law_numbers, fd_law_numbers := fd_law_numbers, F_law_numbers := F_law_numbers, g_law_numbers := g_law_numbers, b_law_numbers := F_law_numbers.binds (ps := ["span"]) fun _ _ _ _ _ _ us hl => match us, hl with | [_], _ => rfl,
    f_law_in := f_law_in, fd_law_in := fd_law_in, F_law_in := F_law_in, g_law_in := g_law_in, b_law_in := F_law_in.binds (ps := ["span", "number"]) fun _ _ _ _ _ _ us hl => match us, hl with | [_, _], _ => rfl,
    f_subtract := f_subtract, fd_subtract := fd_subtract, F_subtract := F_subtract, g_subtract := g_subtract, b_subtract := F_subtract.binds (ps := ["one", "other"]) fun _ _ _ _ _ _ us hl => match us, hl with | [_, _], _ => rfl,
    f_end_signs := f_end_signs, fd_end_signs := fd_end_signs, F_end_signs := F_end_signs, g_end_signs := g_end_signs, b_end_signs := F_end_signs.binds (ps := ["one"]) fun _ _ _ _ _ _ us hl => match us, hl with | [_], _ => rfl,
    f_known_ends := f_known_ends, fd_known_ends := fd_known_ends, F_known_ends := F_known_ends, g_known_ends := g_known_ends, b_known_ends := F_known_ends.binds (ps := ["one"]) fun _ _ _ _ _ _ us hl => match us, hl with | [_], _ => rfl,
    f_by_part := f_by_part, fd_by_part := fd_by_part, F_by_part := F_by_part, g_by_part := g_by_part, b_by_part := F_by_part.binds (ps := ["one", "part"]) fun _ _ _ _ _ _ us hl => match us, hl with | [_, _], _ => rfl,
    f_remainder := f_remainder, fd_remainder := fd_remainder, F_remainder := F_remainder, g_remainder := g_remainder, b_remainder := F_remainder.binds (ps := ["one", "other"]) fun _ _ _ _ _ _ us hl => match us, hl with | [_, _], _ => rfl,
    f_law_pick := f_law_pick, fd_law_pick := fd_law_pick, F_law_pick := F_law_pick, g_law_pick := g_law_pick, b_law_pick := F_law_pick.binds (ps := ["tape", "row"]) fun _ _ _ _ _ _ us hl => match us, hl with | [_, _], _ => rfl,
    f_law_held := f_law_held, fd_law_held := fd_law_held, F_law_held := F_law_held, g_law_held := g_law_held, b_law_held := F_law_held.binds (ps := ["tape", "one", "other"]) fun _ _ _ _ _ _ us hl => match us, hl with | [_, _, _], _ => rfl,
    f_open_towards := f_open_towards, fd_open_towards := fd_open_towards, F_open_towards := F_open_towards, g_open_towards := g_open_towards, b_open_towards := F_open_towards.binds (ps := ["one", "other", "sign"]) fun _ _ _ _ _ _ us hl => match us, hl with | [_, _, _], _ => rfl,
    f_least_product := f_least_product, fd_least_product := fd_least_product, F_least_product := F_least_product, g_least_product := g_least_product, b_least_product := F_least_product.binds (ps := ["one", "other"]) fun _ _ _ _ _ _ us hl => match us, hl with | [_, _], _ => rfl,
    f_greatest_product := f_greatest_product, fd_greatest_product := fd_greatest_product, F_greatest_product := F_greatest_product, g_greatest_product := g_greatest_product, b_greatest_product := F_greatest_product.binds (ps := ["one", "other"]) fun _ _ _ _ _ _ us hl => match us, hl with | [_, _], _ => rfl,
    f_divide := f_divide, fd_divide := fd_divide, F_divide := F_divide, g_divide := g_divide, b_divide := F_divide.binds (ps := ["one", "other"]) fun _ _ _ _ _ _ us hl => match us, hl with | [_, _], _ => rfl,
    f_law_span := f_law_span, fd_law_span := fd_law_span, F_law_span := F_law_span, g_law_span := g_law_span, b_law_span := F_law_span.binds (ps := ["tape"]) fun _ _ _ _ _ _ us hl => match us, hl with | [_], _ => rfl,
    f_multiply := f_multiply, fd_multiply := fd_multiply, F_multiply := F_multiply, g_multiply := g_multiply, b_multiply := F_multiply.binds (ps := ["one", "other"]) fun _ _ _ _ _ _ us hl => match us, hl with | [_, _], _ => rfl,
    f_law_divided := f_law_divided, fd_law_divided := fd_law_divided, F_law_divided := F_law_divided, g_law_divided := g_law_divided, b_law_divided := F_law_divided.binds (ps := ["one", "other"]) fun _ _ _ _ _ _ us hl => match us, hl with | [_, _], _ => rfl,
    f_law_same := f_law_same, fd_law_same := fd_law_same, F_law_same := F_law_same, g_law_same := g_law_same, b_law_same := F_law_same.binds (ps := ["actual", "due"]) fun _ _ _ _ _ _ us hl => match us, hl with | [_, _], _ => rfl,
    f_law := f_law, fd_law := fd_law, F_law := F_law, g_law := g_law, b_law := F_law.binds (ps := ["script"]) fun _ _ _ _ _ _ us hl => match us, hl with | [_], _ => rfl,
    n_abs := n_abs, n_all := n_all, n_any := n_any, n_bool := n_bool, n_int := n_int, n_isinstance := n_isinstance, n_len := n_len, n_max := n_max, n_min := n_min, n_range := n_range, n_set := n_set, n_sorted := n_sorted, n_str := n_str, n_tuple := n_tuple,
    c_ALL := c_ALL, c_MOST := c_MOST }⟩
end K40
namespace K40
open PySem PySem.Spec PyProof.Rows L2 DL
theorem c_all {K : PySem.W.Frag} {h : Heap} {mg : Str → Option Value} (X : K.In h) (G : h.Ns mainGlobals mg) {p : Addr} {od : Option Addr} {n : Nat} {sl : Array (Option Value)}
    (a : PySem.W.nsIn K mainGlobals "ALL" = some (some (.ref p))) (l : K.lookup p = some ⟨.type "tuple", od, .seq #[.none, .none] n, sl⟩) :
    ∀ {X : Cx} {b : Bs} {pos : Pos}, X.K = K → X.mg = mg → Gl X "ALL" → DE X b (.Name "ALL" pos) (cW (.tup [.non, .non])) := by
  intro Y b pos e1 e2 g
  have m := PySem.W.mg_of X G a
  refine de_glob (v := .ref p) g (by rw [e2]; exact m) rfl fun G μ => ?_
  refine .tup (vs := [.non, .non]) (.inr ⟨_, _, _, by
    show Y.K.lookup p = _
    rw [e1]; exact l, rfl, rfl, ?_, ?_⟩) (.cons .non (.cons .non .nil))
  · exact sz2
  · exact .cons rfl (.cons rfl .nil)
theorem c_int {mg : Str → Option Value} {x : Str} {n : Int} {t : Tok} (m : mg x = some (.int n t)) (hd : (x == ("__debug__" : Str)) = false) :
    ∀ {X : Cx} {b : Bs} {pos : Pos}, X.mg = mg → Gl X x → DE X b (.Name x pos) (cW (.int n)) := by
  intro Y b pos e2 g
  exact de_glob (v := .int n) g (by rw [e2]; exact m) ⟨t, rfl⟩ (fun G μ => .int n) hd
theorem law_fin {K : PySem.W.Frag} {mg : Str → Option Value} {fa : Addr} (hfa : mg "law" = some (.ref fa)) (T : Txt K mg) :
    ∃ fd : FuncData, (∀ (s : Shared) (u : Value), BindsTo s fd ⟨[u], []⟩ [("script", u)]) ∧ ∀ (P : Program) (w : World) (base : Heap), FnOk P w K mg base (L2.CX P w) 6 fa fd ["script"] (spD K mg m_law) := by
  have e : T.f_law = fa := by
    have q := T.g_law.symm.trans hfa
    cases q; rfl
  refine ⟨T.fd_law, fun s u => ?_, fun P w base => e ▸ ok_law T⟩
  obtain ⟨oc, od, kV, doc, pm, an, cdv, ct, osl, hfd, lk, hcd⟩ := T.F_law.ex
  rw [hfd]
  exact .of_eq rfl
theorem law_start {K : PySem.W.Frag} {mg : Str → Option Value} {H : Hp} {a : Addr} {ns : List Int} (hl : ns.length ≤ 63) (hS : SqL K H a (ns.map V.int)) : spD K mg m_law [.ref a] H (fun v _ => v = .bl true) fun _ _ _ => False := by
  refine ⟨[.rol (ns.map .int)], [], [], H, fun d _ => d = .bl true, .one (.rol hS (Reps.of_ints ns)), ⟨Same.refl _, rfl, List.nodup_nil, fun n a cl h => by simp at h, Stp.refl _ _ _⟩, ?_, fun v H' d S' μ' G' _ _ r q => ?_⟩
  · show m_law [.rol (ns.map .int)] [] _
    simp only [m_law, intsOf_map]
    exact ⟨by omega, trivial, fun _ => trivial⟩
  · subst q
    cases r; rfl
theorem walk_fin {l : PySem.W.OpenLaw} {q : Program} {loose : List Str} {XP : (Str → Option Value) → Heap → Prop} {YP : World → Heap → Prop} {d : DefRec} {K : Params → PySem.W.Frag} (hn : l.most = some 63) (hdf : d.params.defaults = [])
    (hY : ∀ (w : World) (h : Heap), YP w h → (K w.params).In h)
    (F : ∀ (w : World) (mg : Str → Option Value) (fa : Addr) (h : Heap), (K w.params).In h → h.Ns mainGlobals mg → XP mg h → mg d.name = some (.ref fa) →
      ∃ fd : FuncData, (∀ (s : Shared) (u : Value), BindsTo s fd ⟨[u], []⟩ [("script", u)]) ∧ ∀ (P : Program) (w' : World) (base : Heap), FnOk P w' (K w.params) mg base (L2.CX P w') 6 fa fd ["script"] (spD (K w.params) mg m_law)) :
    PySem.W.WalkO q loose XP YP l.row.toRowW d [] (fun f vs => PySem.call f vs) := by
  refine Att.attach_call hn hdf fun w s₀ s₁ mg mb fa o pm cd doc a vs ns G Y ho hd hcd hmg hobj hints hlen hg => ?_
  have KX := hY w _ Y
  obtain ⟨fd, hb, hF⟩ := F w mg fa _ KX G.T.g G.X hmg
  exact law_call KX G.T.g G.T.b G.T.builtins G.T.nolimit hg hobj hints (Nat.le_trans hlen (by decide)) ⟨rfl, by decide, by decide⟩ (fun base _ _ => hF l.prog w base) hb (fun H hO hS => law_start hlen hS) fun H e s' hc => by
    obtain ⟨_, _, _, _, _, _, _, _, _, _, _, _, z⟩ := hc
    exact z
end K40
open PySem PySem.W PyProof.Rows
set_option maxRecDepth 100000 in
set_option maxHeartbeats 0 in
theorem PySem.Challenge.cw_foreseen_k40_whole_spans_holds : PySem.Challenge.rw_foreseen_k40_whole_spans.Holds := by
  w_on; o_law; k_head; (case hw => w_witness2)
  k_fill
  refine K40.walk_fin (l := PySem.Challenge.rw_foreseen_k40_whole_spans) rfl rfl (fun w h Y => PySem.W.kIn_of Y) ?F
  case F =>
    intro w mg fa h KX G XX hmg
    have d_is_span : K40.DefOk (L2.KOf KX) mg "is_span" K40.s_is_span := by
      refine' K40.def_mk KX G ?a ?l ?c ?k
      (case a => k_is); (case l => k_is); (case c => k_is); (case k => k_is)
    have d_of : K40.DefOk (L2.KOf KX) mg "of" K40.s_of := by
      refine' K40.def_mk KX G ?a ?l ?c ?k
      (case a => k_is); (case l => k_is); (case c => k_is); (case k => k_is)
    have d_tamed : K40.DefOk (L2.KOf KX) mg "tamed" K40.s_tamed := by
      refine' K40.def_mk KX G ?a ?l ?c ?k
      (case a => k_is); (case l => k_is); (case c => k_is); (case k => k_is)
    have d_holds : K40.DefOk (L2.KOf KX) mg "holds" K40.s_holds := by
      refine' K40.def_mk KX G ?a ?l ?c ?k
      (case a => k_is); (case l => k_is); (case c => k_is); (case k => k_is)
    have d_is_within : K40.DefOk (L2.KOf KX) mg "is_within" K40.s_is_within := by
      refine' K40.def_mk KX G ?a ?l ?c ?k
      (case a => k_is); (case l => k_is); (case c => k_is); (case k => k_is)
    have d_join : K40.DefOk (L2.KOf KX) mg "join" K40.s_join := by
      refine' K40.def_mk KX G ?a ?l ?c ?k
      (case a => k_is); (case l => k_is); (case c => k_is); (case k => k_is)
    have d_meet : K40.DefOk (L2.KOf KX) mg "meet" K40.s_meet := by
      refine' K40.def_mk KX G ?a ?l ?c ?k
      (case a => k_is); (case l => k_is); (case c => k_is); (case k => k_is)
    have d_widen : K40.DefOk (L2.KOf KX) mg "widen" K40.s_widen := by
      refine' K40.def_mk KX G ?a ?l ?c ?k
      (case a => k_is); (case l => k_is); (case c => k_is); (case k => k_is)
    have d_narrow : K40.DefOk (L2.KOf KX) mg "narrow" K40.s_narrow := by
      refine' K40.def_mk KX G ?a ?l ?c ?k
      (case a => k_is); (case l => k_is); (case c => k_is); (case k => k_is)
    have d_add : K40.DefOk (L2.KOf KX) mg "add" K40.s_add := by
      refine' K40.def_mk KX G ?a ?l ?c ?k
      (case a => k_is); (case l => k_is); (case c => k_is); (case k => k_is)
    have d_contrary : K40.DefOk (L2.KOf KX) mg "contrary" K40.s_contrary := by
      refine' K40.def_mk KX G ?a ?l ?c ?k
      (case a => k_is); (case l => k_is); (case c => k_is); (case k => k_is)
    have d_size_of : K40.DefOk (L2.KOf KX) mg "size_of" K40.s_size_of := by
      refine' K40.def_mk KX G ?a ?l ?c ?k
      (case a => k_is); (case l => k_is); (case c => k_is); (case k => k_is)
    have d_law_tape : K40.DefOk (L2.KOf KX) mg "_law_tape" K40.s_law_tape := by
      refine' K40.def_mk KX G ?a ?l ?c ?k
      (case a => k_is); (case l => k_is); (case c => k_is); (case k => k_is)
    have d_law_draw : K40.DefOk (L2.KOf KX) mg "_law_draw" K40.s_law_draw := by
      refine' K40.def_mk KX G ?a ?l ?c ?k
      (case a => k_is); (case l => k_is); (case c => k_is); (case k => k_is)
    have d_law_far : K40.DefOk (L2.KOf KX) mg "_law_far" K40.s_law_far := by
      refine' K40.def_mk KX G ?a ?l ?c ?k
      (case a => k_is); (case l => k_is); (case c => k_is); (case k => k_is)
    have d_law_near : K40.DefOk (L2.KOf KX) mg "_law_near" K40.s_law_near := by
      refine' K40.def_mk KX G ?a ?l ?c ?k
      (case a => k_is); (case l => k_is); (case c => k_is); (case k => k_is)
    have d_law_numbers : K40.DefOk (L2.KOf KX) mg "_law_numbers" K40.s_law_numbers := by
      refine' K40.def_mk KX G ?a ?l ?c ?k
      (case a => k_is); (case l => k_is); (case c => k_is); (case k => k_is)
    have d_law_in : K40.DefOk (L2.KOf KX) mg "_law_in" K40.s_law_in := by
      refine' K40.def_mk KX G ?a ?l ?c ?k
      (case a => k_is); (case l => k_is); (case c => k_is); (case k => k_is)
    have d_subtract : K40.DefOk (L2.KOf KX) mg "subtract" K40.s_subtract := by
      refine' K40.def_mk KX G ?a ?l ?c ?k
      (case a => k_is); (case l => k_is); (case c => k_is); (case k => k_is)
    have d_end_signs : K40.DefOk (L2.KOf KX) mg "end_signs" K40.s_end_signs := by
      refine' K40.def_mk KX G ?a ?l ?c ?k
      (case a => k_is); (case l => k_is); (case c => k_is); (case k => k_is)
    have d_known_ends : K40.DefOk (L2.KOf KX) mg "known_ends" K40.s_known_ends := by
      refine' K40.def_mk KX G ?a ?l ?c ?k
      (case a => k_is); (case l => k_is); (case c => k_is); (case k => k_is)
    have d_by_part : K40.DefOk (L2.KOf KX) mg "by_part" K40.s_by_part := by
      refine' K40.def_mk KX G ?a ?l ?c ?k
      (case a => k_is); (case l => k_is); (case c => k_is); (case k => k_is)
    have d_remainder : K40.DefOk (L2.KOf KX) mg "remainder" K40.s_remainder := by
      refine' K40.def_mk KX G ?a ?l ?c ?k
      (case a => k_is); (case l => k_is); (case c => k_is); (case k => k_is)
    have d_law_pick : K40.DefOk (L2.KOf KX) mg "_law_pick" K40.s_law_pick := by
      refine' K40.def_mk KX G ?a ?l ?c ?k
      (case a => k_is); (case l => k_is); (case c => k_is); (case k => k_is)
    have d_law_held : K40.DefOk (L2.KOf KX) mg "_law_held" K40.s_law_held := by
      refine' K40.def_mk KX G ?a ?l ?c ?k
      (case a => k_is); (case l => k_is); (case c => k_is); (case k => k_is)
    have d_open_towards : K40.DefOk (L2.KOf KX) mg "open_towards" K40.s_open_towards := by
      refine' K40.def_mk KX G ?a ?l ?c ?k
      (case a => k_is); (case l => k_is); (case c => k_is); (case k => k_is)
    have d_least_product : K40.DefOk (L2.KOf KX) mg "least_product" K40.s_least_product := by
      refine' K40.def_mk KX G ?a ?l ?c ?k
      (case a => k_is); (case l => k_is); (case c => k_is); (case k => k_is)
    have d_greatest_product : K40.DefOk (L2.KOf KX) mg "greatest_product" K40.s_greatest_product := by
      refine' K40.def_mk KX G ?a ?l ?c ?k
      (case a => k_is); (case l => k_is); (case c => k_is); (case k => k_is)
    have d_divide : K40.DefOk (L2.KOf KX) mg "divide" K40.s_divide := by
      refine' K40.def_mk KX G ?a ?l ?c ?k
      (case a => k_is); (case l => k_is); (case c => k_is); (case k => k_is)
    have d_law_span : K40.DefOk (L2.KOf KX) mg "_law_span" K40.s_law_span := by
      refine' K40.def_mk KX G ?a ?l ?c ?k
      (case a => k_is); (case l => k_is); (case c => k_is); (case k => k_is)
    have d_multiply : K40.DefOk (L2.KOf KX) mg "multiply" K40.s_multiply := by
      refine' K40.def_mk KX G ?a ?l ?c ?k
      (case a => k_is); (case l => k_is); (case c => k_is); (case k => k_is)
    have d_law_divided : K40.DefOk (L2.KOf KX) mg "_law_divided" K40.s_law_divided := by
      refine' K40.def_mk KX G ?a ?l ?c ?k
      (case a => k_is); (case l => k_is); (case c => k_is); (case k => k_is)
    have d_law_same : K40.DefOk (L2.KOf KX) mg "_law_same" K40.s_law_same := by
      refine' K40.def_mk KX G ?a ?l ?c ?k
      (case a => k_is); (case l => k_is); (case c => k_is); (case k => k_is)
    have d_law : K40.DefOk (L2.KOf KX) mg "law" K40.s_law := by
      refine' K40.def_mk KX G ?a ?l ?c ?k
      (case a => k_is); (case l => k_is); (case c => k_is); (case k => k_is)
    have n_abs : mg "abs" = none := by
      refine' PySem.W.mg_none_of KX G ?z
      (case z => k_is)
    have n_all : mg "all" = none := by
      refine' PySem.W.mg_none_of KX G ?z
      (case z => k_is)
    have n_any : mg "any" = none := by
      refine' PySem.W.mg_none_of KX G ?z
      (case z => k_is)
    have n_bool : mg "bool" = none := by
      refine' PySem.W.mg_none_of KX G ?z
      (case z => k_is)
    have n_int : mg "int" = none := by
      refine' PySem.W.mg_none_of KX G ?z
      (case z => k_is)
    have n_isinstance : mg "isinstance" = none := by
      refine' PySem.W.mg_none_of KX G ?z
      (case z => k_is)
    have n_len : mg "len" = none := by
      refine' PySem.W.mg_none_of KX G ?z
      (case z => k_is)
    have n_max : mg "max" = none := by
      refine' PySem.W.mg_none_of KX G ?z
      (case z => k_is)
    have n_min : mg "min" = none := by
      refine' PySem.W.mg_none_of KX G ?z
      (case z => k_is)
    have n_range : mg "range" = none := by
      refine' PySem.W.mg_none_of KX G ?z
      (case z => k_is)
    have n_set : mg "set" = none := by
      refine' PySem.W.mg_none_of KX G ?z
      (case z => k_is)
    have n_sorted : mg "sorted" = none := by
      refine' PySem.W.mg_none_of KX G ?z
      (case z => k_is)
    have n_str : mg "str" = none := by
      refine' PySem.W.mg_none_of KX G ?z
      (case z => k_is)
    have n_tuple : mg "tuple" = none := by
      refine' PySem.W.mg_none_of KX G ?z
      (case z => k_is)
    obtain ⟨vM, mM, rM⟩ := XX.2.val ("MOST", WData.int 1000000000000000000000000000000000000000000000000000000000000) List.mem_cons_self
    obtain ⟨tM, eM, _⟩ := readsW_int_inv rM
    rw [eM, show (1000000000000000000000000000000000000000000000000000000000000 : Int) = 10 ^ 60 by decide +kernel] at mM
    have c_ALL : ∀ {X : L2.Cx} {b : DL.Bs} {pos : Pos}, X.K = L2.KOf KX → X.mg = mg → L2.Gl X "ALL" → DL.DE X b (.Name "ALL" pos) (DL.cW (.tup [.non, .non])) := by
      refine' K40.c_all KX G ?a ?l
      (case a => k_is); (case l => k_is)
    obtain ⟨T⟩ := K40.txt_mk d_is_span d_of d_tamed d_holds d_is_within d_join d_meet d_widen d_narrow d_add d_contrary d_size_of d_law_tape d_law_draw d_law_far d_law_near d_law_numbers d_law_in d_subtract d_end_signs d_known_ends d_by_part d_remainder d_law_pick d_law_held d_open_towards d_least_product d_greatest_product d_divide d_law_span d_multiply d_law_divided d_law_same d_law n_abs n_all n_any n_bool n_int n_isinstance n_len n_max n_min n_range n_set n_sorted n_str n_tuple c_ALL (fun _ e g => K40.c_int (x := "MOST") mM (by decide) e g)
    exact K40.law_fin hmg T
