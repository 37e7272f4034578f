import PyProof.Rows.All
import Wide.All
import OpenK.AllK
import Wide.FinOn
import HandS.ForMost
import HandS.ForExc
import HandS.Style
import HandS.Flow
import HandS.IsInst
import HandS.SortInts
import HandS.SetFor
import HandS.Strs
import PySem.Challenge.RW_foreseen_k41_whole_rests
set_option Elab.async false
set_option linter.all false
set_option maxRecDepth 100000
set_option maxHeartbeats 4000000
/-! DL: the data layer. Values as data, mutable objects as cells of a store; every construct of the hand layer as a transformer over data. -/
namespace DL
open PySem PySem.Spec PyProof.Rows L2

/-! ### data -/
inductive D where
  | non | bl (b : Bool) | int (i : Int) | str (x : Str) | ty (n : String)
  | tup (ds : List D) | lst (ds : List D) | rol (ds : List D)
  | loc (n : Nat)
inductive Cell where
  | dead | lst (ds : List D)
abbrev Store := List Cell
abbrev Rho := List (Option D)
def D.isNon : D → Bool
  | .non => true
  | _ => false

/-- the surroundings: the written part, the module's names, the state at the entry -/
structure Dc where
  K : PySem.W.Frag
  mg : Str → Option Value
  H0 : Hp
  μ0 : List Addr
  G0 : Hp

/-! ### a value bears a datum -/
mutual
inductive Rep (c : Dc) (G : Hp) (μ : List Addr) : V → D → Prop
  | non : Rep c G μ .non .non
  | bl (b : Bool) : Rep c G μ (.bl b) (.bl b)
  | int (i : Int) : Rep c G μ (.int i) (.int i)
  | str (x : Str) : Rep c G μ (.str x) (.str x)
  | ty (n : String) : Rep c G μ (.ty n) (.ty n)
  | tup {a : Addr} {vs : List V} {ds : List D} : SqT c.K G a vs → Reps c G μ vs ds → Rep c G μ (.ref a) (.tup ds)
  | lst {a : Addr} {vs : List V} {ds : List D} : G a = some (.lst vs) → Reps c G μ vs ds → Rep c G μ (.ref a) (.lst ds)
  | rol {a : Addr} {vs : List V} {ds : List D} : SqL c.K G a vs → Reps c G μ vs ds → Rep c G μ (.ref a) (.rol ds)
  | loc {a : Addr} {n : Nat} : μ[n]? = some a → Rep c G μ (.ref a) (.loc n)
inductive Reps (c : Dc) (G : Hp) (μ : List Addr) : List V → List D → Prop
  | nil : Reps c G μ [] []
  | cons {v : V} {vs : List V} {d : D} {ds : List D} : Rep c G μ v d → Reps c G μ vs ds → Reps c G μ (v :: vs) (d :: ds)
end

/-- the state goes on: what was frozen stays, cells keep their places, what is no cell stays -/
structure Stp (H : Hp) (μ : List Addr) (G : Hp) (H' : Hp) (μ' : List Addr) (G' : Hp) : Prop where
  sg : Same G G'
  mu : ∀ (n : Nat) (a : Addr), μ[n]? = some a → μ'[n]? = some a
  fr : ∀ (a : Addr) (o : HO), H a = some o → a ∉ μ → H' a = some o
  nw : ∀ a ∈ μ', a ∈ μ ∨ H a = none
  gn : ∀ (a : Addr) (o : HO), G' a = some o → G a = some o ∨ H a = none ∨ a ∈ μ
theorem Stp.refl (H : Hp) (μ : List Addr) (G : Hp) : Stp H μ G H μ G := ⟨Same.refl _, fun _ _ h => h, fun _ _ h _ => h, fun _ h => .inl h, fun _ _ h => .inl h⟩
theorem Stp.trans {H H1 H2 : Hp} {μ μ1 μ2 : List Addr} {G G1 G2 : Hp} (a : Stp H μ G H1 μ1 G1) (b : Stp H1 μ1 G1 H2 μ2 G2) : Stp H μ G H2 μ2 G2 where
  sg := a.sg.trans b.sg
  mu := fun n x h => b.mu n x (a.mu n x h)
  fr := fun x o h hn => b.fr x o (a.fr x o h hn) fun hm => by
    rcases a.nw x hm with z | z
    · exact hn z
    · rw [h] at z; cases z
  nw := fun x h => by
    rcases b.nw x h with z | z
    · exact a.nw x z
    · by_cases hm : x ∈ μ
      · exact .inl hm
      · right
        cases q : H x with
        | none => rfl
        | some o => rw [a.fr x o q hm] at z; cases z
  gn := fun x o h => by
    have old : ∀ z : H1 x = none, H x = none ∨ x ∈ μ := fun z => by
      by_cases hm : x ∈ μ
      · exact .inr hm
      · left
        cases q : H x with
        | none => rfl
        | some o => rw [a.fr x o q hm] at z; cases z
    rcases b.gn x o h with z | z | z
    · exact a.gn x o z
    · exact .inr (old z)
    · rcases a.nw x z with y | y
      · exact .inr (.inr y)
      · exact .inr (.inl y)

theorem sqT_mono {K : PySem.W.Frag} {G G' : Hp} {a : Addr} {vs : List V} (e : Same G G') (h : SqT K G a vs) : SqT K G' a vs := by
  rcases h with (h | ⟨o, h⟩) | h
  · exact .inl (.inl (e _ _ h))
  · exact .inl (.inr ⟨o, e _ _ h⟩)
  · exact .inr h
section
variable {c : Dc} {G G' H : Hp} {μ μ' : List Addr}
mutual
theorem Rep.mono (e : Same G G') (m : ∀ (n : Nat) (a : Addr), μ[n]? = some a → μ'[n]? = some a) : ∀ (d : D) (v : V), Rep c G μ v d → Rep c G' μ' v d
  | .non, _, h => by cases h; exact .non
  | .bl _, _, h => by cases h; exact .bl _
  | .int _, _, h => by cases h; exact .int _
  | .str _, _, h => by cases h; exact .str _
  | .ty _, _, h => by cases h; exact .ty _
  | .tup ds, _, h => by
    cases h with
    | tup h1 h2 => exact .tup (sqT_mono e h1) (Reps.mono e m ds _ h2)
  | .lst ds, _, h => by
    cases h with
    | lst h1 h2 => exact .lst (e _ _ h1) (Reps.mono e m ds _ h2)
  | .rol ds, _, h => by
    cases h with
    | rol h1 h2 => exact .rol (e.seq h1) (Reps.mono e m ds _ h2)
  | .loc _, _, h => by
    cases h with
    | loc h1 => exact .loc (m _ _ h1)
theorem Reps.mono (e : Same G G') (m : ∀ (n : Nat) (a : Addr), μ[n]? = some a → μ'[n]? = some a) : ∀ (ds : List D) (vs : List V), Reps c G μ vs ds → Reps c G' μ' vs ds
  | [], _, h => by cases h; exact .nil
  | d :: ds, _, h => by
    cases h with
    | cons h1 h2 => exact .cons (Rep.mono e m d _ h1) (Reps.mono e m ds _ h2)
end
theorem Rep.go {H' : Hp} {v : V} {d : D} (h : Rep c G μ v d) (s : Stp H μ G H' μ' G') : Rep c G' μ' v d := h.mono s.sg s.mu d v
theorem Reps.go {H' : Hp} {vs : List V} {ds : List D} (h : Reps c G μ vs ds) (s : Stp H μ G H' μ' G') : Reps c G' μ' vs ds := h.mono s.sg s.mu ds vs
theorem Reps.length : ∀ {vs : List V} {ds : List D}, Reps c G μ vs ds → vs.length = ds.length
  | [], _, h => by cases h; rfl
  | _ :: _, _, h => by
    cases h with
    | cons _ h2 => rw [List.length_cons, List.length_cons, h2.length]
theorem Reps.get : ∀ {vs : List V} {ds : List D} {i : Nat} {d : D}, Reps c G μ vs ds → ds[i]? = some d → ∃ v, vs[i]? = some v ∧ Rep c G μ v d
  | [], _, i, d, h, e => by cases h; simp at e
  | v :: vs, _, 0, d, h, e => by
    cases h with
    | cons h1 h2 =>
      simp at e
      subst e
      exact ⟨v, by simp, h1⟩
  | v :: vs, _, i + 1, d, h, e => by
    cases h with
    | cons h1 h2 =>
      obtain ⟨u, h3, h4⟩ := h2.get (i := i) (by simpa using e)
      exact ⟨u, by simpa using h3, h4⟩
theorem Reps.get' : ∀ {vs : List V} {ds : List D} {i : Nat} {v : V}, Reps c G μ vs ds → vs[i]? = some v → ∃ d, ds[i]? = some d ∧ Rep c G μ v d
  | [], _, i, d, h, e => by cases h; simp at e
  | w :: vs, _, 0, v, h, e => by
    cases h with
    | @cons _ _ d _ h1 h2 =>
      simp at e
      subst e
      exact ⟨d, by simp, h1⟩
  | w :: vs, _, i + 1, v, h, e => by
    cases h with
    | cons h1 h2 =>
      obtain ⟨u, h3, h4⟩ := h2.get' (i := i) (by simpa using e)
      exact ⟨u, by simpa using h3, h4⟩
theorem Reps.append : ∀ {vs ws : List V} {ds es : List D}, Reps c G μ vs ds → Reps c G μ ws es → Reps c G μ (vs ++ ws) (ds ++ es)
  | [], _, _, _, h, k => by cases h; exact k
  | _ :: _, _, _, _, h, k => by
    cases h with
    | cons h1 h2 => exact .cons h1 (h2.append k)
theorem Reps.one {v : V} {d : D} (h : Rep c G μ v d) : Reps c G μ [v] [d] := .cons h .nil
theorem Reps.set : ∀ {vs : List V} {ds : List D} (i : Nat) {v : V} {d : D}, Reps c G μ vs ds → Rep c G μ v d → Reps c G μ (vs.set i v) (ds.set i d)
  | [], _, _, _, _, h, _ => by cases h; exact .nil
  | _ :: _, _, 0, _, _, h, k => by
    cases h with
    | cons h1 h2 => exact .cons k h2
  | _ :: _, _, i + 1, _, _, h, k => by
    cases h with
    | cons h1 h2 => exact .cons h1 (h2.set i k)
theorem Reps.take : ∀ {vs : List V} {ds : List D} (n : Nat), Reps c G μ vs ds → Reps c G μ (vs.take n) (ds.take n)
  | _, _, 0, _ => .nil
  | [], _, n + 1, h => by cases h; exact .nil
  | _ :: _, _, n + 1, h => by
    cases h with
    | cons h1 h2 => exact .cons h1 (h2.take n)
theorem Reps.drop : ∀ {vs : List V} {ds : List D} (n : Nat), Reps c G μ vs ds → Reps c G μ (vs.drop n) (ds.drop n)
  | _, _, 0, h => h
  | [], _, n + 1, h => by cases h; exact .nil
  | _ :: _, _, n + 1, h => by
    cases h with
    | cons h1 h2 => exact h2.drop n
theorem Reps.eraseIdx : ∀ {vs : List V} {ds : List D} (i : Nat), Reps c G μ vs ds → Reps c G μ (vs.eraseIdx i) (ds.eraseIdx i)
  | [], _, _, h => by cases h; exact .nil
  | _ :: _, _, 0, h => by
    cases h with
    | cons h1 h2 => exact h2
  | _ :: _, _, i + 1, h => by
    cases h with
    | cons h1 h2 => exact .cons h1 (h2.eraseIdx i)
theorem Reps.dropLast : ∀ {vs : List V} {ds : List D}, Reps c G μ vs ds → Reps c G μ vs.dropLast ds.dropLast
  | [], _, h => by cases h; exact .nil
  | [_], _, h => by
    cases h with
    | cons h1 h2 => cases h2; exact .nil
  | v :: w :: vs, _, h => by
    cases h with
    | cons h1 h2 =>
      cases h2 with
      | cons h3 h4 => exact .cons h1 (Reps.dropLast (.cons h3 h4))
theorem Reps.reverse {vs : List V} {ds : List D} (h : Reps c G μ vs ds) : Reps c G μ vs.reverse ds.reverse := by
  induction vs generalizing ds with
  | nil => cases h; exact .nil
  | cons v vs ih =>
    cases h with
    | cons h1 h2 =>
      rw [List.reverse_cons, List.reverse_cons]
      exact (ih h2).append (.one h1)
theorem Reps.ints : ∀ {ns : List Int} {vs : List V}, Reps c G μ vs (ns.map D.int) → vs = ns.map V.int
  | [], _, h => by cases h; rfl
  | n :: ns, _, h => by
    cases h with
    | cons h1 h2 =>
      cases h1
      rw [List.map_cons, h2.ints]
theorem Reps.of_ints : ∀ (ns : List Int), Reps c G μ (ns.map V.int) (ns.map D.int)
  | [] => .nil
  | n :: ns => .cons (.int n) (Reps.of_ints ns)
theorem Reps.bls : ∀ {ns : List Bool} {vs : List V}, Reps c G μ vs (ns.map D.bl) → vs = ns.map V.bl
  | [], _, h => by cases h; rfl
  | n :: ns, _, h => by
    cases h with
    | cons h1 h2 =>
      cases h1
      rw [List.map_cons, h2.bls]
theorem Rep.isNon {v : V} {d : D} (h : Rep c G μ v d) : decide (v = V.non) = d.isNon := by
  cases h <;> rfl
end

/-! ### the store lies in the heap -/
def RepC (c : Dc) (G : Hp) (μ : List Addr) (H : Hp) (a : Addr) : Cell → Prop
  | .dead => ∃ o, H a = some o
  | .lst ds => G a = none ∧ ∃ vs, H a = some (.lst vs) ∧ Reps c G μ vs ds
theorem RepC.there {c : Dc} {G : Hp} {μ : List Addr} {H : Hp} {a : Addr} : ∀ {cl : Cell}, RepC c G μ H a cl → ∃ o, H a = some o
  | .dead, h => h
  | .lst _, ⟨_, _, h, _⟩ => ⟨_, h⟩
structure Ag0 (c : Dc) (H : Hp) (S : Store) (μ : List Addr) (G : Hp) : Prop where
  same : Same G H
  len : μ.length = S.length
  nd : μ.Nodup
  cell : ∀ (n : Nat) (a : Addr) (cl : Cell), μ[n]? = some a → S[n]? = some cl → RepC c G μ H a cl
  base : Stp c.H0 c.μ0 c.G0 H μ G
def lk : Rho → Nat → Option D
  | [], _ => none
  | x :: _, 0 => x
  | _ :: r, i + 1 => lk r i
structure Ag (c : Dc) (σ : L2.St) (H : Hp) (ρ : Rho) (S : Store) (μ : List Addr) (G : Hp) : Prop where
  ag : Ag0 c H S μ G
  len : σ.length = ρ.length
  slot : ∀ (i : Nat) (d : D), lk ρ i = some d → ∃ v, σ[i]? = some (some v) ∧ Rep c G μ v d
section
variable {c : Dc} {G G' H H' : Hp} {μ μ' : List Addr} {S S' : Store} {σ : L2.St} {ρ : Rho}
theorem Ag0.there (A : Ag0 c H S μ G) {a : Addr} (h : a ∈ μ) : ∃ o, H a = some o := by
  obtain ⟨n, hn⟩ := List.getElem?_of_mem h
  have hl : n < S.length := by rw [← A.len]; exact (List.getElem?_eq_some_iff.mp hn).1
  exact (A.cell n a _ hn (List.getElem?_eq_getElem hl)).there
theorem Ag0.fresh (A : Ag0 c H S μ G) {p : Addr} (h : H p = none) : p ∉ μ ∧ G p = none := by
  refine ⟨fun hm => ?_, ?_⟩
  · obtain ⟨o, ho⟩ := A.there hm
    rw [h] at ho; cases ho
  · exact A.same.free h
theorem Ag.go (A : Ag c σ H ρ S μ G) (s : Stp H μ G H' μ' G') (B : Ag0 c H' S' μ' G') : Ag c σ H' ρ S' μ' G' :=
  ⟨B, A.len, fun i d h => let ⟨v, h1, h2⟩ := A.slot i d h; ⟨v, h1, h2.go s⟩⟩
theorem same_new {G : Hp} {p : Addr} {o : HO} (h : G p = none) : Same G (upd G p o) := fun b x e => by
  rw [upd_ne (ne_of_none e h)]
  exact e
/-- the next state by new frozen objects -/
theorem Ag0.frz (A : Ag0 c H S μ G) {p : Addr} {o : HO} (h : H p = none) : Ag0 c (upd H p o) S μ (upd G p o) ∧ Stp H μ G (upd H p o) μ (upd G p o) := by
  obtain ⟨hm, hg⟩ := A.fresh h
  have st : Stp H μ G (upd H p o) μ (upd G p o) := by
    refine ⟨same_new hg, fun _ _ h => h, fun a u hu _ => by rw [upd_ne (ne_of_none hu h)]; exact hu, fun _ h => .inl h, fun a u hu => ?_⟩
    by_cases e : a = p
    · exact .inr (.inl (e ▸ h))
    · rw [upd_ne e] at hu; exact .inl hu
  refine ⟨⟨fun b u e => ?_, A.len, A.nd, fun n a cl hn hs => ?_, A.base.trans st⟩, st⟩
  · by_cases hb : b = p
    · subst hb; rw [upd_same] at e ⊢; exact e
    · rw [upd_ne hb] at e ⊢; exact A.same b u e
  · have q := A.cell n a cl hn hs
    have na : a ≠ p := fun e => hm (e ▸ List.mem_of_getElem? hn)
    cases cl with
    | dead => obtain ⟨o, ho⟩ := q; exact ⟨o, by rw [upd_ne na]; exact ho⟩
    | lst ds =>
      obtain ⟨h1, vs, h2, h3⟩ := q
      exact ⟨by rw [upd_ne na]; exact h1, vs, by rw [upd_ne na]; exact h2, h3.go st⟩
theorem getElem?_snoc {α : Type} {l : List α} {x y : α} {n : Nat} (h : (l ++ [x])[n]? = some y) : l[n]? = some y ∨ (n = l.length ∧ y = x) := by
  by_cases hn : n < l.length
  · rw [List.getElem?_append_left hn] at h; exact .inl h
  · rw [List.getElem?_append_right (by omega)] at h
    right
    by_cases h0 : n - l.length = 0
    · refine ⟨by omega, ?_⟩
      rw [h0] at h
      simpa using h.symm
    · obtain ⟨k, hk⟩ : ∃ k, n - l.length = k + 1 := ⟨n - l.length - 1, by omega⟩
      rw [hk] at h
      simp at h
theorem getElem?_snoc_old {α : Type} {l : List α} {x y : α} {n : Nat} (h : l[n]? = some y) : (l ++ [x])[n]? = some y := by
  rw [List.getElem?_append_left (List.getElem?_eq_some_iff.mp h).1]; exact h
/-- .. by a new cell -/
theorem Ag0.new (A : Ag0 c H S μ G) {p : Addr} {vs : List V} {ds : List D} (h : H p = none) (r : Reps c G μ vs ds) :
    Ag0 c (upd H p (.lst vs)) (S ++ [.lst ds]) (μ ++ [p]) G ∧ Stp H μ G (upd H p (.lst vs)) (μ ++ [p]) G := by
  obtain ⟨hm, hg⟩ := A.fresh h
  have st : Stp H μ G (upd H p (.lst vs)) (μ ++ [p]) G := by
    refine ⟨Same.refl _, fun _ _ h => getElem?_snoc_old h, fun a u hu _ => by rw [upd_ne (ne_of_none hu h)]; exact hu, fun a ha => ?_, fun _ _ h => .inl h⟩
    rcases List.mem_append.mp ha with z | z
    · exact .inl z
    · right
      have e : a = p := by simpa using z
      rw [e]; exact h
  refine ⟨⟨fun b u e => ?_, by simp [A.len], ?_, fun n a cl hn hs => ?_, A.base.trans st⟩, st⟩
  · have nb : b ≠ p := ne_of_none e hg
    rw [upd_ne nb]; exact A.same b u e
  · rw [List.nodup_append]
    refine ⟨A.nd, by simp, fun x hx y hy e => ?_⟩
    have e2 : y = p := by simpa using hy
    subst e; subst e2
    exact hm hx
  · rcases getElem?_snoc hn with hn | ⟨hnl, ea⟩
    · have hl : n < S.length := by rw [← A.len]; exact (List.getElem?_eq_some_iff.mp hn).1
      rw [List.getElem?_append_left hl] at hs
      have q := A.cell n a cl hn hs
      have na : a ≠ p := fun e => hm (e ▸ List.mem_of_getElem? hn)
      cases cl with
      | dead => obtain ⟨o, ho⟩ := q; exact ⟨o, by rw [upd_ne na]; exact ho⟩
      | lst ds =>
        obtain ⟨h1, vs, h2, h3⟩ := q
        exact ⟨h1, vs, by rw [upd_ne na]; exact h2, h3.go st⟩
    · subst ea
      rw [hnl, A.len, List.getElem?_append_right (Nat.le_refl _), Nat.sub_self] at hs
      have e : cl = .lst ds := by simpa using hs.symm
      subst e
      exact ⟨hg, vs, upd_same, r.go st⟩
/-- .. by a changed cell -/
theorem Ag0.put (A : Ag0 c H S μ G) {n : Nat} {a : Addr} {vs : List V} {es ds : List D} (hn : μ[n]? = some a) (hs : S[n]? = some (.lst es)) (r : Reps c G μ vs ds) :
    Ag0 c (upd H a (.lst vs)) (S.set n (.lst ds)) μ G ∧ Stp H μ G (upd H a (.lst vs)) μ G := by
  obtain ⟨hg, ws, h2, h3⟩ := A.cell n a _ hn hs
  have st : Stp H μ G (upd H a (.lst vs)) μ G := by
    refine ⟨Same.refl _, fun _ _ h => h, fun b u hu hb => ?_, fun _ h => .inl h, fun _ _ h => .inl h⟩
    have : b ≠ a := fun e => hb (e ▸ List.mem_of_getElem? hn)
    rw [upd_ne this]; exact hu
  refine ⟨⟨fun b u e => ?_, by simp [A.len], A.nd, fun m b cl hm hcl => ?_, A.base.trans st⟩, st⟩
  · have nb : b ≠ a := ne_of_none e hg
    rw [upd_ne nb]; exact A.same b u e
  · by_cases e : m = n
    · subst e
      rw [hn] at hm; cases hm
      have hl : m < S.length := (List.getElem?_eq_some_iff.mp hs).1
      rw [List.getElem?_set_self hl] at hcl
      cases hcl
      exact ⟨hg, vs, upd_same, r⟩
    · rw [List.getElem?_set_ne (Ne.symm e)] at hcl
      have nb : b ≠ a := fun z => by
        subst z
        exact e (nd_ix A.nd hm hn)
      have q := A.cell m b cl hm hcl
      cases cl with
      | dead => obtain ⟨o, ho⟩ := q; exact ⟨o, by rw [upd_ne nb]; exact ho⟩
      | lst ds =>
        obtain ⟨h1, vs, h2, h3⟩ := q
        exact ⟨h1, vs, by rw [upd_ne nb]; exact h2, h3⟩
/-- an own object that is neither frozen nor a cell, made behind H1, is written -/
theorem Ag0.own {H1 : Hp} {S1 : Store} {μ1 : List Addr} {G1 : Hp} (A1 : Ag0 c H1 S1 μ1 G1) (A : Ag0 c H S μ G) (s : Stp H1 μ1 G1 H μ G) {p : Addr} {o : HO} (h : H1 p = none) (hm : p ∉ μ) (hg : G p = none) :
    Ag0 c (upd H p o) S μ G ∧ Stp H1 μ1 G1 (upd H p o) μ G := by
  have st : Stp H1 μ1 G1 (upd H p o) μ G := ⟨s.sg, s.mu, fun a u hu ha => by rw [upd_ne (ne_of_none hu h)]; exact s.fr a u hu ha, s.nw, s.gn⟩
  refine ⟨⟨fun b u e => ?_, A.len, A.nd, fun n a cl hn hs => ?_, A1.base.trans st⟩, st⟩
  · rw [upd_ne (ne_of_none e hg)]; exact A.same b u e
  · have q := A.cell n a cl hn hs
    have na : a ≠ p := fun e => hm (e ▸ List.mem_of_getElem? hn)
    cases cl with
    | dead => obtain ⟨o, ho⟩ := q; exact ⟨o, by rw [upd_ne na]; exact ho⟩
    | lst ds =>
      obtain ⟨h1, vs, h2, h3⟩ := q
      exact ⟨h1, vs, by rw [upd_ne na]; exact h2, h3⟩
theorem Ag0.at (A : Ag0 c H S μ G) {n : Nat} {a : Addr} {ds : List D} (hn : μ[n]? = some a) (hs : S[n]? = some (.lst ds)) : ∃ vs, H a = some (.lst vs) ∧ Reps c G μ vs ds := by
  obtain ⟨_, vs, h2, h3⟩ := A.cell n a _ hn hs
  exact ⟨vs, h2, h3⟩

/-- the items of a list or a cell | of any row of items -/
def lstOf (S : Store) : D → Option (List D)
  | .lst ds => some ds
  | .loc n => match S[n]? with
    | some (.lst ds) => some ds
    | _ => none
  | _ => none
def seqOf (S : Store) : D → Option (List D)
  | .tup ds => some ds
  | .rol ds => some ds
  | .lst ds => some ds
  | .loc n => match S[n]? with
    | some (.lst ds) => some ds
    | _ => none
  | _ => none
/-- a list that is tracked -/
theorem Ag0.lstT (A : Ag0 c H S μ G) {v : V} {d : D} {ds : List D} (r : Rep c G μ v d) (h : lstOf S d = some ds) : ∃ a vs, v = .ref a ∧ H a = some (.lst vs) ∧ Reps c G μ vs ds := by
  cases r with
  | lst h1 h2 =>
    cases h
    exact ⟨_, _, rfl, A.same _ _ h1, h2⟩
  | @loc a n h1 =>
    simp only [lstOf] at h
    split at h
    · rename_i e
      cases h
      obtain ⟨vs, h2, h3⟩ := A.at h1 e
      exact ⟨_, _, rfl, h2, h3⟩
    · cases h
  | _ => cases h
/-- a row that is read -/
theorem Ag0.seqR (A : Ag0 c H S μ G) {v : V} {d : D} {ds : List D} (r : Rep c G μ v d) (h : seqOf S d = some ds) : ∃ a vs, v = .ref a ∧ (SqL c.K H a vs ∨ SqT c.K H a vs) ∧ Reps c G μ vs ds := by
  cases r with
  | tup h1 h2 =>
    cases h
    exact ⟨_, _, rfl, .inr (sqT_mono A.same h1), h2⟩
  | rol h1 h2 =>
    cases h
    exact ⟨_, _, rfl, .inl (A.same.seq h1), h2⟩
  | lst h1 h2 =>
    cases h
    exact ⟨_, _, rfl, .inl (SqL.of (A.same _ _ h1)), h2⟩
  | @loc a n h1 =>
    simp only [seqOf] at h
    split at h
    · rename_i e
      cases h
      obtain ⟨vs, h2, h3⟩ := A.at h1 e
      exact ⟨_, _, rfl, .inl (SqL.of h2), h3⟩
    · cases h
  | _ => cases h
theorem Ag0.tupR (A : Ag0 c H S μ G) {v : V} {ds : List D} (r : Rep c G μ v (.tup ds)) : ∃ a vs, v = .ref a ∧ SqT c.K H a vs ∧ Reps c G μ vs ds := by
  cases r with
  | tup h1 h2 => exact ⟨_, _, rfl, sqT_mono A.same h1, h2⟩

/-! ### names -/
theorem lk_set_same : ∀ {ρ : Rho} {i : Nat} {x : Option D}, i < ρ.length → lk (ρ.set i x) i = x
  | [], _, _, h => by simp at h
  | _ :: _, 0, _, _ => rfl
  | _ :: r, i + 1, _, h => lk_set_same (ρ := r) (i := i) (by simpa using h)
theorem lk_set_ne : ∀ {ρ : Rho} {i j : Nat} {x : Option D}, i ≠ j → lk (ρ.set i x) j = lk ρ j
  | [], _, _, _, _ => rfl
  | _ :: _, 0, 0, _, h => absurd rfl h
  | _ :: _, 0, _ + 1, _, _ => rfl
  | _ :: _, _ + 1, 0, _, _ => rfl
  | _ :: r, i + 1, j + 1, _, h => lk_set_ne (ρ := r) (fun e => h (by rw [e]))
theorem lk_len : ∀ {ρ : Rho} {i : Nat} {d : D}, lk ρ i = some d → i < ρ.length
  | [], _, _, h => by cases h
  | _ :: _, 0, _, _ => by simp
  | _ :: r, i + 1, _, h => by
    have := lk_len (ρ := r) (i := i) h
    simpa using this
theorem Ag.set (A : Ag c σ H ρ S μ G) {i : Nat} {v : V} {d : D} (r : Rep c G μ v d) : Ag c (σ.set i (some v)) H (ρ.set i (some d)) S μ G := by
  refine ⟨A.ag, by simp [A.len], fun j e h => ?_⟩
  by_cases hj : i = j
  · subst hj
    have hl : i < ρ.length := by
      have := lk_len h
      simpa using this
    rw [lk_set_same hl] at h
    cases h
    exact ⟨v, List.getElem?_set_self (by rw [A.len]; exact hl), r⟩
  · rw [lk_set_ne hj] at h
    obtain ⟨u, h1, h2⟩ := A.slot j e h
    exact ⟨u, by rw [List.getElem?_set_ne hj]; exact h1, h2⟩
def wipeD (ρ : Rho) : List Nat → Rho
  | [] => ρ
  | v :: vs => (wipeD ρ vs).set v none
theorem Ag.wipe (A : Ag c σ H ρ S μ G) : ∀ (vs : List Nat), Ag c (L2.wipe σ vs) H (wipeD ρ vs) S μ G
  | [] => A
  | v :: vs => by
    have B := A.wipe vs
    refine ⟨B.ag, by simp [L2.wipe, wipeD, B.len], fun j e h => ?_⟩
    unfold wipeD at h
    unfold L2.wipe
    by_cases hj : v = j
    · subst hj
      by_cases hl : v < (wipeD ρ vs).length
      · rw [lk_set_same hl] at h; cases h
      · have := lk_len h
        rw [List.length_set] at this
        exact absurd this hl
    · rw [lk_set_ne hj] at h
      obtain ⟨u, h1, h2⟩ := B.slot j e h
      exact ⟨u, by rw [List.getElem?_set_ne hj]; exact h1, h2⟩
end
end DL
namespace DL
open PySem PySem.Spec PyProof.Rows L2

/-! ### transformers over data -/
abbrev DQ := D → Store → Prop
abbrev WE := Rho → Store → DQ → Prop
abbrev WT := Rho → Store → (Bool → Store → Prop) → Prop
abbrev WA := Rho → Store → (List D → Store → Prop) → Prop
abbrev W2 := D → D → Store → DQ → Prop
abbrev W1 := D → Store → DQ → Prop
abbrev WC := List D → Store → DQ → Prop

/-- where the body stands -/
structure Bs where
  H : Hp
  μ : List Addr
  G : Hp
abbrev dc (X : Cx) (b : Bs) : Dc := ⟨X.K, X.mg, b.H, b.μ, b.G⟩

def SndE (c : Dc) (t : TE) (f : WE) : Prop := ∀ (σ : L2.St) (H : Hp) (ρ : Rho) (S : Store) (μ : List Addr) (G : Hp) (Q : DQ) (R : VK), Ag c σ H ρ S μ G → f ρ S Q →
  (∀ v H' d S' μ' G', Stp H μ G H' μ' G' → Ag c σ H' ρ S' μ' G' → Rep c G' μ' v d → Q d S' → R v H') → t σ H R
def SndT (c : Dc) (t : TT) (f : WT) : Prop := ∀ (σ : L2.St) (H : Hp) (ρ : Rho) (S : Store) (μ : List Addr) (G : Hp) (Q : Bool → Store → Prop) (R : Bool → Hp → Prop), Ag c σ H ρ S μ G → f ρ S Q →
  (∀ b H' S' μ' G', Stp H μ G H' μ' G' → Ag c σ H' ρ S' μ' G' → Q b S' → R b H') → t σ H R
def SndA (c : Dc) (t : TA) (f : WA) : Prop := ∀ (σ : L2.St) (H : Hp) (ρ : Rho) (S : Store) (μ : List Addr) (G : Hp) (Q : List D → Store → Prop) (R : List V → Hp → Prop), Ag c σ H ρ S μ G → f ρ S Q →
  (∀ vs H' ds S' μ' G', Stp H μ G H' μ' G' → Ag c σ H' ρ S' μ' G' → Reps c G' μ' vs ds → Q ds S' → R vs H') → t σ H R
def Snd2 (c : Dc) (r : R2) (w : W2) : Prop := ∀ (H : Hp) (S : Store) (μ : List Addr) (G : Hp) (x y : V) (dx dy : D) (Q : DQ) (R : VK), Ag0 c H S μ G → Rep c G μ x dx → Rep c G μ y dy → w dx dy S Q →
  (∀ v H' d S' μ' G', Stp H μ G H' μ' G' → Ag0 c H' S' μ' G' → Rep c G' μ' v d → Q d S' → R v H') → r x y H R
def Snd1 (c : Dc) (r : V → Hp → VK → Prop) (w : W1) : Prop := ∀ (H : Hp) (S : Store) (μ : List Addr) (G : Hp) (x : V) (dx : D) (Q : DQ) (R : VK), Ag0 c H S μ G → Rep c G μ x dx → w dx S Q →
  (∀ v H' d S' μ' G', Stp H μ G H' μ' G' → Ag0 c H' S' μ' G' → Rep c G' μ' v d → Q d S' → R v H') → r x H R
def SndC (c : Dc) (r : List V → Hp → VK → Prop) (w : WC) : Prop := ∀ (H : Hp) (S : Store) (μ : List Addr) (G : Hp) (vs : List V) (ds : List D) (Q : DQ) (R : VK), Ag0 c H S μ G → Reps c G μ vs ds → w ds S Q →
  (∀ v H' d S' μ' G', Stp H μ G H' μ' G' → Ag0 c H' S' μ' G' → Rep c G' μ' v d → Q d S' → R v H') → r vs H R

structure DE (X : Cx) (b : Bs) (e : Expr) (f : WE) : Prop where
  ex : ∃ t, PE X e t ∧ SndE (dc X b) t f
structure DT (X : Cx) (b : Bs) (e : Expr) (f : WT) : Prop where
  ex : ∃ t, PT X e t ∧ SndT (dc X b) t f
structure DW (X : Cx) (b : Bs) (e : Expr) (f : WT) : Prop where
  ex : ∃ t, PW X e t ∧ SndT (dc X b) t f
structure DA (X : Cx) (b : Bs) (es : List Expr) (f : WA) : Prop where
  ex : ∃ t, PA X es t ∧ SndA (dc X b) t f

/-! ### names, constants -/
def vW (i : Nat) : WE := fun ρ S Q => match lk ρ i with
  | some d => Q d S
  | none => False
def cW (d : D) : WE := fun _ S Q => Q d S
section
variable {X : Cx} {b : Bs} {c : Dc}
theorem snd_var (i : Nat) : SndE c (tVar i) (vW i) := by
  intro σ H ρ S μ G Q R A h k
  unfold vW at h
  split at h
  · rename_i d e
    obtain ⟨v, h1, h2⟩ := A.slot i d e
    exact ⟨v, h1, k v H d S μ G (Stp.refl _ _ _) A h2 h⟩
  · exact h.elim
theorem de_v (i : Nat) {x : Str} {pos : Pos} (hN : X.N[i]? = some x := by rfl) (hv : Vis X.env.scope x := by first | exact Or.inl rfl | exact Or.inr (Or.inl rfl) | exact Or.inr (Or.inr rfl)) (hd : (x == ("__debug__" : Str)) = false := by decide)
    (hcd : (x == ("__classdict__" : Str)) = false := by decide) : DE X b (.Name x pos) (vW i) := ⟨_, pe_var hN hv hd hcd, snd_var i⟩
/-- what any heap bears -/
def D.flat : D → Bool
  | .non => true
  | .bl _ => true
  | .int _ => true
  | .str _ => true
  | .ty _ => true
  | _ => false
theorem snd_c {v : V} {d : D} (h : ∀ G μ, Rep c G μ v d) : SndE c (tC v) (cW d) := fun σ H ρ S μ G Q R A hq k => k v H d S μ G (Stp.refl _ _ _) A (h G μ) hq
theorem de_int {i : Int} {j : Nat} {pos : Pos} : DE X b (.Constant (.int i) j pos) (cW (.int i)) := ⟨_, pe_int, snd_c fun _ _ => .int i⟩
theorem de_bl {i : Bool} {j : Nat} {pos : Pos} : DE X b (.Constant (.bool i) j pos) (cW (.bl i)) := ⟨_, pe_bl, snd_c fun _ _ => .bl i⟩
theorem de_non {j : Nat} {pos : Pos} : DE X b (.Constant .none j pos) (cW .non) := ⟨_, pe_non, snd_c fun _ _ => .non⟩
theorem de_str {i : Str} {j : Nat} {pos : Pos} : DE X b (.Constant (.str i) j pos) (cW (.str i)) := ⟨_, pe_str, snd_c fun _ _ => .str i⟩
/-- a module's constant -/
theorem de_glob {x : Str} {v : V} {u : Value} {d : D} {pos : Pos} (hg : Gl X x) (hm : X.mg x = some u) (r : RelV v u) (h : ∀ G μ, Rep (dc X b) G μ v d) (hd : (x == ("__debug__" : Str)) = false := by decide) : DE X b (.Name x pos) (cW d) := ⟨_, pe_glob hg hm r hd, snd_c h⟩
/-- a built-in class by its name -/
theorem de_ty {x : Str} {n : String} {pos : Pos} (hg : Gl X x) (hm : X.mg x = none) (hv : bootBuiltins x = some (.type n)) (hn : x ≠ "__name__" := by decide) (hd : (x == ("__debug__" : Str)) = false := by decide) : DE X b (.Name x pos) (cW (.ty n)) :=
  ⟨_, pe_bltn (v := .ty n) hg hm hv rfl hn hd, snd_c fun _ _ => .ty n⟩

/-! ### operators -/
def opW (w : W2) (fa fb : WE) : WE := fun ρ S Q => fa ρ S fun x S1 => fb ρ S1 fun y S2 => w x y S2 Q
def unW (w : W1) (fa : WE) : WE := fun ρ S Q => fa ρ S fun x S1 => w x S1 Q
theorem snd_op {r : R2} {w : W2} {ta tb : TE} {fa fb : WE} (hr : Snd2 c r w) (ha : SndE c ta fa) (hb : SndE c tb fb) : SndE c (tOp r ta tb) (opW w fa fb) := by
  intro σ H ρ S μ G Q R A h k
  refine ha σ H ρ S μ G _ _ A h fun x H1 dx S1 μ1 G1 s1 A1 r1 q1 => ?_
  refine hb σ H1 ρ S1 μ1 G1 _ _ A1 q1 fun y H2 dy S2 μ2 G2 s2 A2 r2 q2 => ?_
  exact hr H2 S2 μ2 G2 x y dx dy Q R A2.ag (r1.go s2) r2 q2 fun v H3 d S3 μ3 G3 s3 A3 r3 q3 => k v H3 d S3 μ3 G3 ((s1.trans s2).trans s3) (A2.go s3 A3) r3 q3
theorem snd_un {r : V → Hp → VK → Prop} {w : W1} {ta : TE} {fa : WE} (hr : Snd1 c r w) (ha : SndE c ta fa) : SndE c (tUn r ta) (unW w fa) := by
  intro σ H ρ S μ G Q R A h k
  refine ha σ H ρ S μ G _ _ A h fun x H1 dx S1 μ1 G1 s1 A1 r1 q1 => ?_
  exact hr H1 S1 μ1 G1 x dx Q R A1.ag r1 q1 fun v H3 d S3 μ3 G3 s3 A3 r3 q3 => k v H3 d S3 μ3 G3 (s1.trans s3) (A1.go s3 A3) r3 q3
variable {a e : Expr} {es : List Expr} {fa fb fe : WE} {ft fu : WT} {fs : WA} {pos : Pos}
theorem de_op {b' : Expr} {op : Operator} {r : R2} {w : W2} (ho : OpR X (binaryOp op) r) (hs : Snd2 (dc X b) r w) (ha : DE X b a fa) (hb : DE X b b' fb) : DE X b (.BinOp a op b' pos) (opW w fa fb) := by
  obtain ⟨ta, pa, sa⟩ := ha.ex
  obtain ⟨tb, pb, sb⟩ := hb.ex
  exact ⟨_, pe_op ho pa pb, snd_op hs sa sb⟩
theorem de_un {op : UnaryOp} {r : V → Hp → VK → Prop} {w : W1} (ho : UnR X (unaryOp op) r) (hs : Snd1 (dc X b) r w) (ha : DE X b a fa) : DE X b (.UnaryOp op a pos) (unW w fa) := by
  obtain ⟨ta, pa, sa⟩ := ha.ex
  exact ⟨_, pe_un ho pa, snd_un hs sa⟩
theorem de_cmp {b' : Expr} {op : CmpOp} {r : R2} {w : W2} (ho : OpR X (compareOp op) r) (hs : Snd2 (dc X b) r w) (ha : DE X b a fa) (hb : DE X b b' fb) (hm : behindInMarks op b' = false) : DE X b (.Compare a [op] [b'] pos) (opW w fa fb) := by
  obtain ⟨ta, pa, sa⟩ := ha.ex
  obtain ⟨tb, pb, sb⟩ := hb.ex
  exact ⟨_, pe_cmpR ho pa pb hm, snd_op hs sa sb⟩
/-- .. as a test -/
def tsW (fa : WE) : WT := fun ρ S Q => fa ρ S fun x S1 => match x with
  | .bl k => Q k S1
  | _ => False
theorem snd_test {t : TE} {fa : WE} (ha : SndE c t fa) : SndT c (tTest t) (tsW fa) := by
  intro σ H ρ S μ G Q R A h k
  refine ha σ H ρ S μ G _ _ A h fun x H1 dx S1 μ1 G1 s1 A1 r1 q1 => ?_
  cases r1 with
  | bl z => exact ⟨z, rfl, k z H1 S1 μ1 G1 s1 A1 q1⟩
  | _ => exact q1.elim
theorem dt_cmp {b' : Expr} {op : CmpOp} {r : R2} {w : W2} (ho : OpR X (compareOp op) r) (hs : Snd2 (dc X b) r w) (ha : DE X b a fa) (hb : DE X b b' fb) (hm : behindInMarks op b' = false) : DT X b (.Compare a [op] [b'] pos) (tsW (opW w fa fb)) := by
  obtain ⟨ta, pa, sa⟩ := ha.ex
  obtain ⟨tb, pb, sb⟩ := hb.ex
  exact ⟨_, pt_cmpR ho pa pb hm, snd_test (snd_op hs sa sb)⟩

/-! ### truth -/
def truD (S : Store) : D → Option Bool
  | .non => some false
  | .bl b => some b
  | .int i => some (i != 0)
  | .str y => if y.length ≤ sizeLine then some ((y.length : Int) != 0) else none
  | .ty _ => none
  | .tup ds => some (!ds.isEmpty)
  | .lst ds => some (!ds.isEmpty)
  | .rol ds => some (!ds.isEmpty)
  | .loc n => match S[n]? with
    | some (.lst ds) => some (!ds.isEmpty)
    | _ => none
theorem Reps.isEmpty {G : Hp} {μ : List Addr} {vs : List V} {ds : List D} (h : Reps c G μ vs ds) : vs.isEmpty = ds.isEmpty := by
  cases h <;> rfl
theorem Ag0.tru {H : Hp} {S : Store} {μ : List Addr} {G : Hp} (A : Ag0 c H S μ G) {v : V} {d : D} {k : Bool} (r : Rep c G μ v d) (h : truD S d = some k) : TruV c.K v H k := by
  cases r with
  | non => cases h; rfl
  | bl => cases h; rfl
  | int => cases h; rfl
  | str y =>
    simp only [truD] at h
    split at h
    · rename_i e; cases h; exact ⟨e, rfl⟩
    · cases h
  | ty => cases h
  | tup h1 h2 =>
    cases h
    exact .inr (.inl ⟨_, sqT_mono A.same h1, by rw [h2.isEmpty]⟩)
  | lst h1 h2 =>
    cases h
    exact .inl ⟨_, SqL.of (A.same _ _ h1), by rw [h2.isEmpty]⟩
  | rol h1 h2 =>
    cases h
    exact .inl ⟨_, A.same.seq h1, by rw [h2.isEmpty]⟩
  | loc h1 =>
    simp only [truD] at h
    split at h
    · rename_i e
      cases h
      obtain ⟨vs, h2, h3⟩ := A.at h1 e
      exact .inl ⟨_, SqL.of h2, by rw [h3.isEmpty]⟩
    · cases h
def truW (fa : WE) : WT := fun ρ S Q => fa ρ S fun x S1 => match truD S1 x with
  | some k => Q k S1
  | none => False
theorem dt_tru (ha : DE X b a fa) (he : ∀ whole, isTrue a X.env whole = (do let v ← whole; standAt a.pos; holding [v] (truthy v)) := by intro _; rfl) : DT X b a (truW fa) := by
  obtain ⟨ta, pa, sa⟩ := ha.ex
  refine ⟨_, pt_truth pa he, fun σ H ρ S μ G Q R A h k => ?_⟩
  refine sa σ H ρ S μ G _ _ A h fun x H1 dx S1 μ1 G1 s1 A1 r1 q1 => ?_
  split at q1
  · rename_i z e
    exact ⟨z, A1.ag.tru r1 e, k z H1 S1 μ1 G1 s1 A1 q1⟩
  · exact q1.elim
def andW (ft fu : WT) : WT := fun ρ S Q => ft ρ S fun k S1 => if k = true then fu ρ S1 Q else Q false S1
def orW (ft fu : WT) : WT := fun ρ S Q => ft ρ S fun k S1 => if k = true then Q true S1 else fu ρ S1 Q
def notW (ft : WT) : WT := fun ρ S Q => ft ρ S fun k S1 => Q (!k) S1
theorem snd_and {t u : TT} (ha : SndT c t ft) (hb : SndT c u fu) : SndT c (tAnd t u) (andW ft fu) := by
  intro σ H ρ S μ G Q R A h k
  refine ha σ H ρ S μ G _ _ A h fun z H1 S1 μ1 G1 s1 A1 q1 => ?_
  cases z with
  | true => exact hb σ H1 ρ S1 μ1 G1 Q R A1 q1 fun z H2 S2 μ2 G2 s2 A2 q2 => k z H2 S2 μ2 G2 (s1.trans s2) A2 q2
  | false => exact k false H1 S1 μ1 G1 s1 A1 q1
theorem snd_or {t u : TT} (ha : SndT c t ft) (hb : SndT c u fu) : SndT c (tOr t u) (orW ft fu) := by
  intro σ H ρ S μ G Q R A h k
  refine ha σ H ρ S μ G _ _ A h fun z H1 S1 μ1 G1 s1 A1 q1 => ?_
  cases z with
  | true => exact k true H1 S1 μ1 G1 s1 A1 q1
  | false => exact hb σ H1 ρ S1 μ1 G1 Q R A1 q1 fun z H2 S2 μ2 G2 s2 A2 q2 => k z H2 S2 μ2 G2 (s1.trans s2) A2 q2
variable {rest : List Expr} {b1 : Expr}
theorem DW.pt (h : DW X b e ft) : DT X b e ft := let ⟨t, p, s⟩ := h.ex; ⟨t, p.pt, s⟩
theorem dw_and1 (h : DT X b a ft) : DW X b (.BoolOp .And [a] pos) ft := let ⟨t, p, s⟩ := h.ex; ⟨t, pw_and1 p, s⟩
theorem dw_or1 (h : DT X b a ft) : DW X b (.BoolOp .Or [a] pos) ft := let ⟨t, p, s⟩ := h.ex; ⟨t, pw_or1 p, s⟩
theorem dw_and (ha : DT X b a ft) (hb : DW X b (.BoolOp .And (b1 :: rest) pos) fu) : DW X b (.BoolOp .And (a :: b1 :: rest) pos) (andW ft fu) := by
  obtain ⟨t, p, s⟩ := ha.ex
  obtain ⟨u, q, s'⟩ := hb.ex
  exact ⟨_, pw_and p q, snd_and s s'⟩
theorem dw_or (ha : DT X b a ft) (hb : DW X b (.BoolOp .Or (b1 :: rest) pos) fu) : DW X b (.BoolOp .Or (a :: b1 :: rest) pos) (orW ft fu) := by
  obtain ⟨t, p, s⟩ := ha.ex
  obtain ⟨u, q, s'⟩ := hb.ex
  exact ⟨_, pw_or p q, snd_or s s'⟩
theorem dt_not (ha : DT X b a ft) : DT X b (.UnaryOp .Not a pos) (notW ft) := by
  obtain ⟨t, p, s⟩ := ha.ex
  exact ⟨_, pt_not p, fun σ H ρ S μ G Q R A h k => s σ H ρ S μ G _ _ A h fun z H1 S1 μ1 G1 s1 A1 q1 => k (!z) H1 S1 μ1 G1 s1 A1 q1⟩
/-- and, or, not as values -/
def andV (fa fb : WE) : WE := fun ρ S Q => fa ρ S fun x S1 => match truD S1 x with
  | some k => if k = true then fb ρ S1 Q else Q x S1
  | none => False
def orV (fa fb : WE) : WE := fun ρ S Q => fa ρ S fun x S1 => match truD S1 x with
  | some k => if k = true then Q x S1 else fb ρ S1 Q
  | none => False
def notV (fa : WE) : WE := fun ρ S Q => fa ρ S fun x S1 => match truD S1 x with
  | some k => Q (.bl (!k)) S1
  | none => False
theorem de_one {op : BoolOp} (h : DE X b a fa) : DE X b (.BoolOp op [a] pos) fa := let ⟨t, p, s⟩ := h.ex; ⟨t, pe_one p, s⟩
theorem de_and (ha : DE X b a fa) (hb : DE X b (.BoolOp .And (b1 :: rest) pos) fb) : DE X b (.BoolOp .And (a :: b1 :: rest) pos) (andV fa fb) := by
  obtain ⟨ta, pa, sa⟩ := ha.ex
  obtain ⟨tb, pb, sb⟩ := hb.ex
  refine ⟨_, pe_andT pa pb, fun σ H ρ S μ G Q R A h k => ?_⟩
  refine sa σ H ρ S μ G _ _ A h fun x H1 dx S1 μ1 G1 s1 A1 r1 q1 => ?_
  split at q1
  · rename_i z e
    refine ⟨z, A1.ag.tru r1 e, ?_⟩
    cases z with
    | true => exact sb σ H1 ρ S1 μ1 G1 Q R A1 q1 fun v H2 d S2 μ2 G2 s2 A2 r2 q2 => k v H2 d S2 μ2 G2 (s1.trans s2) A2 r2 q2
    | false => exact k x H1 dx S1 μ1 G1 s1 A1 r1 q1
  · exact q1.elim
theorem de_or (ha : DE X b a fa) (hb : DE X b (.BoolOp .Or (b1 :: rest) pos) fb) : DE X b (.BoolOp .Or (a :: b1 :: rest) pos) (orV fa fb) := by
  obtain ⟨ta, pa, sa⟩ := ha.ex
  obtain ⟨tb, pb, sb⟩ := hb.ex
  refine ⟨_, pe_orT pa pb, fun σ H ρ S μ G Q R A h k => ?_⟩
  refine sa σ H ρ S μ G _ _ A h fun x H1 dx S1 μ1 G1 s1 A1 r1 q1 => ?_
  split at q1
  · rename_i z e
    refine ⟨z, A1.ag.tru r1 e, ?_⟩
    cases z with
    | true => exact k x H1 dx S1 μ1 G1 s1 A1 r1 q1
    | false => exact sb σ H1 ρ S1 μ1 G1 Q R A1 q1 fun v H2 d S2 μ2 G2 s2 A2 r2 q2 => k v H2 d S2 μ2 G2 (s1.trans s2) A2 r2 q2
  · exact q1.elim
theorem de_not (ha : DE X b a fa) : DE X b (.UnaryOp .Not a pos) (notV fa) := by
  obtain ⟨ta, pa, sa⟩ := ha.ex
  refine ⟨_, pe_notT pa, fun σ H ρ S μ G Q R A h k => ?_⟩
  refine sa σ H ρ S μ G _ _ A h fun x H1 dx S1 μ1 G1 s1 A1 r1 q1 => ?_
  split at q1
  · rename_i z e
    exact ⟨z, A1.ag.tru r1 e, k _ H1 _ S1 μ1 G1 s1 A1 (.bl _) q1⟩
  · exact q1.elim
/-- a if t else b -/
def ifW (ft : WT) (fa fb : WE) : WE := fun ρ S Q => ft ρ S fun k S1 => if k = true then fa ρ S1 Q else fb ρ S1 Q
theorem de_if {t b' : Expr} (ht : DT X b t ft) (ha : DE X b a fa) (hb : DE X b b' fb) : DE X b (.IfExp t a b' pos) (ifW ft fa fb) := by
  obtain ⟨tt, pt, st⟩ := ht.ex
  obtain ⟨ta, pa, sa⟩ := ha.ex
  obtain ⟨tb, pb, sb⟩ := hb.ex
  refine ⟨_, pe_ifExp pt pa pb, fun σ H ρ S μ G Q R A h k => ?_⟩
  refine st σ H ρ S μ G _ _ A h fun z H1 S1 μ1 G1 s1 A1 q1 => ?_
  cases z with
  | true => exact sa σ H1 ρ S1 μ1 G1 Q R A1 q1 fun v H2 d S2 μ2 G2 s2 A2 r2 q2 => k v H2 d S2 μ2 G2 (s1.trans s2) A2 r2 q2
  | false => exact sb σ H1 ρ S1 μ1 G1 Q R A1 q1 fun v H2 d S2 μ2 G2 s2 A2 r2 q2 => k v H2 d S2 μ2 G2 (s1.trans s2) A2 r2 q2

/-! ### argument lists, displays -/
def nilW : WA := fun _ S Q => Q [] S
def consW (fa : WE) (fs : WA) : WA := fun ρ S Q => fa ρ S fun d S1 => fs ρ S1 fun ds S2 => Q (d :: ds) S2
theorem da_nil : DA X b [] nilW := ⟨_, pa_nil, fun σ H ρ S μ G Q R A h k => k [] H [] S μ G (Stp.refl _ _ _) A .nil h⟩
theorem da_cons (ha : DE X b e fe) (hr : DA X b es fs) (hs : starEach (e :: es) X.env = (false, eval e X.env) :: starEach es X.env := by rfl) : DA X b (e :: es) (consW fe fs) := by
  obtain ⟨ta, pa, sa⟩ := ha.ex
  obtain ⟨tr, pr, sr⟩ := hr.ex
  refine ⟨_, pa_cons pa pr hs, fun σ H ρ S μ G Q R A h k => ?_⟩
  refine sa σ H ρ S μ G _ _ A h fun x H1 dx S1 μ1 G1 s1 A1 r1 q1 => ?_
  refine sr σ H1 ρ S1 μ1 G1 _ _ A1 q1 fun xs H2 ds S2 μ2 G2 s2 A2 r2 q2 => ?_
  exact k _ H2 _ S2 μ2 G2 (s1.trans s2) A2 (.cons (r1.go s2) r2) q2
def tupW (fs : WA) : WE := fun ρ S Q => fs ρ S fun ds S1 => ds.length ≤ sizeLine ∧ Q (.tup ds) S1
def lstW (fs : WA) : WE := fun ρ S Q => fs ρ S fun ds S1 => ds.length ≤ sizeLine ∧ Q (.lst ds) S1
/-- a list as a new cell -/
def lstN (fs : WA) : WE := fun ρ S Q => fs ρ S fun ds S1 => ds.length ≤ sizeLine ∧ Q (.loc S1.length) (S1 ++ [.lst ds])
theorem Ag0.frzT {H : Hp} {S : Store} {μ : List Addr} {G : Hp} (A : Ag0 c H S μ G) {p : Addr} {vs : List V} {ds : List D} (h : H p = none) (r : Reps c G μ vs ds) : Rep c (upd G p (.tup vs)) μ (.ref p) (.tup ds) :=
  .tup (.inl (.inl upd_same)) (r.go (A.frz (o := .tup vs) h).2)
theorem Ag0.frzL {H : Hp} {S : Store} {μ : List Addr} {G : Hp} (A : Ag0 c H S μ G) {p : Addr} {vs : List V} {ds : List D} (h : H p = none) (r : Reps c G μ vs ds) : Rep c (upd G p (.lst vs)) μ (.ref p) (.lst ds) :=
  .lst upd_same (r.go (A.frz (o := .lst vs) h).2)
theorem Ag0.newL {H : Hp} {S : Store} {μ : List Addr} {G : Hp} (A : Ag0 c H S μ G) {p : Addr} : Rep c G (μ ++ [p]) (.ref p) (.loc S.length) := by
  refine .loc ?_
  rw [← A.len, List.getElem?_append_right (Nat.le_refl _), Nat.sub_self]
  rfl
theorem de_tup {k : Nat} (h : DA X b es fs) : DE X b (.Tuple es k pos) (tupW fs) := by
  obtain ⟨t, p, s⟩ := h.ex
  refine ⟨_, pe_tup p, fun σ H ρ S μ G Q R A h k => ?_⟩
  refine s σ H ρ S μ G _ _ A h fun vs H1 ds S1 μ1 G1 s1 A1 r1 q1 => ?_
  refine ⟨by rw [r1.length]; exact q1.1, fun p np => ?_⟩
  obtain ⟨A2, s2⟩ := A1.ag.frz (o := .tup vs) np
  exact k _ _ _ S1 μ1 _ (s1.trans s2) (A1.go s2 A2) (A1.ag.frzT np r1) q1.2
theorem de_lst (h : DA X b es fs) : DE X b (.List es pos) (lstW fs) := by
  obtain ⟨t, p, s⟩ := h.ex
  refine ⟨_, pe_lst p, fun σ H ρ S μ G Q R A h k => ?_⟩
  refine s σ H ρ S μ G _ _ A h fun vs H1 ds S1 μ1 G1 s1 A1 r1 q1 => ?_
  refine ⟨by rw [r1.length]; exact q1.1, fun p np => ?_⟩
  obtain ⟨A2, s2⟩ := A1.ag.frz (o := .lst vs) np
  exact k _ _ _ S1 μ1 _ (s1.trans s2) (A1.go s2 A2) (A1.ag.frzL np r1) q1.2
theorem de_lstN (h : DA X b es fs) : DE X b (.List es pos) (lstN fs) := by
  obtain ⟨t, p, s⟩ := h.ex
  refine ⟨_, pe_lst p, fun σ H ρ S μ G Q R A h k => ?_⟩
  refine s σ H ρ S μ G _ _ A h fun vs H1 ds S1 μ1 G1 s1 A1 r1 q1 => ?_
  refine ⟨by rw [r1.length]; exact q1.1, fun p np => ?_⟩
  obtain ⟨A2, s2⟩ := A1.ag.new np r1
  exact k _ _ _ _ _ _ (s1.trans s2) (A1.go s2 A2) A1.ag.newL q1.2
end
end DL
namespace DL
open PySem PySem.Spec PyProof.Rows L2
section
variable {X : Cx} {b : Bs} {c : Dc}

/-! ### the operators by data -/
def wAdd : W2 := fun x y S Q => match x, y with
  | .int i, .int j => Q (.int (i + j)) S
  | .str i, .str j => i.length + j.length ≤ sizeLine ∧ Q (.str (i ++ j)) S
  | .tup xs, .tup ys => xs ≠ [] ∧ xs.length + ys.length ≤ sizeLine ∧ Q (.tup (xs ++ ys)) S
  | x, y => match lstOf S x, lstOf S y with
    | some xs, some ys => xs.length + ys.length ≤ sizeLine ∧ Q (.lst (xs ++ ys)) S
    | _, _ => False
theorem wAdd_int (i j : Int) (S : Store) (Q : DQ) : wAdd (.int i) (.int j) S Q = Q (.int (i + j)) S := rfl
theorem wAdd_str (i j : Str) (S : Store) (Q : DQ) : wAdd (.str i) (.str j) S Q = (i.length + j.length ≤ sizeLine ∧ Q (.str (i ++ j)) S) := rfl
theorem wAdd_tup (i j : List D) (S : Store) (Q : DQ) : wAdd (.tup i) (.tup j) S Q = (i ≠ [] ∧ i.length + j.length ≤ sizeLine ∧ Q (.tup (i ++ j)) S) := rfl
theorem wAdd_lst (i j : List D) (S : Store) (Q : DQ) : wAdd (.lst i) (.lst j) S Q = (i.length + j.length ≤ sizeLine ∧ Q (.lst (i ++ j)) S) := rfl
def rAddD (K : PySem.W.Frag) : R2 := fun x y H Q => rI0 (fun i j => .int (i + j)) x y H Q ∨
  ((∃ i j, x = .str i ∧ y = .str j ∧ i.length + j.length ≤ sizeLine ∧ Q (.str (i ++ j)) H) ∨ (rCatT K x y H Q ∨ rCat x y H Q))
theorem o_add : OpR X (binaryOp .Add) (rAddD X.K) := op_add.or (op_add_str.or (op_catT.or op_cat))
theorem s_add : Snd2 c (rAddD c.K) wAdd := by
  intro H S μ G x y dx dy Q R A rx ry h k
  have lists : ∀ xs ys, lstOf S dx = some xs → lstOf S dy = some ys → (xs.length + ys.length ≤ sizeLine ∧ Q (.lst (xs ++ ys)) S) → rAddD c.K x y H R := by
    intro xs ys hx hy q
    obtain ⟨a, vs, rfl, ha, r1⟩ := A.lstT rx hx
    obtain ⟨b, ws, rfl, hb, r2⟩ := A.lstT ry hy
    refine .inr (.inr (.inr ⟨a, b, vs, ws, rfl, rfl, ha, hb, by rw [r1.length, r2.length]; exact q.1, fun p np => ?_⟩))
    obtain ⟨A2, s2⟩ := A.frz (o := .lst (vs ++ ws)) np
    exact k _ _ _ S μ _ s2 A2 (A.frzL np (r1.append r2)) q.2
  unfold wAdd at h
  split at h
  · cases rx; cases ry
    exact .inl ⟨_, _, rfl, rfl, k _ H _ S μ G (Stp.refl _ _ _) A (.int _) h⟩
  · cases rx; cases ry
    exact .inr (.inl ⟨_, _, rfl, rfl, h.1, k _ H _ S μ G (Stp.refl _ _ _) A (.str _) h.2⟩)
  · rename_i xs ys
    obtain ⟨a, vs, rfl, ha, r1⟩ := A.tupR rx
    obtain ⟨b, ws, rfl, hb, r2⟩ := A.tupR ry
    refine .inr (.inr (.inl ⟨a, b, vs, ws, rfl, rfl, ha, hb, fun z => ?_, by rw [r1.length, r2.length]; exact h.2.1, fun z => ?_, fun z p np => ?_⟩))
    · subst z
      cases r1
      exact h.1 rfl
    · subst z
      cases r2
      have q := h.2.2
      rw [List.append_nil] at q
      exact k _ H _ S μ G (Stp.refl _ _ _) A rx q
    · obtain ⟨A2, s2⟩ := A.frz (o := .tup (vs ++ ws)) np
      exact k _ _ _ S μ _ s2 A2 (A.frzT np (r1.append r2)) h.2.2
  · split at h
    · rename_i xs ys hx hy
      exact lists xs ys hx hy h
    · exact h.elim
/-- ints -/
def wI (C : Int → Int → Prop) (g : Int → Int → D) : W2 := fun x y S Q => match x, y with
  | .int i, .int j => C i j ∧ Q (g i j) S
  | _, _ => False
def wI0 (g : Int → Int → D) : W2 := fun x y S Q => match x, y with
  | .int i, .int j => Q (g i j) S
  | _, _ => False
theorem s_I0 {g : Int → Int → V} {g' : Int → Int → D} (hg : ∀ G μ i j, Rep c G μ (g i j) (g' i j)) : Snd2 c (rI0 g) (wI0 g') := by
  intro H S μ G x y dx dy Q R A rx ry h k
  unfold wI0 at h
  split at h
  · cases rx; cases ry
    exact ⟨_, _, rfl, rfl, k _ H _ S μ G (Stp.refl _ _ _) A (hg _ _ _ _) h⟩
  · exact h.elim
theorem s_I {C : Int → Int → Prop} {g : Int → Int → V} {g' : Int → Int → D} (hg : ∀ G μ i j, Rep c G μ (g i j) (g' i j)) : Snd2 c (rI C g) (wI C g') := by
  intro H S μ G x y dx dy Q R A rx ry h k
  unfold wI at h
  split at h
  · cases rx; cases ry
    exact ⟨_, _, rfl, rfl, h.1, k _ H _ S μ G (Stp.refl _ _ _) A (hg _ _ _ _) h.2⟩
  · exact h.elim
abbrev wSub : W2 := wI0 fun i j => .int (i - j)
abbrev wMul : W2 := wI CMul fun i j => .int (i * j)
abbrev wDiv : W2 := wI CDivN fun i j => .int (i.fdiv j)
abbrev wMod : W2 := wI (fun _ j => j ≠ 0) fun i j => .int (i.fmod j)
abbrev wPow : W2 := wI CPow fun i j => .int (i ^ j.toNat)
abbrev wLt : W2 := wI0 fun i j => .bl (decide (i < j))
abbrev wLe : W2 := wI0 fun i j => .bl (decide (i ≤ j))
abbrev wGt : W2 := wI0 fun i j => .bl (decide (j < i))
abbrev wGe : W2 := wI0 fun i j => .bl (decide (j ≤ i))
def wNeg : W1 := fun x S Q => match x with
  | .int i => Q (.int (-i)) S
  | _ => False
theorem s_neg : Snd1 c (rU fun i => .int (-i)) wNeg := by
  intro H S μ G x dx Q R A rx h k
  unfold wNeg at h
  split at h
  · cases rx
    exact ⟨_, rfl, k _ H _ S μ G (Stp.refl _ _ _) A (.int _) h⟩
  · exact h.elim
variable {a b' : Expr} {fa fb : WE} {pos : Pos}
theorem de_add (ha : DE X b a fa) (hb : DE X b b' fb) : DE X b (.BinOp a .Add b' pos) (opW wAdd fa fb) := de_op o_add s_add ha hb
theorem de_sub (ha : DE X b a fa) (hb : DE X b b' fb) : DE X b (.BinOp a .Sub b' pos) (opW wSub fa fb) := de_op op_sub (s_I0 fun _ _ _ _ => .int _) ha hb
theorem de_mul (ha : DE X b a fa) (hb : DE X b b' fb) : DE X b (.BinOp a .Mult b' pos) (opW wMul fa fb) := de_op op_mul (s_I fun _ _ _ _ => .int _) ha hb
theorem de_div (ha : DE X b a fa) (hb : DE X b b' fb) : DE X b (.BinOp a .FloorDiv b' pos) (opW wDiv fa fb) := de_op op_fdivN (s_I fun _ _ _ _ => .int _) ha hb
theorem de_mod (ha : DE X b a fa) (hb : DE X b b' fb) : DE X b (.BinOp a .Mod b' pos) (opW wMod fa fb) := de_op op_modN (s_I fun _ _ _ _ => .int _) ha hb
theorem de_pow (ha : DE X b a fa) (hb : DE X b b' fb) : DE X b (.BinOp a .Pow b' pos) (opW wPow fa fb) := de_op op_pow (s_I fun _ _ _ _ => .int _) ha hb
theorem de_neg (ha : DE X b a fa) : DE X b (.UnaryOp .USub a pos) (unW wNeg fa) := de_un un_neg s_neg ha
theorem de_lt (ha : DE X b a fa) (hb : DE X b b' fb) : DE X b (.Compare a [.Lt] [b'] pos) (opW wLt fa fb) := de_cmp op_lt (s_I0 fun _ _ _ _ => .bl _) ha hb (nomark _)
theorem de_le (ha : DE X b a fa) (hb : DE X b b' fb) : DE X b (.Compare a [.LtE] [b'] pos) (opW wLe fa fb) := de_cmp op_le (s_I0 fun _ _ _ _ => .bl _) ha hb (nomark _)
theorem de_gt (ha : DE X b a fa) (hb : DE X b b' fb) : DE X b (.Compare a [.Gt] [b'] pos) (opW wGt fa fb) := de_cmp op_gt (s_I0 fun _ _ _ _ => .bl _) ha hb (nomark _)
theorem de_ge (ha : DE X b a fa) (hb : DE X b b' fb) : DE X b (.Compare a [.GtE] [b'] pos) (opW wGe fa fb) := de_cmp op_ge (s_I0 fun _ _ _ _ => .bl _) ha hb (nomark _)
theorem dt_lt (ha : DE X b a fa) (hb : DE X b b' fb) : DT X b (.Compare a [.Lt] [b'] pos) (tsW (opW wLt fa fb)) := dt_cmp op_lt (s_I0 fun _ _ _ _ => .bl _) ha hb (nomark _)
theorem dt_le (ha : DE X b a fa) (hb : DE X b b' fb) : DT X b (.Compare a [.LtE] [b'] pos) (tsW (opW wLe fa fb)) := dt_cmp op_le (s_I0 fun _ _ _ _ => .bl _) ha hb (nomark _)
theorem dt_gt (ha : DE X b a fa) (hb : DE X b b' fb) : DT X b (.Compare a [.Gt] [b'] pos) (tsW (opW wGt fa fb)) := dt_cmp op_gt (s_I0 fun _ _ _ _ => .bl _) ha hb (nomark _)
theorem dt_ge (ha : DE X b a fa) (hb : DE X b b' fb) : DT X b (.Compare a [.GtE] [b'] pos) (tsW (opW wGe fa fb)) := dt_cmp op_ge (s_I0 fun _ _ _ _ => .bl _) ha hb (nomark _)

/-! ### == and != -/
mutual
def pyD (S : Store) : D → Option PyData
  | .non => some .none
  | .bl b => some (.bool b)
  | .int i => some (.int i)
  | .str x => some (.str x)
  | .ty _ => none
  | .tup ds => match pysD S ds with
    | some ps => some (.tuple ps)
    | none => none
  | .lst ds => match pysD S ds with
    | some ps => some (.list ps)
    | none => none
  | .rol ds => match pysD S ds with
    | some ps => some (.list ps)
    | none => none
  | .loc _ => none
def pysD (S : Store) : List D → Option (List PyData)
  | [] => some []
  | d :: ds => match pyD S d, pysD S ds with
    | some p, some ps => some (p :: ps)
    | _, _ => none
end
/-- a cell's items at the top alone -/
def pyT (S : Store) : D → Option PyData
  | .loc n => match S[n]? with
    | some (.lst ds) => match pysD S ds with
      | some ps => some (.list ps)
      | none => none
    | _ => none
  | d => pyD S d
section
variable {H : Hp} {S : Store} {μ : List Addr} {G : Hp}
mutual
theorem Ag0.dp (A : Ag0 c H S μ G) : ∀ (d : D) (v : V) (p : PyData), Rep c G μ v d → pyD S d = some p → Dp c.K H v p
  | .non, _, _, r, e => by cases r; cases e; exact .non
  | .bl _, _, _, r, e => by cases r; cases e; exact .bl _
  | .int _, _, _, r, e => by cases r; cases e; exact .int _
  | .str _, _, _, r, e => by cases r; cases e; exact .str _
  | .ty _, _, _, _, e => by cases e
  | .loc _, _, _, _, e => by cases e
  | .tup ds, _, _, r, e => by
    cases r with
    | tup h1 h2 =>
      simp only [pyD] at e
      split at e
      · rename_i ps q
        cases e
        exact .tup (sqT_mono A.same h1) (Ag0.dps A ds _ ps h2 q)
      · cases e
  | .lst ds, _, _, r, e => by
    cases r with
    | lst h1 h2 =>
      simp only [pyD] at e
      split at e
      · rename_i ps q
        cases e
        exact .lst (SqL.of (A.same _ _ h1)) (Ag0.dps A ds _ ps h2 q)
      · cases e
  | .rol ds, _, _, r, e => by
    cases r with
    | rol h1 h2 =>
      simp only [pyD] at e
      split at e
      · rename_i ps q
        cases e
        exact .lst (A.same.seq h1) (Ag0.dps A ds _ ps h2 q)
      · cases e
theorem Ag0.dps (A : Ag0 c H S μ G) : ∀ (ds : List D) (vs : List V) (ps : List PyData), Reps c G μ vs ds → pysD S ds = some ps → DpAll c.K H vs ps
  | [], _, _, r, e => by cases r; cases e; exact .nil
  | d :: ds, _, _, r, e => by
    cases r with
    | cons h1 h2 =>
      simp only [pysD] at e
      split at e
      · rename_i p ps q1 q2
        cases e
        exact .cons (Ag0.dp A d _ p h1 q1) (Ag0.dps A ds _ ps h2 q2)
      · cases e
end
theorem Ag0.dpT (A : Ag0 c H S μ G) {d : D} {v : V} {p : PyData} (r : Rep c G μ v d) (e : pyT S d = some p) : Dp c.K H v p := by
  cases r with
  | loc h1 =>
    simp only [pyT] at e
    split at e
    · rename_i ds q
      split at e
      · rename_i ps q2
        cases e
        obtain ⟨vs, h2, h3⟩ := A.at h1 q
        exact .lst (SqL.of h2) (A.dps ds vs ps h3 q2)
      · cases e
    · cases e
  | non => exact A.dp _ _ p .non e
  | bl => exact A.dp _ _ p (.bl _) e
  | int => exact A.dp _ _ p (.int _) e
  | str => exact A.dp _ _ p (.str _) e
  | ty => exact A.dp _ _ p (.ty _) e
  | tup h1 h2 => exact A.dp _ _ p (.tup h1 h2) e
  | lst h1 h2 => exact A.dp _ _ p (.lst h1 h2) e
  | rol h1 h2 => exact A.dp _ _ p (.rol h1 h2) e
end
def wEq : W2 := fun x y S Q => match pyT S x, pyT S y with
  | some p, some q => SeqAt.shaped p = true ∧ SeqAt.shaped q = true ∧ Q (.bl (PyData.eqv p q)) S
  | _, _ => False
def wNe : W2 := fun x y S Q => match pyT S x, pyT S y with
  | some p, some q => SeqAt.shaped p = true ∧ SeqAt.shaped q = true ∧ Q (.bl (!PyData.eqv p q)) S
  | _, _ => False
theorem s_eq : Snd2 c (rEqD c.K) wEq := by
  intro H S μ G x y dx dy Q R A rx ry h k
  unfold wEq at h
  split at h
  · rename_i p q e1 e2
    exact ⟨p, q, A.dpT rx e1, A.dpT ry e2, h.1, h.2.1, k _ H _ S μ G (Stp.refl _ _ _) A (.bl _) h.2.2⟩
  · exact h.elim
theorem s_ne : Snd2 c (rNeD c.K) wNe := by
  intro H S μ G x y dx dy Q R A rx ry h k
  unfold wNe at h
  split at h
  · rename_i p q e1 e2
    exact ⟨p, q, A.dpT rx e1, A.dpT ry e2, h.1, h.2.1, k _ H _ S μ G (Stp.refl _ _ _) A (.bl _) h.2.2⟩
  · exact h.elim
theorem de_eq {n : Nat} (hr : Room n X.A) (ha : DE X b a fa) (hb : DE X b b' fb) : DE X b (.Compare a [.Eq] [b'] pos) (opW wEq fa fb) := de_cmp (op_eqD hr.units) s_eq ha hb (nomark _)
theorem de_ne {n : Nat} (hr : Room n X.A) (ha : DE X b a fa) (hb : DE X b b' fb) : DE X b (.Compare a [.NotEq] [b'] pos) (opW wNe fa fb) := de_cmp (op_neD hr.units) s_ne ha hb (nomark _)
theorem dt_eq {n : Nat} (hr : Room n X.A) (ha : DE X b a fa) (hb : DE X b b' fb) : DT X b (.Compare a [.Eq] [b'] pos) (tsW (opW wEq fa fb)) := dt_cmp (op_eqD hr.units) s_eq ha hb (nomark _)
theorem dt_ne {n : Nat} (hr : Room n X.A) (ha : DE X b a fa) (hb : DE X b b' fb) : DT X b (.Compare a [.NotEq] [b'] pos) (tsW (opW wNe fa fb)) := dt_cmp (op_neD hr.units) s_ne ha hb (nomark _)

/-! ### is -/
def wIs : W2 := fun x y S Q => match y with
  | .non => Q (.bl x.isNon) S
  | .bl k => match x with
    | .bl j => Q (.bl (decide (j = k))) S
    | _ => False
  | _ => False
def wIsnt : W2 := fun x y S Q => match y with
  | .non => Q (.bl (!x.isNon)) S
  | .bl k => match x with
    | .bl j => Q (.bl (!decide (j = k))) S
    | _ => False
  | _ => False
def rIsD : R2 := fun x y H Q => (y = .non ∧ Q (.bl (decide (x = .non))) H) ∨ rIsB x y H Q
def rIsntD : R2 := fun x y H Q => (y = .non ∧ Q (.bl (!decide (x = .non))) H) ∨ rNotB x y H Q
theorem s_is : Snd2 c rIsD wIs := by
  intro H S μ G x y dx dy Q R A rx ry h k
  unfold wIs at h
  split at h
  · cases ry
    refine .inl ⟨rfl, ?_⟩
    rw [rx.isNon]
    exact k _ H _ S μ G (Stp.refl _ _ _) A (.bl _) h
  · split at h
    · cases rx; cases ry
      exact .inr ⟨_, _, rfl, rfl, k _ H _ S μ G (Stp.refl _ _ _) A (.bl _) h⟩
    · exact h.elim
  · exact h.elim
theorem s_isnt : Snd2 c rIsntD wIsnt := by
  intro H S μ G x y dx dy Q R A rx ry h k
  unfold wIsnt at h
  split at h
  · cases ry
    refine .inl ⟨rfl, ?_⟩
    rw [rx.isNon]
    exact k _ H _ S μ G (Stp.refl _ _ _) A (.bl _) h
  · split at h
    · cases rx; cases ry
      exact .inr ⟨_, _, rfl, rfl, k _ H _ S μ G (Stp.refl _ _ _) A (.bl _) h⟩
    · exact h.elim
  · exact h.elim
theorem de_is (ha : DE X b a fa) (hb : DE X b b' fb) : DE X b (.Compare a [.Is] [b'] pos) (opW wIs fa fb) := de_cmp (op_isN.or op_isBl) s_is ha hb (nomark _)
theorem de_isnt (ha : DE X b a fa) (hb : DE X b b' fb) : DE X b (.Compare a [.IsNot] [b'] pos) (opW wIsnt fa fb) := de_cmp (op_notN.or op_notBl) s_isnt ha hb (nomark _)
theorem dt_is (ha : DE X b a fa) (hb : DE X b b' fb) : DT X b (.Compare a [.Is] [b'] pos) (tsW (opW wIs fa fb)) := dt_cmp (op_isN.or op_isBl) s_is ha hb (nomark _)
theorem dt_isnt (ha : DE X b a fa) (hb : DE X b b' fb) : DT X b (.Compare a [.IsNot] [b'] pos) (tsW (opW wIsnt fa fb)) := dt_cmp (op_notN.or op_notBl) s_isnt ha hb (nomark _)

/-! ### in, over rows of flat items -/
def D.flt : D → Bool
  | .non => true
  | .bl _ => true
  | .int _ => true
  | .str _ => true
  | _ => false
def eqD : D → D → Bool
  | .non, .non => true
  | .bl a, .bl b => a == b
  | .bl a, .int b => (if a then 1 else 0) == b
  | .int a, .bl b => a == (if b then 1 else 0)
  | .int a, .int b => a == b
  | .str a, .str b => a == b
  | _, _ => false
def inD (x : D) (xs : List D) : Bool := xs.any fun y => eqD y x
section
variable {H : Hp} {S : Store} {μ : List Addr} {G : Hp}
theorem Rep.flt {v : V} {d : D} (r : Rep c G μ v d) (h : d.flt = true) : flatV v = true := by
  cases r <;> first | rfl | (exact absurd h Bool.false_ne_true)
theorem Rep.eqD {v w : V} {d e : D} (r : Rep c G μ v d) (q : Rep c G μ w e) (h : d.flt = true) (h' : e.flt = true) : eqV v w = eqD d e := by
  cases r <;> cases q <;> first | rfl | (exact absurd h Bool.false_ne_true) | (exact absurd h' Bool.false_ne_true)
theorem Reps.flts {vs : List V} {ds : List D} (r : Reps c G μ vs ds) (h : ds.all D.flt = true) : vs.all flatV = true := by
  induction vs generalizing ds with
  | nil => rfl
  | cons v vs ih =>
    cases r with
    | cons h1 h2 =>
      rw [List.all_cons, Bool.and_eq_true] at h ⊢
      exact ⟨h1.flt h.1, ih h2 h.2⟩
theorem Reps.inD {v : V} {d : D} {vs : List V} {ds : List D} (q : Rep c G μ v d) (hd : d.flt = true) (r : Reps c G μ vs ds) (h : ds.all D.flt = true) : inV v vs = inD d ds := by
  unfold inV DL.inD
  induction vs generalizing ds with
  | nil => cases r; rfl
  | cons w vs ih =>
    cases r with
    | cons h1 h2 =>
      rw [List.all_cons, Bool.and_eq_true] at h
      rw [List.any_cons, List.any_cons, h1.eqD q h.1 hd, ih h2 h.2]
end
def wIn (neg : Bool) : W2 := fun x y S Q => match seqOf S y with
  | some ds => x.flt = true ∧ ds.all D.flt = true ∧ Q (.bl (if neg = true then !inD x ds else inD x ds)) S
  | none => False
theorem s_in {neg : Bool} : Snd2 c (rIn c.K neg) (wIn neg) := by
  intro H S μ G x y dx dy Q R A rx ry h k
  unfold wIn at h
  split at h
  · rename_i ds e
    obtain ⟨a, vs, rfl, ha, r⟩ := A.seqR ry e
    refine ⟨a, vs, rfl, ha, rx.flt h.1, r.flts h.2.1, ?_⟩
    rw [r.inD rx h.1 h.2.1]
    exact k _ H _ S μ G (Stp.refl _ _ _) A (.bl _) h.2.2
  · exact h.elim
theorem de_in (ha : DE X b a fa) (hb : DE X b b' fb) (hm : behindInMarks .In b' = false := by rfl) : DE X b (.Compare a [.In] [b'] pos) (opW (wIn false) fa fb) := de_cmp op_in_seq s_in ha hb hm
theorem de_notin (ha : DE X b a fa) (hb : DE X b b' fb) (hm : behindInMarks .NotIn b' = false := by rfl) : DE X b (.Compare a [.NotIn] [b'] pos) (opW (wIn true) fa fb) := de_cmp op_notIn_seq s_in ha hb hm
theorem dt_in (ha : DE X b a fa) (hb : DE X b b' fb) (hm : behindInMarks .In b' = false := by rfl) : DT X b (.Compare a [.In] [b'] pos) (tsW (opW (wIn false) fa fb)) := dt_cmp op_in_seq s_in ha hb hm
theorem dt_notin (ha : DE X b a fa) (hb : DE X b b' fb) (hm : behindInMarks .NotIn b' = false := by rfl) : DT X b (.Compare a [.NotIn] [b'] pos) (tsW (opW (wIn true) fa fb)) := dt_cmp op_notIn_seq s_in ha hb hm

/-! ### subscripts -/
def ixD (xs : List D) (i : Int) : Option D := if 0 ≤ i then xs[i.toNat]? else if -(xs.length : Int) ≤ i then xs[(i + xs.length).toNat]? else none
def wIx : W2 := fun x y S Q => match y with
  | .int i => match x with
    | .str z => z.length ≤ sizeLine ∧ ∃ t, atI z.cps.toList i = some t ∧ Q (.str ⟨#[t]⟩) S
    | x => match seqOf S x with
      | some ds => match ixD ds i with
        | some d => Q d S
        | none => False
      | none => False
  | _ => False
section
variable {H : Hp} {S : Store} {μ : List Addr} {G : Hp}
theorem Reps.atI {vs : List V} {ds : List D} {i : Int} {d : D} (r : Reps c G μ vs ds) (h : ixD ds i = some d) : ∃ v, atI vs i = some v ∧ Rep c G μ v d := by
  unfold ixD at h
  unfold L2.atI L2.ixN
  have hl := r.length
  split at h
  · rename_i h0
    have hlt := (List.getElem?_eq_some_iff.mp h).1
    rw [if_pos h0, if_pos (by omega)]
    exact r.get h
  · rename_i h0
    split at h
    · rename_i h1
      rw [if_neg h0, if_pos (by rw [hl]; exact h1), hl]
      exact r.get h
    · cases h
end
theorem s_ix : Snd2 c (rIx c.K) wIx := by
  intro H S μ G x y dx dy Q R A rx ry h k
  unfold wIx at h
  split at h
  · cases ry
    split at h
    · cases rx
      obtain ⟨h1, t, h2, h3⟩ := h
      exact .inr (.inr ⟨_, _, t, rfl, rfl, h1, h2, k _ H _ S μ G (Stp.refl _ _ _) A (.str _) h3⟩)
    · split at h
      · rename_i ds e
        split at h
        · rename_i d e2
          obtain ⟨a, vs, rfl, ha, r⟩ := A.seqR rx e
          obtain ⟨v, h4, h5⟩ := r.atI e2
          rcases ha with ha | ha
          · exact .inl ⟨a, vs, _, v, rfl, rfl, ha, h4, k _ H _ S μ G (Stp.refl _ _ _) A h5 h⟩
          · exact .inr (.inl ⟨a, vs, _, v, rfl, rfl, ha, h4, k _ H _ S μ G (Stp.refl _ _ _) A h5 h⟩)
        · exact h.elim
      · exact h.elim
  · exact h.elim
theorem de_ix (ha : DE X b a fa) (hb : DE X b b' fb) (hs : PlainIx b' := by exact fun _ _ => rfl) : DE X b (.Subscript a b' pos) (opW wIx fa fb) := by
  obtain ⟨ta, pa, sa⟩ := ha.ex
  obtain ⟨tb, pb, sb⟩ := hb.ex
  exact ⟨_, pe_ix ix_seq pa pb hs, snd_op s_ix sa sb⟩
end
end DL
namespace DL
open PySem PySem.Spec PyProof.Rows L2
section
variable {X : Cx} {b : Bs} {c : Dc} {fs : WA} {pos : Pos} {e : Expr} {es : List Expr}

/-! ### built-ins by their names -/
def clW (w : WC) (fs : WA) : WE := fun ρ S Q => fs ρ S fun ds S1 => w ds S1 Q
theorem snd_call {r : List V → Hp → VK → Prop} {w : WC} {t : TA} (hr : SndC c r w) (hs : SndA c t fs) : SndE c (tCB r t) (clW w fs) := by
  intro σ H ρ S μ G Q R A h k
  refine hs σ H ρ S μ G _ _ A h fun vs H1 ds S1 μ1 G1 s1 A1 r1 q1 => ?_
  exact hr H1 S1 μ1 G1 vs ds Q R A1.ag r1 q1 fun v H3 d S3 μ3 G3 s3 A3 r3 q3 => k v H3 d S3 μ3 G3 (s1.trans s3) (A1.go s3 A3) r3 q3
theorem de_callB {x : Str} {p : Pos} {id : String} {r : List V → Hp → VK → Prop} {w : WC} (hc : CallR X (.builtin id) r) (hr : SndC (dc X b) r w) (hg : Gl X x) (hm : X.mg x = none) (hv : bootBuiltins x = some (.builtin id)) (ha : DA X b (e :: es) fs)
    (hn : x ≠ "__name__" := by decide) (hdb : (x == ("__debug__" : Str)) = false := by decide)
    (he : starEach (e :: es) X.env = (false, eval e X.env) :: starEach es X.env := by rfl) (hpl : (backTo pos (starEach es X.env)).any (·.1) = false := by rfl) : DE X b (.Call (.Name x p) (e :: es) [] pos) (clW w fs) := by
  obtain ⟨t, pt, st⟩ := ha.ex
  exact ⟨_, pe_callB hc hg hm hv pt hn hdb he hpl, snd_call hr st⟩
theorem de_callTy {x : Str} {p : Pos} {T : String} {r : List V → Hp → VK → Prop} {w : WC} (hc : CallR X (.type T) r) (hr : SndC (dc X b) r w) (hg : Gl X x) (hm : X.mg x = none) (hv : bootBuiltins x = some (.type T)) (ha : DA X b (e :: es) fs)
    (hn : x ≠ "__name__" := by decide) (hdb : (x == ("__debug__" : Str)) = false := by decide)
    (he : starEach (e :: es) X.env = (false, eval e X.env) :: starEach es X.env := by rfl) (hpl : (backTo pos (starEach es X.env)).any (·.1) = false := by rfl) : DE X b (.Call (.Name x p) (e :: es) [] pos) (clW w fs) := by
  obtain ⟨t, pt, st⟩ := ha.ex
  exact ⟨_, pe_callTy hc hg hm hv pt hn hdb he hpl, snd_call hr st⟩

/-! len -/
def wLen : WC := fun ds S Q => match ds with
  | [.str y] => y.length ≤ sizeLine ∧ Q (.int y.length) S
  | [x] => match seqOf S x with
    | some xs => Q (.int xs.length) S
    | none => False
  | _ => False
theorem Reps.one' {G : Hp} {μ : List Addr} {vs : List V} {d : D} (r : Reps c G μ vs [d]) : ∃ v, vs = [v] ∧ Rep c G μ v d := by
  cases r with
  | cons h1 h2 => cases h2; exact ⟨_, rfl, h1⟩
theorem Reps.two' {G : Hp} {μ : List Addr} {vs : List V} {d e : D} (r : Reps c G μ vs [d, e]) : ∃ v w, vs = [v, w] ∧ Rep c G μ v d ∧ Rep c G μ w e := by
  cases r with
  | cons h1 h2 => obtain ⟨w, rfl, h3⟩ := h2.one'; exact ⟨_, _, rfl, h1, h3⟩
theorem c_len : SndC c (fun xs H Q => ∃ x n, xs = [x] ∧ LenV c.K x H n ∧ Q (.int n) H) wLen := by
  intro H S μ G vs ds Q R A r h k
  unfold wLen at h
  split at h
  · obtain ⟨v, rfl, r1⟩ := r.one'
    cases r1
    exact ⟨_, _, rfl, ⟨h.1, rfl⟩, k _ H _ S μ G (Stp.refl _ _ _) A (.int _) h.2⟩
  · split at h
    · rename_i xs q
      obtain ⟨v, rfl, r1⟩ := r.one'
      obtain ⟨a, ws, rfl, ha, r2⟩ := A.seqR r1 q
      refine ⟨_, ws.length, rfl, ?_, ?_⟩
      · rcases ha with ha | ha
        · exact .inl ⟨ws, ha, rfl⟩
        · exact .inr ⟨ws, ha, rfl⟩
      · rw [r2.length]
        exact k _ H _ S μ G (Stp.refl _ _ _) A (.int _) h
    · exact h.elim
  · exact h.elim
theorem de_len {p : Pos} (hg : Gl X "len") (hm : X.mg "len" = none) (ha : DA X b (e :: es) fs) (he : starEach (e :: es) X.env = (false, eval e X.env) :: starEach es X.env := by rfl) (hpl : (backTo pos (starEach es X.env)).any (·.1) = false := by rfl) :
    DE X b (.Call (.Name "len" p) (e :: es) [] pos) (clW wLen fs) := de_callB call_len c_len hg hm PySem.boot_len ha (by decide) (by decide) he hpl

/-! rows of ints, of bools -/
def intsOf : List D → Option (List Int)
  | [] => some []
  | .int i :: r => match intsOf r with
    | some ns => some (i :: ns)
    | none => none
  | _ :: _ => none
theorem intsOf_map : ∀ ns : List Int, intsOf (ns.map D.int) = some ns
  | [] => rfl
  | n :: ns => by
    show (match intsOf (ns.map D.int) with | some ns => some (n :: ns) | none => none) = some (n :: ns)
    rw [intsOf_map ns]
theorem of_intsOf : ∀ {ds : List D} {ns : List Int}, intsOf ds = some ns → ds = ns.map D.int
  | [], _, h => by cases h; rfl
  | .int i :: r, ns, h => by
    simp only [intsOf] at h
    split at h
    · rename_i ms q
      cases h
      rw [of_intsOf q, List.map_cons]
    · cases h
  | .non :: _, _, h => by cases h
  | .bl _ :: _, _, h => by cases h
  | .str _ :: _, _, h => by cases h
  | .ty _ :: _, _, h => by cases h
  | .tup _ :: _, _, h => by cases h
  | .lst _ :: _, _, h => by cases h
  | .rol _ :: _, _, h => by cases h
  | .loc _ :: _, _, h => by cases h
def blsOf : List D → Option (List Bool)
  | [] => some []
  | .bl i :: r => match blsOf r with
    | some ns => some (i :: ns)
    | none => none
  | _ :: _ => none
theorem blsOf_map : ∀ ns : List Bool, blsOf (ns.map D.bl) = some ns
  | [] => rfl
  | n :: ns => by
    show (match blsOf (ns.map D.bl) with | some ns => some (n :: ns) | none => none) = some (n :: ns)
    rw [blsOf_map ns]
theorem of_blsOf : ∀ {ds : List D} {ns : List Bool}, blsOf ds = some ns → ds = ns.map D.bl
  | [], _, h => by cases h; rfl
  | .bl i :: r, ns, h => by
    simp only [blsOf] at h
    split at h
    · rename_i ms q
      cases h
      rw [of_blsOf q, List.map_cons]
    · cases h
  | .non :: _, _, h => by cases h
  | .int _ :: _, _, h => by cases h
  | .str _ :: _, _, h => by cases h
  | .ty _ :: _, _, h => by cases h
  | .tup _ :: _, _, h => by cases h
  | .lst _ :: _, _, h => by cases h
  | .rol _ :: _, _, h => by cases h
  | .loc _ :: _, _, h => by cases h
/-- the items of a list that is read -/
def lsqOf (S : Store) : D → Option (List D)
  | .lst ds => some ds
  | .rol ds => some ds
  | .loc n => match S[n]? with
    | some (.lst ds) => some ds
    | _ => none
  | _ => none
theorem Ag0.lsqR {H : Hp} {S : Store} {μ : List Addr} {G : Hp} (A : Ag0 c H S μ G) {v : V} {d : D} {ds : List D} (r : Rep c G μ v d) (h : lsqOf S d = some ds) : ∃ a vs, v = .ref a ∧ SqL c.K H a vs ∧ Reps c G μ vs ds := by
  cases r with
  | rol h1 h2 =>
    cases h
    exact ⟨_, _, rfl, A.same.seq h1, h2⟩
  | lst h1 h2 =>
    cases h
    exact ⟨_, _, rfl, SqL.of (A.same _ _ h1), h2⟩
  | @loc a n h1 =>
    simp only [lsqOf] at h
    split at h
    · rename_i q
      cases h
      obtain ⟨vs, h2, h3⟩ := A.at h1 q
      exact ⟨_, _, rfl, SqL.of h2, h3⟩
    · cases h
  | _ => cases h
/-! min, max, abs, int -/
def minL : Int → List Int → Int
  | m, [] => m
  | m, y :: r => minL (if y < m then y else m) r
def maxL : Int → List Int → Int
  | m, [] => m
  | m, y :: r => maxL (if m < y then y else m) r
theorem minL_spec : ∀ (r : List Int) (m : Int), minL m r ∈ m :: r ∧ ∀ y ∈ m :: r, minL m r ≤ y
  | [], m => by simp [minL]
  | y :: r, m => by
    obtain ⟨h1, h2⟩ := minL_spec r (if y < m then y else m)
    unfold minL
    constructor
    · rcases List.mem_cons.mp h1 with e | e
      · rw [e]; split <;> simp
      · exact List.mem_cons_of_mem _ (List.mem_cons_of_mem _ e)
    · intro z hz
      have h3 := h2 _ List.mem_cons_self
      have h4 : (if y < m then y else m) ≤ m ∧ (if y < m then y else m) ≤ y := by split <;> omega
      rcases List.mem_cons.mp hz with e | hz
      · rw [e]; exact Int.le_trans h3 h4.1
      · rcases List.mem_cons.mp hz with e | hz
        · rw [e]; exact Int.le_trans h3 h4.2
        · exact h2 z (List.mem_cons_of_mem _ hz)
theorem maxL_spec : ∀ (r : List Int) (m : Int), maxL m r ∈ m :: r ∧ ∀ y ∈ m :: r, y ≤ maxL m r
  | [], m => by simp [maxL]
  | y :: r, m => by
    obtain ⟨h1, h2⟩ := maxL_spec r (if m < y then y else m)
    unfold maxL
    constructor
    · rcases List.mem_cons.mp h1 with e | e
      · rw [e]; split <;> simp
      · exact List.mem_cons_of_mem _ (List.mem_cons_of_mem _ e)
    · intro z hz
      have h3 := h2 _ List.mem_cons_self
      have h4 : m ≤ (if m < y then y else m) ∧ y ≤ (if m < y then y else m) := by split <;> omega
      rcases List.mem_cons.mp hz with e | hz
      · rw [e]; exact Int.le_trans h4.1 h3
      · rcases List.mem_cons.mp hz with e | hz
        · rw [e]; exact Int.le_trans h4.2 h3
        · exact h2 z (List.mem_cons_of_mem _ hz)
def wMin : WC := fun ds S Q => match ds with
  | [.int i, .int j] => Q (.int (if j < i then j else i)) S
  | [x] => match lsqOf S x with
    | some xs => match intsOf xs with
      | some (m :: r) => Q (.int (minL m r)) S
      | _ => False
    | none => False
  | _ => False
def wMax : WC := fun ds S Q => match ds with
  | [.int i, .int j] => Q (.int (if i < j then j else i)) S
  | [x] => match lsqOf S x with
    | some xs => match intsOf xs with
      | some (m :: r) => Q (.int (maxL m r)) S
      | _ => False
    | none => False
  | _ => False
theorem c_min : SndC c (fun xs H Q => (∃ i j, xs = [.int i, .int j] ∧ Q (.int (if j < i then j else i)) H) ∨ rMin c.K xs H Q) wMin := by
  intro H S μ G vs ds Q R A r h k
  unfold wMin at h
  split at h
  · obtain ⟨v, w, rfl, r1, r2⟩ := r.two'
    cases r1; cases r2
    exact .inl ⟨_, _, rfl, k _ H _ S μ G (Stp.refl _ _ _) A (.int _) h⟩
  · split at h
    · rename_i xs q
      split at h
      · rename_i m l q2
        obtain ⟨v, rfl, r1⟩ := r.one'
        obtain ⟨a, ws, rfl, ha, r2⟩ := A.lsqR r1 q
        rw [of_intsOf q2] at r2
        rw [r2.ints] at ha
        refine .inr ⟨a, m :: l, rfl, ha, by simp, fun z hz hle => ?_⟩
        obtain ⟨h1, h2⟩ := minL_spec l m
        have e : z = minL m l := Int.le_antisymm (hle _ h1) (h2 _ hz)
        rw [e]
        exact k _ H _ S μ G (Stp.refl _ _ _) A (.int _) h
      · exact h.elim
    · exact h.elim
  · exact h.elim
theorem c_max : SndC c (fun xs H Q => (∃ i j, xs = [.int i, .int j] ∧ Q (.int (if j > i then j else i)) H) ∨ rMax c.K xs H Q) wMax := by
  intro H S μ G vs ds Q R A r h k
  unfold wMax at h
  split at h
  · obtain ⟨v, w, rfl, r1, r2⟩ := r.two'
    cases r1; cases r2
    exact .inl ⟨_, _, rfl, k _ H _ S μ G (Stp.refl _ _ _) A (.int _) h⟩
  · split at h
    · rename_i xs q
      split at h
      · rename_i m l q2
        obtain ⟨v, rfl, r1⟩ := r.one'
        obtain ⟨a, ws, rfl, ha, r2⟩ := A.lsqR r1 q
        rw [of_intsOf q2] at r2
        rw [r2.ints] at ha
        refine .inr ⟨a, m :: l, rfl, ha, by simp, fun z hz hle => ?_⟩
        obtain ⟨h1, h2⟩ := maxL_spec l m
        have e : z = maxL m l := Int.le_antisymm (h2 _ hz) (hle _ h1)
        rw [e]
        exact k _ H _ S μ G (Stp.refl _ _ _) A (.int _) h
      · exact h.elim
    · exact h.elim
  · exact h.elim
theorem de_min {p : Pos} (hc : X.calm = true) (hg : Gl X "min") (hm : X.mg "min" = none) (ha : DA X b (e :: es) fs) (he : starEach (e :: es) X.env = (false, eval e X.env) :: starEach es X.env := by rfl) (hpl : (backTo pos (starEach es X.env)).any (·.1) = false := by rfl) :
    DE X b (.Call (.Name "min" p) (e :: es) [] pos) (clW wMin fs) := de_callB ((call_min2 hc).or (cr_min hc)) c_min hg hm (by decide +kernel) ha (by decide) (by decide) he hpl
theorem de_max {p : Pos} (hc : X.calm = true) (hg : Gl X "max") (hm : X.mg "max" = none) (ha : DA X b (e :: es) fs) (he : starEach (e :: es) X.env = (false, eval e X.env) :: starEach es X.env := by rfl) (hpl : (backTo pos (starEach es X.env)).any (·.1) = false := by rfl) :
    DE X b (.Call (.Name "max" p) (e :: es) [] pos) (clW wMax fs) := de_callB ((call_max2 hc).or (cr_max hc)) c_max hg hm (by decide +kernel) ha (by decide) (by decide) he hpl
def wAbs : WC := fun ds S Q => match ds with
  | [.int i] => Q (.int (if i < 0 then -i else i)) S
  | _ => False
theorem c_abs : SndC c (fun xs H Q => ∃ i, xs = [.int i] ∧ Q (.int (if i < 0 then -i else i)) H) wAbs := by
  intro H S μ G vs ds Q R A r h k
  unfold wAbs at h
  split at h
  · obtain ⟨v, rfl, r1⟩ := r.one'
    cases r1
    exact ⟨_, rfl, k _ H _ S μ G (Stp.refl _ _ _) A (.int _) h⟩
  · exact h.elim
theorem de_abs {p : Pos} (hg : Gl X "abs") (hm : X.mg "abs" = none) (ha : DA X b (e :: es) fs) (he : starEach (e :: es) X.env = (false, eval e X.env) :: starEach es X.env := by rfl) (hpl : (backTo pos (starEach es X.env)).any (·.1) = false := by rfl) :
    DE X b (.Call (.Name "abs" p) (e :: es) [] pos) (clW wAbs fs) := de_callB call_abs c_abs hg hm (by decide +kernel) ha (by decide) (by decide) he hpl
def wInt : WC := fun ds S Q => match ds with
  | [.int i] => Q (.int i) S
  | [.bl k] => Q (.int (if k then 1 else 0)) S
  | _ => False
theorem c_int : SndC c (fun xs H Q => (∃ i, xs = [.int i] ∧ Q (.int i) H) ∨ ∃ k, xs = [.bl k] ∧ Q (.int (if k then 1 else 0)) H) wInt := by
  intro H S μ G vs ds Q R A r h k
  unfold wInt at h
  split at h
  · obtain ⟨v, rfl, r1⟩ := r.one'
    cases r1
    exact .inl ⟨_, rfl, k _ H _ S μ G (Stp.refl _ _ _) A (.int _) h⟩
  · obtain ⟨v, rfl, r1⟩ := r.one'
    cases r1
    exact .inr ⟨_, rfl, k _ H _ S μ G (Stp.refl _ _ _) A (.int _) h⟩
  · exact h.elim
theorem de_int1 {p : Pos} (hg : Gl X "int") (hm : X.mg "int" = none) (ha : DA X b (e :: es) fs) (he : starEach (e :: es) X.env = (false, eval e X.env) :: starEach es X.env := by rfl) (hpl : (backTo pos (starEach es X.env)).any (·.1) = false := by rfl) :
    DE X b (.Call (.Name "int" p) (e :: es) [] pos) (clW wInt fs) := de_callTy call_int1 c_int hg hm (by decide +kernel) ha (by decide) (by decide) he hpl
/-! all, any of a list of bools -/
def wAll : WC := fun ds S Q => match ds with
  | [x] => match lsqOf S x with
    | some xs => match blsOf xs with
      | some bs => Q (.bl (bs.all id)) S
      | _ => False
    | none => False
  | _ => False
def wAny : WC := fun ds S Q => match ds with
  | [x] => match lsqOf S x with
    | some xs => match blsOf xs with
      | some bs => Q (.bl (bs.any id)) S
      | _ => False
    | none => False
  | _ => False
theorem c_all : SndC c (rAll c.K) wAll := by
  intro H S μ G vs ds Q R A r h k
  unfold wAll at h
  split at h
  · split at h
    · rename_i xs q
      split at h
      · rename_i bs q2
        obtain ⟨v, rfl, r1⟩ := r.one'
        obtain ⟨a, ws, rfl, ha, r2⟩ := A.lsqR r1 q
        rw [of_blsOf q2] at r2
        rw [r2.bls] at ha
        exact ⟨a, bs, rfl, ha, k _ H _ S μ G (Stp.refl _ _ _) A (.bl _) h⟩
      · exact h.elim
    · exact h.elim
  · exact h.elim
theorem c_any : SndC c (rAny c.K) wAny := by
  intro H S μ G vs ds Q R A r h k
  unfold wAny at h
  split at h
  · split at h
    · rename_i xs q
      split at h
      · rename_i bs q2
        obtain ⟨v, rfl, r1⟩ := r.one'
        obtain ⟨a, ws, rfl, ha, r2⟩ := A.lsqR r1 q
        rw [of_blsOf q2] at r2
        rw [r2.bls] at ha
        exact ⟨a, bs, rfl, ha, k _ H _ S μ G (Stp.refl _ _ _) A (.bl _) h⟩
      · exact h.elim
    · exact h.elim
  · exact h.elim
theorem de_all {p : Pos} (hc : X.calm = true) (hg : Gl X "all") (hm : X.mg "all" = none) (ha : DA X b (e :: es) fs) (he : starEach (e :: es) X.env = (false, eval e X.env) :: starEach es X.env := by rfl) (hpl : (backTo pos (starEach es X.env)).any (·.1) = false := by rfl) :
    DE X b (.Call (.Name "all" p) (e :: es) [] pos) (clW wAll fs) := de_callB (cr_all hc) c_all hg hm (by decide +kernel) ha (by decide) (by decide) he hpl
theorem de_any {p : Pos} (hc : X.calm = true) (hg : Gl X "any") (hm : X.mg "any" = none) (ha : DA X b (e :: es) fs) (he : starEach (e :: es) X.env = (false, eval e X.env) :: starEach es X.env := by rfl) (hpl : (backTo pos (starEach es X.env)).any (·.1) = false := by rfl) :
    DE X b (.Call (.Name "any" p) (e :: es) [] pos) (clW wAny fs) := de_callB (cr_any hc) c_any hg hm (by decide +kernel) ha (by decide) (by decide) he hpl
/-! isinstance with a built-in class -/
def tyN (S : Store) : D → Option String
  | .non => some "NoneType"
  | .bl _ => some "bool"
  | .int _ => some "int"
  | .str _ => some "str"
  | .tup _ => some "tuple"
  | .lst _ => some "list"
  | .rol _ => some "list"
  | .loc n => match S[n]? with
    | some (.lst _) => some "list"
    | _ => none
  | .ty _ => none
theorem Ag0.tyX {H : Hp} {S : Store} {μ : List Addr} {G : Hp} (A : Ag0 c H S μ G) {v : V} {d : D} {n : String} (r : Rep c G μ v d) (h : tyN S d = some n) : TyX c.K H v (.type n) := by
  have lists : ∀ {a : Addr} {xs : List V}, SqL c.K H a xs → TyX c.K H (.ref a) (.type "list") := fun {a xs} h => by
    rcases h with (h | ⟨o, h⟩) | ⟨o, its, n, h, e, _⟩
    · exact .base (.lst h)
    · exact .base (.frz h)
    · exact .kList h e
  cases r with
  | non => cases h; exact .base .non
  | bl => cases h; exact .base (.bl _)
  | int => cases h; exact .base (.int _)
  | str => cases h; exact .base (.str _)
  | ty => cases h
  | tup h1 h2 =>
    cases h
    rcases sqT_mono A.same h1 with (h | ⟨o, h⟩) | ⟨o, its, n, h, e, _⟩
    · exact .base (.tup h)
    · exact .fTuple h
    · exact .kTuple h e
  | lst h1 h2 => cases h; exact lists (SqL.of (A.same _ _ h1))
  | rol h1 h2 => cases h; exact lists (A.same.seq h1)
  | loc h1 =>
    simp only [tyN] at h
    split at h
    · rename_i q
      cases h
      obtain ⟨vs, h2, h3⟩ := A.at h1 q
      exact lists (SqL.of h2)
    · cases h
def wIsi : WC := fun ds S Q => match ds with
  | [x, .ty n] => match tyN S x with
    | some m => match kitB m n with
      | some k => Q (.bl k) S
      | none => False
    | none => False
  | _ => False
theorem c_isi : SndC c (rIsi c.K) wIsi := by
  intro H S μ G vs ds Q R A r h k
  unfold wIsi at h
  split at h
  · rename_i x n
    split at h
    · rename_i m q
      split at h
      · rename_i z q2
        obtain ⟨v, w, rfl, r1, r2⟩ := r.two'
        cases r2
        exact ⟨v, .ty n, .type m, .type n, z, rfl, .ty n, A.tyX r1 q, kit_ty q2, k _ H _ S μ G (Stp.refl _ _ _) A (.bl _) h⟩
      · exact h.elim
    · exact h.elim
  · exact h.elim
theorem de_isi {p : Pos} (hg : Gl X "isinstance") (hm : X.mg "isinstance" = none) (ha : DA X b (e :: es) fs) (he : starEach (e :: es) X.env = (false, eval e X.env) :: starEach es X.env := by rfl) (hpl : (backTo pos (starEach es X.env)).any (·.1) = false := by rfl) :
    DE X b (.Call (.Name "isinstance" p) (e :: es) [] pos) (clW wIsi fs) := de_callB call_isi c_isi hg hm (by decide +kernel) ha (by decide) (by decide) he hpl
/-! tuple(xs), list(xs) -/
def wTuple : WC := fun ds S Q => match ds with
  | [x] => match seqOf S x with
    | some xs => Q (.tup xs) S
    | none => False
  | _ => False
def wList : WC := fun ds S Q => match ds with
  | [x] => match seqOf S x with
    | some xs => Q (.lst xs) S
    | none => False
  | _ => False
def wListN : WC := fun ds S Q => match ds with
  | [x] => match seqOf S x with
    | some xs => Q (.loc S.length) (S ++ [.lst xs])
    | none => False
  | _ => False
theorem Ag0.tupOrL {H : Hp} {S : Store} {μ : List Addr} {G : Hp} (A : Ag0 c H S μ G) {v : V} {d : D} {ds : List D} (r : Rep c G μ v d) (h : seqOf S d = some ds) : ∃ a vs, v = .ref a ∧ ((SqL c.K H a vs ∧ Reps c G μ vs ds) ∨ (SqT c.K H a vs ∧ Rep c G μ v (.tup ds))) := by
  cases r with
  | tup h1 h2 =>
    cases h
    exact ⟨_, _, rfl, .inr ⟨sqT_mono A.same h1, .tup h1 h2⟩⟩
  | rol h1 h2 =>
    cases h
    exact ⟨_, _, rfl, .inl ⟨A.same.seq h1, h2⟩⟩
  | lst h1 h2 =>
    cases h
    exact ⟨_, _, rfl, .inl ⟨SqL.of (A.same _ _ h1), h2⟩⟩
  | @loc a n h1 =>
    simp only [seqOf] at h
    split at h
    · rename_i e
      cases h
      obtain ⟨vs, h2, h3⟩ := A.at h1 e
      exact ⟨_, _, rfl, .inl ⟨SqL.of h2, h3⟩⟩
    · cases h
  | _ => cases h
theorem c_tuple : SndC c (fun xs H Q => ∃ p ys, xs = [.ref p] ∧ ((SqL c.K H p ys ∧ ∀ l, H l = none → Q (.ref l) (upd H l (.tup ys))) ∨ (SqT c.K H p ys ∧ Q (.ref p) H))) wTuple := by
  intro H S μ G vs ds Q R A r h k
  unfold wTuple at h
  split at h
  · split at h
    · rename_i xs q
      obtain ⟨v, rfl, r1⟩ := r.one'
      obtain ⟨a, ws, rfl, ha⟩ := A.tupOrL r1 q
      refine ⟨a, ws, rfl, ?_⟩
      rcases ha with ⟨ha, r2⟩ | ⟨ha, r2⟩
      · refine .inl ⟨ha, fun p np => ?_⟩
        obtain ⟨A2, s2⟩ := A.frz (o := .tup ws) np
        exact k _ _ _ S μ _ s2 A2 (A.frzT np r2) h
      · exact .inr ⟨ha, k _ H _ S μ G (Stp.refl _ _ _) A r2 h⟩
    · exact h.elim
  · exact h.elim
theorem c_list : SndC c (fun xs H Q => ∃ p ys, xs = [.ref p] ∧ (SqL c.K H p ys ∨ SqT c.K H p ys) ∧ ∀ l, H l = none → Q (.ref l) (upd H l (.lst ys))) wList := by
  intro H S μ G vs ds Q R A r h k
  unfold wList at h
  split at h
  · split at h
    · rename_i xs q
      obtain ⟨v, rfl, r1⟩ := r.one'
      obtain ⟨a, ws, rfl, ha, r2⟩ := A.seqR r1 q
      refine ⟨a, ws, rfl, ha, fun p np => ?_⟩
      obtain ⟨A2, s2⟩ := A.frz (o := .lst ws) np
      exact k _ _ _ S μ _ s2 A2 (A.frzL np r2) h
    · exact h.elim
  · exact h.elim
theorem c_listN : SndC c (fun xs H Q => ∃ p ys, xs = [.ref p] ∧ (SqL c.K H p ys ∨ SqT c.K H p ys) ∧ ∀ l, H l = none → Q (.ref l) (upd H l (.lst ys))) wListN := by
  intro H S μ G vs ds Q R A r h k
  unfold wListN at h
  split at h
  · split at h
    · rename_i xs q
      obtain ⟨v, rfl, r1⟩ := r.one'
      obtain ⟨a, ws, rfl, ha, r2⟩ := A.seqR r1 q
      refine ⟨a, ws, rfl, ha, fun p np => ?_⟩
      obtain ⟨A2, s2⟩ := A.new np r2
      exact k _ _ _ _ _ _ s2 A2 A.newL h
    · exact h.elim
  · exact h.elim
theorem de_tuple {p : Pos} (hg : Gl X "tuple") (hm : X.mg "tuple" = none) (ha : DA X b (e :: es) fs) (he : starEach (e :: es) X.env = (false, eval e X.env) :: starEach es X.env := by rfl) (hpl : (backTo pos (starEach es X.env)).any (·.1) = false := by rfl) :
    DE X b (.Call (.Name "tuple" p) (e :: es) [] pos) (clW wTuple fs) := de_callTy call_tuple_of c_tuple hg hm (by decide +kernel) ha (by decide) (by decide) he hpl
theorem de_list {p : Pos} (hg : Gl X "list") (hm : X.mg "list" = none) (ha : DA X b (e :: es) fs) (he : starEach (e :: es) X.env = (false, eval e X.env) :: starEach es X.env := by rfl) (hpl : (backTo pos (starEach es X.env)).any (·.1) = false := by rfl) :
    DE X b (.Call (.Name "list" p) (e :: es) [] pos) (clW wList fs) := de_callTy call_list_of c_list hg hm (by decide +kernel) ha (by decide) (by decide) he hpl
theorem de_listN {p : Pos} (hg : Gl X "list") (hm : X.mg "list" = none) (ha : DA X b (e :: es) fs) (he : starEach (e :: es) X.env = (false, eval e X.env) :: starEach es X.env := by rfl) (hpl : (backTo pos (starEach es X.env)).any (·.1) = false := by rfl) :
    DE X b (.Call (.Name "list" p) (e :: es) [] pos) (clW wListN fs) := de_callTy call_list_of c_listN hg hm (by decide +kernel) ha (by decide) (by decide) he hpl
end
end DL
namespace DL
open PySem PySem.Spec PyProof.Rows L2

/-! ### the canonical reading of a transformer -/
def rdE (c : Dc) (f : WE) : TE := fun σ H R => ∃ (ρ : Rho) (S : Store) (μ : List Addr) (G : Hp) (Q : DQ), Ag c σ H ρ S μ G ∧ f ρ S Q ∧
  ∀ v H' d S' μ' G', Stp H μ G H' μ' G' → Ag c σ H' ρ S' μ' G' → Rep c G' μ' v d → Q d S' → R v H'
def rdT (c : Dc) (f : WT) : TT := fun σ H R => ∃ (ρ : Rho) (S : Store) (μ : List Addr) (G : Hp) (Q : Bool → Store → Prop), Ag c σ H ρ S μ G ∧ f ρ S Q ∧
  ∀ b H' S' μ' G', Stp H μ G H' μ' G' → Ag c σ H' ρ S' μ' G' → Q b S' → R b H'
theorem DE.can {X : Cx} {b : Bs} {e : Expr} {f : WE} (h : DE X b e f) : PE X e (rdE (dc X b) f) := by
  obtain ⟨t, p, s⟩ := h.ex
  refine ⟨fun pins st σ H R I q => ?_⟩
  obtain ⟨ρ, S, μ, G, Q, A, q1, q2⟩ := q
  exact p.run pins st σ H R I (s σ H ρ S μ G Q R A q1 q2)
theorem DT.can {X : Cx} {b : Bs} {e : Expr} {f : WT} (h : DT X b e f) : PT X e (rdT (dc X b) f) := by
  obtain ⟨t, p, s⟩ := h.ex
  refine ⟨fun pins st σ H R I q => ?_⟩
  obtain ⟨ρ, S, μ, G, Q, A, q1, q2⟩ := q
  exact p.run pins st σ H R I (s σ H ρ S μ G Q R A q1 q2)

/-! ### targets: names, tuples of names -/
inductive Tg where
  | nm (i : Nat) | tp (is : List Nat)
def puts : List Nat → List D → Rho → Rho
  | i :: is, d :: ds, ρ => puts is ds (ρ.set i (some d))
  | _, _, ρ => ρ
def Tg.put : Tg → D → Rho → Option Rho
  | .nm i, d, ρ => some (ρ.set i (some d))
  | .tp is, .tup ds, ρ => if ds.length = is.length then some (puts is ds ρ) else none
  | .tp _, _, _ => none
def Tg.slots : Tg → List Nat
  | .nm i => [i]
  | .tp is => is
def gNms : List Nat → TGs
  | [] => gNil
  | i :: is => gCons (gName i) (gNms is)
def tgT (K : PySem.W.Frag) : Tg → TG
  | .nm i => gName i
  | .tp is => gTup K is.length (gNms is)
theorem wipe_set : ∀ {σ : L2.St} {vs : List Nat} {i : Nat} {x : Option V}, i ∈ vs → L2.wipe (σ.set i x) vs = L2.wipe σ vs := by
  intro σ vs i x
  induction vs with
  | nil => intro h; cases h
  | cons v vs ih =>
    intro h
    unfold L2.wipe
    by_cases e : i ∈ vs
    · rw [ih e]
    · have ev : i = v := by
        rcases List.mem_cons.mp h with z | z
        · exact z
        · exact absurd z e
      subst ev
      clear ih h
      have key : ∀ ws : List Nat, i ∉ ws → L2.wipe (σ.set i x) ws = (L2.wipe σ ws).set i x := by
        intro ws
        induction ws with
        | nil => intro _; rfl
        | cons w ws ih =>
          intro hw
          unfold L2.wipe
          rw [ih fun z => hw (List.mem_cons_of_mem _ z)]
          exact List.set_comm _ _ fun z => hw (by rw [z]; exact List.mem_cons_self)
      rw [key vs e, List.set_set]
section
variable {c : Dc} {K : PySem.W.Frag}
theorem gNms_ok {Q : L2.St → Hp → Prop} {vs : List Nat} {H : Hp} {S : Store} {μ : List Addr} {G : Hp} : ∀ {is : List Nat} {xs : List V} {ds : List D} {σ : L2.St} {ρ : Rho}, Ag c σ H ρ S μ G → Reps c G μ xs ds → ds.length = is.length →
    (∀ σ', Ag c σ' H (puts is ds ρ) S μ G → (∀ vs : List Nat, (∀ i ∈ is, i ∈ vs) → L2.wipe σ' vs = L2.wipe σ vs) → Q σ' H) → gNms is xs σ H Q
  | [], xs, ds, σ, ρ, A, r, hl, k => by
    cases r with
    | nil => exact ⟨rfl, k σ A fun _ _ => rfl⟩
    | cons _ _ => cases hl
  | i :: is, _, ds, σ, ρ, A, r, hl, k => by
    cases r with
    | nil => cases hl
    | cons h1 h2 =>
      refine ⟨_, _, rfl, ?_⟩
      refine gNms_ok (vs := vs) (A.set h1) h2 (Nat.succ.inj hl) fun σ' A' hw => ?_
      refine k σ' A' fun ws hws => ?_
      rw [hw ws fun j hj => hws j (List.mem_cons_of_mem _ hj)]
      exact wipe_set (hws i List.mem_cons_self)
theorem Tg.ok {tg : Tg} {v : V} {d : D} {σ : L2.St} {H : Hp} {ρ ρ' : Rho} {S : Store} {μ : List Addr} {G : Hp} {Q : L2.St → Hp → Prop} (A : Ag c σ H ρ S μ G) (r : Rep c G μ v d) (e : tg.put d ρ = some ρ')
    (k : ∀ σ', Ag c σ' H ρ' S μ G → (∀ vs : List Nat, (∀ i ∈ tg.slots, i ∈ vs) → L2.wipe σ' vs = L2.wipe σ vs) → Q σ' H) : tgT c.K tg v σ H Q := by
  cases tg with
  | nm i =>
    cases e
    exact k _ (A.set r) fun ws hws => wipe_set (hws i (by simp [Tg.slots]))
  | tp is =>
    cases d with
    | tup ds =>
      simp only [Tg.put] at e
      split at e
      · rename_i hl
        cases e
        obtain ⟨a, xs, rfl, ha, r2⟩ := A.ag.tupR r
        exact ⟨a, xs, rfl, ha, by rw [r2.length]; exact hl, gNms_ok (vs := []) A r2 hl k⟩
      · cases e
    | _ => cases e
end
abbrev DG (X : Cx) (target : Expr) (tg : Tg) : Prop := PG X target (tgT X.K tg)
section
variable {X : Cx} {pos : Pos}
theorem dg_nm {i : Nat} {x : Str} (hN : X.N.Nodup) (hi : X.N[i]? = some x) (hx : Loc X.env.scope x) (hf : X.fn x = true ∨ X.env.scope.names.lookup x = some .local := by first | exact .inl rfl | exact .inr rfl | assumption) : DG X (.Name x pos) (.nm i) := pg_name hN hi hx hf
theorem dgs_nil : PGs X [] (gNms []) := pgs_nil
theorem dgs_cons {i : Nat} {is : List Nat} {e : Expr} {es : List Expr} (h1 : PG X e (gName i)) (h2 : PGs X es (gNms is))
    (hs : (assignEach (e :: es) X.env).map (·.2) = assign e X.env :: (assignEach es X.env).map (·.2) := by rfl) : PGs X (e :: es) (gNms (i :: is)) := pgs_cons h1 h2 hs
theorem dg_tp {es : List Expr} {k : Nat} {is : List Nat} (hc : X.calm = true) (h : PGs X es (gNms is)) (hn : (assignEach es X.env).length = is.length := by rfl) (hst : (assignEach es X.env).findIdx? (·.1) = none := by rfl) :
    DG X (.Tuple es k pos) (.tp is) := pg_tup hc h hn hst
end

/-! ### statements -/
structure DEnds where
  nx : Rho → Store → Prop
  rt : DQ
  bk : Rho → Store → Prop := fun _ _ => False
  ct : Rho → Store → Prop := fun _ _ => False
abbrev WS := DEnds → Rho → Store → Prop
structure EOk (c : Dc) (E : Ends) (Dd : DEnds) (H : Hp) (μ : List Addr) (G : Hp) : Prop where
  nx : ∀ σ' H' ρ' S' μ' G', Stp H μ G H' μ' G' → Ag c σ' H' ρ' S' μ' G' → Dd.nx ρ' S' → E.nx σ' H'
  rt : ∀ v H' d S' μ' G', Stp H μ G H' μ' G' → Ag0 c H' S' μ' G' → Rep c G' μ' v d → Dd.rt d S' → E.rt v H'
  bk : ∀ σ' H' ρ' S' μ' G', Stp H μ G H' μ' G' → Ag c σ' H' ρ' S' μ' G' → Dd.bk ρ' S' → E.bk σ' H'
  ct : ∀ σ' H' ρ' S' μ' G', Stp H μ G H' μ' G' → Ag c σ' H' ρ' S' μ' G' → Dd.ct ρ' S' → E.ct σ' H'
theorem EOk.go {c : Dc} {E : Ends} {Dd : DEnds} {H H1 : Hp} {μ μ1 : List Addr} {G G1 : Hp} (h : EOk c E Dd H μ G) (s : Stp H μ G H1 μ1 G1) : EOk c E Dd H1 μ1 G1 :=
  ⟨fun σ' H' ρ' S' μ' G' t => h.nx σ' H' ρ' S' μ' G' (s.trans t), fun v H' d S' μ' G' t => h.rt v H' d S' μ' G' (s.trans t), fun σ' H' ρ' S' μ' G' t => h.bk σ' H' ρ' S' μ' G' (s.trans t), fun σ' H' ρ' S' μ' G' t => h.ct σ' H' ρ' S' μ' G' (s.trans t)⟩
def SndS (c : Dc) (t : TS) (g : WS) : Prop := ∀ (E : Ends) (Dd : DEnds) (σ : L2.St) (H : Hp) (ρ : Rho) (S : Store) (μ : List Addr) (G : Hp), Ag c σ H ρ S μ G → g Dd ρ S → EOk c E Dd H μ G → t E σ H
structure DS (X : Cx) (b : Bs) (st : Stmt) (g : WS) : Prop where
  ex : ∃ t, PS X st t ∧ SndS (dc X b) t g
structure DSs (X : Cx) (b : Bs) (st : List Stmt) (g : WS) : Prop where
  ex : ∃ t, PSs X st t ∧ SndS (dc X b) t g
def nxW : WS := fun Dd ρ S => Dd.nx ρ S
def seqW (g h : WS) : WS := fun Dd ρ S => g { Dd with nx := h Dd } ρ S
def bkW : WS := fun Dd ρ S => Dd.bk ρ S
def ctW : WS := fun Dd ρ S => Dd.ct ρ S
def retW (fe : WE) : WS := fun Dd ρ S => fe ρ S Dd.rt
def retN : WS := fun Dd _ S => Dd.rt .non S
def dropW (fe : WE) : WS := fun Dd ρ S => fe ρ S fun _ S1 => Dd.nx ρ S1
def ifS (ft : WT) (g h : WS) : WS := fun Dd ρ S => ft ρ S fun k S1 => if k = true then g Dd ρ S1 else h Dd ρ S1
def asgW (tg : Tg) (fe : WE) : WS := fun Dd ρ S => fe ρ S fun d S1 => match tg.put d ρ with
  | some ρ' => Dd.nx ρ' S1
  | none => False
section
variable {X : Cx} {b : Bs} {c : Dc} {g h : WS} {fe : WE} {ft : WT} {e : Expr} {pos : Pos} {st : Stmt} {rest : List Stmt}
theorem snd_nx : SndS c tNext nxW := fun E Dd σ H ρ S μ G A q k => k.nx σ H ρ S μ G (Stp.refl _ _ _) A q
theorem snd_seq {t u : TS} (h1 : SndS c t g) (h2 : SndS c u h) : SndS c (tSeq t u) (seqW g h) := by
  intro E Dd σ H ρ S μ G A q k
  refine h1 _ { Dd with nx := h Dd } σ H ρ S μ G A q ⟨fun σ' H' ρ' S' μ' G' s A' q' => ?_, k.rt, k.bk, k.ct⟩
  exact h2 E Dd σ' H' ρ' S' μ' G' A' q' (k.go s)
theorem dss_nil : DSs X b [] nxW := ⟨_, pss_nil, snd_nx⟩
theorem dss_one (h1 : DS X b st g) : DSs X b [st] g := let ⟨t, p, s⟩ := h1.ex; ⟨t, pss_one p, s⟩
theorem dss_cons (h1 : DS X b st g) (h2 : DSs X b rest h) : DSs X b (st :: rest) (seqW g h) := by
  obtain ⟨t, p, s⟩ := h1.ex
  obtain ⟨u, q, s'⟩ := h2.ex
  exact ⟨_, pss_cons p q, snd_seq s s'⟩
theorem ds_pass : DS X b (.Pass pos) nxW := ⟨_, ps_pass, snd_nx⟩
theorem ds_break : DS X b (.Break pos) bkW := ⟨_, ps_break, fun E Dd σ H ρ S μ G A q k => k.bk σ H ρ S μ G (Stp.refl _ _ _) A q⟩
theorem ds_continue : DS X b (.Continue pos) ctW := ⟨_, ps_continue, fun E Dd σ H ρ S μ G A q k => k.ct σ H ρ S μ G (Stp.refl _ _ _) A q⟩
theorem ds_ret (he : DE X b e fe) : DS X b (.Return (some e) pos) (retW fe) := by
  obtain ⟨t, p, s⟩ := he.ex
  exact ⟨_, ps_ret p, fun E Dd σ H ρ S μ G A q k => s σ H ρ S μ G _ _ A q fun v H' d S' μ' G' s' A' r' q' => k.rt v H' d S' μ' G' s' A'.ag r' q'⟩
theorem ds_retN : DS X b (.Return none pos) retN := ⟨_, ps_retN, fun E Dd σ H ρ S μ G A q k => k.rt .non H .non S μ G (Stp.refl _ _ _) A.ag .non q⟩
theorem ds_expr (he : DE X b e fe) (hs : swapsWith e none pos.line X.env = pure false := by rfl) : DS X b (.Expr e pos) (dropW fe) := by
  obtain ⟨t, p, s⟩ := he.ex
  exact ⟨_, ps_expr p hs, fun E Dd σ H ρ S μ G A q k => s σ H ρ S μ G _ _ A q fun v H' d S' μ' G' s' A' r' q' => k.nx σ H' ρ S' μ' G' s' A' q'⟩
theorem ds_if {t : Expr} {p q : List Stmt} (hc : DT X b t ft) (ha : DSs X b p g) (hb : DSs X b q h) : DS X b (.If t p q pos) (ifS ft g h) := by
  obtain ⟨tc, pc, sc⟩ := hc.ex
  obtain ⟨ta, pa, sa⟩ := ha.ex
  obtain ⟨tb, pb, sb⟩ := hb.ex
  refine ⟨_, ps_if pc pa pb, fun E Dd σ H ρ S μ G A w k => ?_⟩
  refine sc σ H ρ S μ G _ _ A w fun z H1 S1 μ1 G1 s1 A1 q1 => ?_
  cases z with
  | true => exact sa E Dd σ H1 ρ S1 μ1 G1 A1 q1 (k.go s1)
  | false => exact sb E Dd σ H1 ρ S1 μ1 G1 A1 q1 (k.go s1)
theorem snd_asg {te : TE} {tg : Tg} (he : SndE c te fe) : SndS c (tAsg te (tgT c.K tg)) (asgW tg fe) := by
  intro E Dd σ H ρ S μ G A q k
  refine he σ H ρ S μ G _ _ A q fun v H1 d S1 μ1 G1 s1 A1 r1 q1 => ?_
  split at q1
  · rename_i ρ' e
    exact Tg.ok A1 r1 e fun σ' A' _ => k.nx σ' H1 ρ' S1 μ1 G1 s1 A' q1
  · exact q1.elim
/-- name = e -/
theorem ds_set (i : Nat) {x : Str} {pos' : Pos} (hN : X.N.Nodup) (hi : X.N[i]? = some x) (hx : Loc X.env.scope x) (he : DE X b e fe) (hs : swapsWith e (some (.Name x pos')) pos.line X.env = pure false := by rfl) (hf : X.fn x = true ∨ X.env.scope.names.lookup x = some .local := by first | exact .inl rfl | exact .inr rfl | assumption) :
    DS X b (.Assign [.Name x pos'] e pos) (asgW (.nm i) fe) := by
  obtain ⟨t, p, s⟩ := he.ex
  exact ⟨_, ps_set hN hi hx p hs hf, snd_asg (tg := .nm i) s⟩
/-- target = e -/
theorem ds_asg {tg : Tg} {t : Expr} (he : DE X b e fe) (hg : DG X t tg) (hs : swapsWithSole [t] e pos.line X.env = pure false := by rfl) (hw : swappedStores [t] e X.env = pure none := by rfl)
    (h1 : (assignEach [t] X.env).map (·.2) = [assign t X.env] := by rfl) : DS X b (.Assign [t] e pos) (asgW tg fe) := by
  obtain ⟨t, p, s⟩ := he.ex
  exact ⟨_, ps_asg p hg hs hw h1, snd_asg s⟩
/-- a, b = e1, e2 -/
def parW (i j : Nat) (fs : WA) : WS := fun Dd ρ S => fs ρ S fun ds S1 => match ds with
  | [x, y] => Dd.nx ((ρ.set i (some x)).set j (some y)) S1
  | _ => False
theorem ds_par {i j : Nat} {x y : Str} {p q : Expr} {fs : WA} {px py pt : Pos} {kt k2 : Nat} {pt2 : Pos} (hc : X.calm = true) (hN : X.N.Nodup) (hi : X.N[i]? = some x) (hj : X.N[j]? = some y) (hij : i ≠ j)
    (hx : X.env.scope.names.lookup x = some .local) (hy : X.env.scope.names.lookup y = some .local) (ha : DA X b [p, q] fs)
    (hw : swappedStores [.Tuple [.Name x px, .Name y py] kt pt] (.Tuple [p, q] k2 pt2) X.env = pure (some [x, y]))
    (hs : swapsWithSole [.Tuple [.Name x px, .Name y py] kt pt] (.Tuple [p, q] k2 pt2) pos.line X.env = pure false := by rfl) :
    DS X b (.Assign [.Tuple [.Name x px, .Name y py] kt pt] (.Tuple [p, q] k2 pt2) pos) (parW i j fs) := by
  obtain ⟨t, p1, s⟩ := ha.ex
  refine ⟨_, ps_par hc hN hi hj hij hx hy p1 hw hs, fun E Dd σ H ρ S μ G A w k => ?_⟩
  refine s σ H ρ S μ G _ _ A w fun vs H1 ds S1 μ1 G1 s1 A1 r1 q1 => ?_
  split at q1
  · obtain ⟨u, w', rfl, r2, r3⟩ := r1.two'
    exact ⟨u, w', rfl, k.nx _ H1 _ S1 μ1 G1 s1 ((A1.set r2).set r3) q1⟩
  · exact q1.elim
/-- name op= e -/
def augW (i : Nat) (w : W2) (fe : WE) : WS := fun Dd ρ S => match lk ρ i with
  | some x => fe ρ S fun y S1 => w x y S1 fun z S2 => Dd.nx (ρ.set i (some z)) S2
  | none => False
theorem ds_aug (i : Nat) {x : Str} {op : Operator} {ti : TIp} {w : W2} {pos' : Pos} (hN : X.N.Nodup) (hi : X.N[i]? = some x) (hx : Loc X.env.scope x) (he : DE X b e fe) (ho : PIp X op ti) (hw : Snd2 (dc X b) ti w) (hf : X.fn x = true ∨ X.env.scope.names.lookup x = some .local := by first | exact .inl rfl | exact .inr rfl | assumption) :
    DS X b (.AugAssign (.Name x pos') op e pos) (augW i w fe) := by
  obtain ⟨t, p, s⟩ := he.ex
  refine ⟨_, ps_aug hN hi hx p ho hf, fun E Dd σ H ρ S μ G A q k => ?_⟩
  unfold augW at q
  split at q
  · rename_i d e
    obtain ⟨v, h1, h2⟩ := A.slot i d e
    refine ⟨v, h1, s σ H ρ S μ G _ _ A q fun y H1 dy S1 μ1 G1 s1 A1 r1 q1 => ?_⟩
    exact hw H1 S1 μ1 G1 v y d dy _ _ A1.ag (h2.go s1) r1 q1 fun z H2 dz S2 μ2 G2 s2 A2 r2 q2 => k.nx _ H2 _ S2 μ2 G2 (s1.trans s2) ((A1.go s2 A2).set r2) q2
  · exact q.elim
theorem ds_augAdd (i : Nat) {x : Str} {pos' : Pos} (hN : X.N.Nodup) (hi : X.N[i]? = some x) (hx : Loc X.env.scope x) (he : DE X b e fe) (hf : X.fn x = true ∨ X.env.scope.names.lookup x = some .local := by first | exact .inl rfl | exact .inr rfl | assumption) :
    DS X b (.AugAssign (.Name x pos') .Add e pos) (augW i (wI0 fun i j => .int (i + j)) fe) := ds_aug i hN hi hx he ip_add (s_I0 fun _ _ _ _ => .int _) hf
theorem ds_augSub (i : Nat) {x : Str} {pos' : Pos} (hN : X.N.Nodup) (hi : X.N[i]? = some x) (hx : Loc X.env.scope x) (he : DE X b e fe) (hf : X.fn x = true ∨ X.env.scope.names.lookup x = some .local := by first | exact .inl rfl | exact .inr rfl | assumption) :
    DS X b (.AugAssign (.Name x pos') .Sub e pos) (augW i (wI0 fun i j => .int (i - j)) fe) := ds_aug i hN hi hx he ip_sub (s_I0 fun _ _ _ _ => .int _) hf

/-! o[i] = e of a list that is a cell -/
def putW (fe fo fi : WE) : WS := fun Dd ρ S => fe ρ S fun d S1 => fo ρ S1 fun o S2 => fi ρ S2 fun i S3 => match o, i with
  | .loc n, .int k => match S3[n]? with
    | some (.lst ds) => match ixN ds.length k with
      | some j => Dd.nx ρ (S3.set n (.lst (ds.set j d)))
      | none => False
    | _ => False
  | _, _ => False
theorem ds_put {o i : Expr} {fo fi : WE} {tpos : Pos} (he : DE X b e fe) (ho : DE X b o fo) (hi : DE X b i fi)
    (ha : ∀ v, assign (.Subscript o i tpos) X.env v = (do
      let ov ← holding [v] (eval o X.env)
      let iv ← holding [v, ov] (eval i X.env)
      standAt tpos
      holding [v, ov, iv] (setItem ov iv v)
      release [v, ov, iv] []) := by intro _; rfl)
    (hs : swapsWithSole [.Subscript o i tpos] e pos.line X.env = pure false := by rfl) (hw : swappedStores [.Subscript o i tpos] e X.env = pure none := by rfl)
    (h1 : (assignEach [.Subscript o i tpos] X.env).map (·.2) = [assign (.Subscript o i tpos) X.env] := by rfl) : DS X b (.Assign [.Subscript o i tpos] e pos) (putW fe fo fi) := by
  obtain ⟨te, pe, se⟩ := he.ex
  obtain ⟨to, po, so⟩ := ho.ex
  obtain ⟨ti, pi, si⟩ := hi.ex
  refine ⟨_, ps_asg pe (pg_sub po pi set_list ha) hs hw h1, fun E Dd σ H ρ S μ G A q k => ?_⟩
  refine se σ H ρ S μ G _ _ A q fun v H1 d S1 μ1 G1 s1 A1 r1 q1 => ?_
  refine so σ H1 ρ S1 μ1 G1 _ _ A1 q1 fun x H2 dx S2 μ2 G2 s2 A2 r2 q2 => ?_
  refine si σ H2 ρ S2 μ2 G2 _ _ A2 q2 fun y H3 dy S3 μ3 G3 s3 A3 r3 q3 => ?_
  split at q3
  · rename_i n z
    split at q3
    · rename_i ds e3
      split at q3
      · rename_i j e4
        cases r3
        cases r2.go s3 with
        | loc hn =>
          obtain ⟨vs, h2, h3⟩ := A3.ag.at hn e3
          refine ⟨_, vs, z, j, rfl, rfl, h2, by rw [h3.length]; exact e4, ?_⟩
          obtain ⟨A4, s4⟩ := A3.ag.put hn e3 (h3.set j ((r1.go s2).go s3))
          exact k.nx σ _ ρ _ μ3 G3 (((s1.trans s2).trans s3).trans s4) (A3.go s4 A4) q3
      · exact q3.elim
    · exact q3.elim
  · exact q3.elim
end
end DL
namespace DL
open PySem PySem.Spec PyProof.Rows L2

/-! ### what is walked -/
structure Ext (μ : List Addr) (G : Hp) (μ' : List Addr) (G' : Hp) : Prop where
  sg : Same G G'
  mu : ∀ (n : Nat) (a : Addr), μ[n]? = some a → μ'[n]? = some a
theorem Stp.ext {H : Hp} {μ : List Addr} {G H' : Hp} {μ' : List Addr} {G' : Hp} (s : Stp H μ G H' μ' G') : Ext μ G μ' G' := ⟨s.sg, s.mu⟩
theorem Ext.trans {μ μ1 μ2 : List Addr} {G G1 G2 : Hp} (s : Ext μ G μ1 G1) (t : Ext μ1 G1 μ2 G2) : Ext μ G μ2 G2 := ⟨s.sg.trans t.sg, fun n a h => t.mu n a (s.mu n a h)⟩
theorem Ext.refl (μ : List Addr) (G : Hp) : Ext μ G μ G := ⟨Same.refl _, fun _ _ h => h⟩
theorem Reps.ext {c : Dc} {μ μ' : List Addr} {G G' : Hp} {vs : List V} {ds : List D} (h : Reps c G μ vs ds) (s : Ext μ G μ' G') : Reps c G' μ' vs ds := h.mono s.sg s.mu ds vs
structure ItOk (c : Dc) (J : It) (ds : List D) (ok : Store → Prop) (μ : List Addr) (G : Hp) : Prop where
  go : ∀ (i : Nat) (H' : Hp) (S' : Store) (μ' : List Addr) (G' : Hp), Ext μ G μ' G' → Ag0 c H' S' μ' G' → ok S' → i < ds.length → J.go i H'
  yld : ∀ (i : Nat) (H' : Hp) (S' : Store) (μ' : List Addr) (G' : Hp) (x : V) (H2 : Hp), Ext μ G μ' G' → Ag0 c H' S' μ' G' → ok S' → i < ds.length → J.yld i H' x H2 →
    ∃ G2 d, Stp H' μ' G' H2 μ' G2 ∧ Ag0 c H2 S' μ' G2 ∧ ds[i]? = some d ∧ Rep c G2 μ' x d
  stop : ∀ (H' : Hp) (S' : Store) (μ' : List Addr) (G' : Hp), Ext μ G μ' G' → Ag0 c H' S' μ' G' → ok S' → J.stop ds.length H'
abbrev WI := Rho → Store → (List D → (Store → Prop) → Store → Prop) → Prop
def SndI (c : Dc) (wi : TI) (f : WI) : Prop := ∀ (σ : L2.St) (H : Hp) (ρ : Rho) (S : Store) (μ : List Addr) (G : Hp) (Q : List D → (Store → Prop) → Store → Prop) (R : It → Hp → Prop), Ag c σ H ρ S μ G → f ρ S Q →
  (∀ J H' ds ok S' μ' G', Stp H μ G H' μ' G' → Ag c σ H' ρ S' μ' G' → ItOk c J ds ok μ' G' → Q ds ok S' → R J H') → wi σ H R
structure DI (X : Cx) (b : Bs) (tg iter : Expr) (f : WI) : Prop where
  ex : ∃ wi, PI X tg iter wi ∧ SndI (dc X b) wi f
def rdI (c : Dc) (f : WI) : TI := fun σ H R => ∃ (ρ : Rho) (S : Store) (μ : List Addr) (G : Hp) (Q : List D → (Store → Prop) → Store → Prop), Ag c σ H ρ S μ G ∧ f ρ S Q ∧
  ∀ J H' ds ok S' μ' G', Stp H μ G H' μ' G' → Ag c σ H' ρ S' μ' G' → ItOk c J ds ok μ' G' → Q ds ok S' → R J H'
theorem DI.can {X : Cx} {b : Bs} {tg iter : Expr} {f : WI} (h : DI X b tg iter f) : PI X tg iter (rdI (dc X b) f) := by
  obtain ⟨t, p, s⟩ := h.ex
  refine ⟨fun pins st σ H R I q => ?_⟩
  obtain ⟨ρ, S, μ, G, Q, A, q1, q2⟩ := q
  exact p.run pins st σ H R I (s σ H ρ S μ G Q R A q1 q2)
theorem sndI_can {c : Dc} {f : WI} : SndI c (rdI c f) f := fun σ H ρ S μ G Q R A h k => ⟨ρ, S, μ, G, Q, A, h, k⟩
theorem sndE_can {c : Dc} {f : WE} : SndE c (rdE c f) f := fun σ H ρ S μ G Q R A h k => ⟨ρ, S, μ, G, Q, A, h, k⟩
theorem sndT_can {c : Dc} {f : WT} : SndT c (rdT c f) f := fun σ H ρ S μ G Q R A h k => ⟨ρ, S, μ, G, Q, A, h, k⟩
section
variable {X : Cx} {b : Bs} {c : Dc} {tg : Expr} {pos : Pos}
/-- a list or a tuple -/
def iSeq (K : PySem.W.Frag) (tl : TE) : TI := fun σ H R => tl σ H fun x H1 => ∃ a, x = .ref a ∧ (((∃ xs, SqL K H1 a xs) ∧ R (Itl K a) H1) ∨ ((∃ xs, SqT K H1 a xs) ∧ R (Itt K a) H1))
theorem pi_seq {l : Expr} {tl : TE} (hl : PE X l tl) : PI X tg l (iSeq X.K tl) := by
  refine ⟨fun pins s σ H R I h => thn (hl.run pins s σ H _ I h) ?_⟩
  intro v s1 w
  obtain ⟨x, H1, I1, r1, a, e, q⟩ := w
  subst e
  cases r1
  have frsh : ∀ bb ∈ [s1.heap.objs.size], FpOk X pins H1 bb := by
    intro bb hb
    rw [List.mem_singleton.mp hb]
    exact I1.fpOk (Nat.le_refl _) (I1.hok.fresh (Nat.le_refl _))
  rcases q with ⟨⟨xs, hq⟩, q⟩ | ⟨⟨xs, hq⟩, q⟩
  · obtain ⟨its, rv, p, hz⟩ := I1.list hq
    refine wpAny_pyIter_list p.isList ⟨s1.heap.objs.size, [s1.heap.objs.size], _, _, H1, rfl, ?_, turn_list a _, ?_, frsh, q⟩
    · exact I1.kept (t' := s1.toks) fun bb o e => Heap.get?_push_of_some _ e
    · exact ⟨_, Heap.get?_push_size _ rfl, rfl, rfl⟩
  · obtain ⟨its, rv, p, hz⟩ := I1.tuple hq
    have p' : s1.heap.IsTuple a its.toArray := p
    refine wpAny_pyIter_tuple p' ⟨s1.heap.objs.size, [s1.heap.objs.size], _, _, H1, rfl, ?_, turn_tuple a _, ?_, frsh, q⟩
    · exact I1.kept (t' := s1.toks) fun bb o e => Heap.get?_push_of_some _ e
    · exact ⟨_, Heap.get?_push_size _ rfl, rfl, rfl⟩
/-- the row that is walked and what must stand at each turn -/
def walkOf (S : Store) : D → Option (List D × (Store → Prop))
  | .tup ds => some (ds, fun _ => True)
  | .rol ds => some (ds, fun _ => True)
  | .lst ds => some (ds, fun _ => True)
  | .loc n => match S[n]? with
    | some (.lst ds) => some (ds, fun S' => S'[n]? = some (.lst ds))
    | _ => none
  | _ => none
def sqI (fe : WE) : WI := fun ρ S Q => fe ρ S fun d S1 => match walkOf S1 d with
  | some (ds, ok) => Q ds ok S1
  | none => False
theorem itOk_l {μ : List Addr} {G : Hp} {a : Addr} {ds : List D} {ok : Store → Prop}
    (h : ∀ (H' : Hp) (S' : Store) (μ' : List Addr) (G' : Hp), Ext μ G μ' G' → Ag0 c H' S' μ' G' → ok S' → ∃ vs, SqL c.K H' a vs ∧ Reps c G' μ' vs ds) (inj : ∀ (H' : Hp) vs ws, SqL c.K H' a vs → SqL c.K H' a ws → vs = ws ∨ True) :
    ItOk c (Itl c.K a) ds ok μ G where
  go := fun i H' S' μ' G' s A o hi => by
    obtain ⟨vs, h1, h2⟩ := h H' S' μ' G' s A o
    have hl := h2.length
    exact ⟨vs, vs[i]'(by omega), h1, List.getElem?_eq_getElem (by omega)⟩
  yld := fun i H' S' μ' G' x H2 s A o hi y => by
    obtain ⟨e, y⟩ := y
    subst e
    obtain ⟨vs, h1, h2⟩ := h _ S' μ' G' s A o
    obtain ⟨d, h3, h4⟩ := h2.get' (y vs h1)
    exact ⟨G', d, Stp.refl _ _ _, A, h3, h4⟩
  stop := fun H' S' μ' G' s A o => by
    obtain ⟨vs, h1, h2⟩ := h H' S' μ' G' s A o
    exact ⟨vs, h1, Nat.le_of_eq h2.length⟩
theorem itOk_t {μ : List Addr} {G : Hp} {a : Addr} {ds : List D} {ok : Store → Prop}
    (h : ∀ (H' : Hp) (S' : Store) (μ' : List Addr) (G' : Hp), Ext μ G μ' G' → Ag0 c H' S' μ' G' → ok S' → ∃ vs, SqT c.K H' a vs ∧ Reps c G' μ' vs ds) : ItOk c (Itt c.K a) ds ok μ G where
  go := fun i H' S' μ' G' s A o hi => by
    obtain ⟨vs, h1, h2⟩ := h H' S' μ' G' s A o
    have hl := h2.length
    exact ⟨vs, vs[i]'(by omega), h1, List.getElem?_eq_getElem (by omega)⟩
  yld := fun i H' S' μ' G' x H2 s A o hi y => by
    obtain ⟨e, y⟩ := y
    subst e
    obtain ⟨vs, h1, h2⟩ := h _ S' μ' G' s A o
    obtain ⟨d, h3, h4⟩ := h2.get' (y vs h1)
    exact ⟨G', d, Stp.refl _ _ _, A, h3, h4⟩
  stop := fun H' S' μ' G' s A o => by
    obtain ⟨vs, h1, h2⟩ := h H' S' μ' G' s A o
    exact ⟨vs, h1, Nat.le_of_eq h2.length⟩
theorem di_seq {l : Expr} {fe : WE} (hl : DE X b l fe) : DI X b tg l (sqI fe) := by
  obtain ⟨t, p, s⟩ := hl.ex
  refine ⟨_, pi_seq p, fun σ H ρ S μ G Q R A h k => ?_⟩
  refine s σ H ρ S μ G _ _ A h fun v H1 d S1 μ1 G1 s1 A1 r1 q1 => ?_
  split at q1
  · rename_i ds ok e
    cases r1 with
    | @tup a vs es h1 h2 =>
      cases e
      refine ⟨a, rfl, .inr ⟨⟨vs, sqT_mono A1.ag.same h1⟩, k _ H1 _ _ S1 μ1 G1 s1 A1 ?_ q1⟩⟩
      exact itOk_t fun H' S' μ' G' s' A' _ => ⟨vs, sqT_mono (s'.sg.trans A'.same) h1, h2.ext s'⟩
    | @rol a vs es h1 h2 =>
      cases e
      refine ⟨a, rfl, .inl ⟨⟨vs, A1.ag.same.seq h1⟩, k _ H1 _ _ S1 μ1 G1 s1 A1 ?_ q1⟩⟩
      exact itOk_l (fun H' S' μ' G' s' A' _ => ⟨vs, (s'.sg.trans A'.same).seq h1, h2.ext s'⟩) fun _ _ _ _ _ => .inr trivial
    | @lst a vs es h1 h2 =>
      cases e
      refine ⟨a, rfl, .inl ⟨⟨vs, SqL.of (A1.ag.same _ _ h1)⟩, k _ H1 _ _ S1 μ1 G1 s1 A1 ?_ q1⟩⟩
      exact itOk_l (fun H' S' μ' G' s' A' _ => ⟨vs, SqL.of ((s'.sg.trans A'.same) _ _ h1), h2.ext s'⟩) fun _ _ _ _ _ => .inr trivial
    | @loc a n hn =>
      simp only [walkOf] at e
      split at e
      · rename_i es q
        cases e
        obtain ⟨vs, h2, h3⟩ := A1.ag.at hn q
        refine ⟨a, rfl, .inl ⟨⟨vs, SqL.of h2⟩, k _ H1 _ _ S1 μ1 G1 s1 A1 ?_ q1⟩⟩
        exact itOk_l (fun H' S' μ' G' s' A' o => let ⟨ws, h4, h5⟩ := A'.at (s'.mu _ _ hn) o; ⟨ws, SqL.of h4, h5⟩) fun _ _ _ _ _ => .inr trivial
      · cases e
    | _ => cases e
  · exact q1.elim
/-- range -/
def rngD (lo : Int) (n : Nat) : List D := (List.range n).map fun (i : Nat) => D.int (lo + (i : Int))
def rgI1 (fs : WA) : WI := fun ρ S Q => fs ρ S fun ds S1 => match ds with
  | [.int j] => -(2 ^ 62) ≤ j ∧ j < 2 ^ 62 ∧ Q (rngD 0 j.toNat) (fun _ => True) S1
  | _ => False
def rgI2 (fs : WA) : WI := fun ρ S Q => fs ρ S fun ds S1 => match ds with
  | [.int i, .int j] => (-(2 ^ 62) ≤ i ∧ i < 2 ^ 62 ∧ -(2 ^ 62) ≤ j ∧ j < 2 ^ 62) ∧ Q (rngD i (j - i).toNat) (fun _ => True) S1
  | _ => False
theorem rngD_get {lo : Int} {n i : Nat} (h : i < n) : (rngD lo n)[i]? = some (.int (lo + i)) := by
  unfold rngD
  rw [List.getElem?_map, List.getElem?_range h]
  rfl
theorem rngD_length (lo : Int) (n : Nat) : (rngD lo n).length = n := by unfold rngD; simp
theorem itOk_r {μ : List Addr} {G : Hp} {lo : Int} {n : Nat} {ok : Store → Prop} : ItOk c (Itr lo n) (rngD lo n) ok μ G where
  go := fun i H' S' μ' G' s A o hi => by rw [rngD_length] at hi; exact hi
  yld := fun i H' S' μ' G' x H2 s A o hi y => by
    rw [rngD_length] at hi
    obtain ⟨e, y⟩ := y
    subst e y
    exact ⟨G', _, Stp.refl _ _ _, A, rngD_get hi, .int _⟩
  stop := fun H' S' μ' G' s A o => by rw [rngD_length]; exact Nat.le_refl _
theorem di_range1 {a : Expr} {p : Pos} {fs : WA} (hg : Gl X "range") (hm : X.mg "range" = none) (ha : DA X b [a] fs) (hs : starEach [a] X.env = [(false, eval a X.env)] := by rfl) : DI X b tg (.Call (.Name "range" p) [a] [] pos) (rgI1 fs) := by
  obtain ⟨t, pt, st⟩ := ha.ex
  refine ⟨_, pi_range1 hg hm pt hs, fun σ H ρ S μ G Q R A h k => ?_⟩
  refine st σ H ρ S μ G _ _ A h fun vs H1 ds S1 μ1 G1 s1 A1 r1 q1 => ?_
  split at q1
  · obtain ⟨v, rfl, r2⟩ := r1.one'
    cases r2
    exact ⟨_, rfl, q1.1, q1.2.1, k _ H1 _ _ S1 μ1 G1 s1 A1 itOk_r q1.2.2⟩
  · exact q1.elim
theorem di_range2 {a a' : Expr} {p : Pos} {fs : WA} (hg : Gl X "range") (hm : X.mg "range" = none) (ha : DA X b [a, a'] fs) (hs : starEach [a, a'] X.env = [(false, eval a X.env), (false, eval a' X.env)] := by rfl) (hs2 : starEach [a'] X.env = [(false, eval a' X.env)] := by rfl) :
    DI X b tg (.Call (.Name "range" p) [a, a'] [] pos) (rgI2 fs) := by
  obtain ⟨t, pt, st⟩ := ha.ex
  refine ⟨_, pi_range2 hg hm pt hs hs2, fun σ H ρ S μ G Q R A h k => ?_⟩
  refine st σ H ρ S μ G _ _ A h fun vs H1 ds S1 μ1 G1 s1 A1 r1 q1 => ?_
  split at q1
  · obtain ⟨v, w, rfl, r2, r3⟩ := r1.two'
    cases r2; cases r3
    exact ⟨_, _, rfl, q1.1, k _ H1 _ _ S1 μ1 G1 s1 A1 itOk_r q1.2⟩
  · exact q1.elim

/-! ### for -/
def forL (tg : Tg) (ok : Store → Prop) (body : WS) : List D → DEnds → Rho → Store → Prop
  | [], Dd, ρ, S => ok S ∧ Dd.nx ρ S
  | x :: xs, Dd, ρ, S => ok S ∧ match tg.put x ρ with
    | some ρ' => body { Dd with nx := fun ρ2 S2 => forL tg ok body xs Dd ρ2 S2, ct := fun ρ2 S2 => forL tg ok body xs Dd ρ2 S2, bk := Dd.nx } ρ' S
    | none => False
def forW (wi : WI) (tg : Tg) (body : WS) : WS := fun Dd ρ S => wi ρ S fun ds ok S1 => forL tg ok body ds Dd ρ S1
theorem ds_for {target iter : Expr} {body : List Stmt} {wi : WI} {t : Tg} {g : WS} (hp : PassesOwn (model X.prog X.w) X.A X.env X.xe) (hc : X.calm = true) (hi : DI X b target iter wi) (hg : DG X target t) (hb : DSs X b body g)
    (hs : ∀ x, foldedSetIterable iter X.env x = pure x := by intro _; rfl) : DS X b (.For target iter body [] pos) (forW wi t g) := by
  obtain ⟨ti, pi, si⟩ := hi.ex
  obtain ⟨tb, pb, sb⟩ := hb.ex
  refine ⟨_, ps_for hp hc pi hg pb hs, fun E Dd σ H ρ S μ G A q k => ?_⟩
  refine si σ H ρ S μ G _ _ A q fun J H1 ds ok S1 μ1 G1 s1 A1 it q1 => ?_
  refine ⟨fun i m σ' H' => ∃ ρ' S' μ' G', Ag (dc X b) σ' H' ρ' S' μ' G' ∧ Stp H1 μ1 G1 H' μ' G' ∧ i ≤ ds.length ∧ m = ds.length - i ∧ forL t ok g (ds.drop i) Dd ρ' S',
    ⟨ds.length, ρ, S1, μ1, G1, A1, Stp.refl _ _ _, Nat.zero_le _, rfl, q1⟩, ?_⟩
  rintro i m σ' H' ⟨ρ', S', μ', G', A', s', hi, rfl, q'⟩
  have kk := k.go s1
  by_cases hlt : i < ds.length
  · rw [List.drop_eq_getElem_cons hlt] at q'
    obtain ⟨o, q'⟩ := q'
    refine .inr ⟨it.go i H' S' μ' G' s'.ext A'.ag o hlt, fun σ2 H2 => ∃ ρ2 S2 μ2 G2, Ag (dc X b) σ2 H2 ρ2 S2 μ2 G2 ∧ Stp H1 μ1 G1 H2 μ2 G2 ∧ forL t ok g (ds.drop (i + 1)) Dd ρ2 S2, ?_, ?_⟩
    · rintro σ2 H2 ⟨ρ2, S2, μ2, G2, A2, s2, q2⟩
      exact ⟨ds.length - (i + 1), by omega, ρ2, S2, μ2, G2, A2, s2, hlt, rfl, q2⟩
    · intro x H2 y
      obtain ⟨G2, d, s2, A2, hd, r2⟩ := it.yld i H' S' μ' G' x H2 s'.ext A'.ag o hlt y
      rw [List.getElem?_eq_getElem hlt] at hd
      cases hd
      split at q'
      · rename_i ρ2 e
        refine Tg.ok (A'.go s2 A2) r2 e fun σ3 A3 _ => ?_
        refine sb _ _ σ3 H2 ρ2 S' μ' G2 A3 q' ?_
        have s3 := s'.trans s2
        have k3 := kk.go s3
        exact ⟨fun σ4 H4 ρ4 S4 μ4 G4 s4 A4 q4 => ⟨ρ4, S4, μ4, G4, A4, s3.trans s4, q4⟩, k3.rt, k3.nx, fun σ4 H4 ρ4 S4 μ4 G4 s4 A4 q4 => ⟨ρ4, S4, μ4, G4, A4, s3.trans s4, q4⟩⟩
      · exact q'.elim
  · have e : i = ds.length := by omega
    subst e
    rw [List.drop_length] at q'
    exact .inl ⟨it.stop H' S' μ' G' s'.ext A'.ag q'.1, kk.nx σ' H' ρ' S' μ' G' s' A' q'.2⟩

/-! ### while -/
def whileN (ft : WT) (body : WS) : Nat → DEnds → Rho → Store → Prop
  | 0, _, _, _ => False
  | n + 1, Dd, ρ, S => ft ρ S fun k S1 => if k = true then body { Dd with nx := fun ρ2 S2 => whileN ft body n Dd ρ2 S2, ct := fun ρ2 S2 => whileN ft body n Dd ρ2 S2, bk := Dd.nx } ρ S1 else Dd.nx ρ S1
def whileW (ft : WT) (body : WS) : WS := fun Dd ρ S => ∃ n, whileN ft body n Dd ρ S
theorem ds_while {t : Expr} {body : List Stmt} {ft : WT} {g : WS} (hp : PassesOwn (model X.prog X.w) X.A X.env X.xe) (hc : DT X b t ft) (hb : DSs X b body g) : DS X b (.While t body [] pos) (whileW ft g) := by
  obtain ⟨tc, pc, sc⟩ := hc.ex
  obtain ⟨tb, pb, sb⟩ := hb.ex
  refine ⟨_, ps_while hp pc pb, fun E Dd σ H ρ S μ G A q k => ?_⟩
  obtain ⟨n, q⟩ := q
  refine ⟨fun m σ' H' => ∃ ρ' S' μ' G', Ag (dc X b) σ' H' ρ' S' μ' G' ∧ Stp H μ G H' μ' G' ∧ whileN ft g m Dd ρ' S', ⟨n, ρ, S, μ, G, A, Stp.refl _ _ _, q⟩, ?_⟩
  rintro m σ' H' ⟨ρ', S', μ', G', A', s', q'⟩
  cases m with
  | zero => exact q'.elim
  | succ m =>
    refine sc σ' H' ρ' S' μ' G' _ _ A' q' fun z H1 S1 μ1 G1 s1 A1 q1 => ?_
    have s2 := s'.trans s1
    have k2 := k.go s2
    cases z with
    | true =>
      refine ⟨fun σ2 H2 => ∃ ρ2 S2 μ2 G2, Ag (dc X b) σ2 H2 ρ2 S2 μ2 G2 ∧ Stp H μ G H2 μ2 G2 ∧ whileN ft g m Dd ρ2 S2, ?_, ?_⟩
      · rintro σ2 H2 ⟨ρ2, S2, μ2, G2, A2, s3, q2⟩
        exact ⟨m, Nat.lt_succ_self m, ρ2, S2, μ2, G2, A2, s3, q2⟩
      · refine sb _ _ σ' H1 ρ' S1 μ1 G1 A1 q1 ?_
        exact ⟨fun σ4 H4 ρ4 S4 μ4 G4 s4 A4 q4 => ⟨ρ4, S4, μ4, G4, A4, s2.trans s4, q4⟩, k2.rt, k2.nx, fun σ4 H4 ρ4 S4 μ4 G4 s4 A4 q4 => ⟨ρ4, S4, μ4, G4, A4, s2.trans s4, q4⟩⟩
    | false => exact k2.nx σ' H1 ρ' S1 μ1 G1 (Stp.refl _ _ _) A1 q1
end
end DL
namespace DL
open PySem PySem.Spec PyProof.Rows L2
section
variable {c : Dc} {G G' H H' : Hp} {μ μ' : List Addr} {S S' : Store} {σ : L2.St} {ρ : Rho}
/-- an own object stays as it is -/
theorem Stp.stay (s : Stp H μ G H' μ' G') {p : Addr} {o : HO} (h : H p = some o) (hm : p ∉ μ) (hg : G p = none) : H' p = some o ∧ p ∉ μ' ∧ G' p = none := by
  refine ⟨s.fr p o h hm, fun z => ?_, ?_⟩
  · rcases s.nw p z with y | y
    · exact hm y
    · rw [h] at y; cases y
  · cases q : G' p with
    | none => rfl
    | some u =>
      rcases s.gn p u q with y | y | y
      · rw [hg] at y; cases y
      · rw [h] at y; cases y
      · exact absurd y hm
/-- .. is frozen -/
theorem Ag0.keep {H1 : Hp} {S1 : Store} {μ1 : List Addr} {G1 : Hp} (A1 : Ag0 c H1 S1 μ1 G1) (A : Ag0 c H S μ G) (s : Stp H1 μ1 G1 H μ G) {p : Addr} {o : HO} (h1 : H1 p = none) (hm : p ∉ μ) (hg : G p = none) (h : H p = some o) :
    Ag0 c H S μ (upd G p o) ∧ Stp H1 μ1 G1 H μ (upd G p o) ∧ Same G (upd G p o) := by
  have sg : Same G (upd G p o) := same_new hg
  have st : Stp H1 μ1 G1 H μ (upd G p o) := ⟨s.sg.trans sg, s.mu, s.fr, s.nw, fun a u hu => by
    by_cases e : a = p
    · exact .inr (.inl (e ▸ h1))
    · rw [upd_ne e] at hu; exact s.gn a u hu⟩
  refine ⟨⟨fun b u e => ?_, A.len, A.nd, fun n a cl hn hs => ?_, A1.base.trans st⟩, st, sg⟩
  · by_cases hb : b = p
    · subst hb; rw [upd_same] at e; cases e; exact h
    · rw [upd_ne hb] at e; exact A.same b u e
  · have q := A.cell n a cl hn hs
    have na : a ≠ p := fun e => hm (e ▸ List.mem_of_getElem? hn)
    cases cl with
    | dead => exact q
    | lst ds =>
      obtain ⟨h1, vs, h2, h3⟩ := q
      exact ⟨by rw [upd_ne na]; exact h1, vs, h2, h3.mono sg (fun _ _ h => h) _ _⟩
/-- .. becomes a cell -/
theorem Ag0.adopt {H1 : Hp} {S1 : Store} {μ1 : List Addr} {G1 : Hp} (A1 : Ag0 c H1 S1 μ1 G1) (A : Ag0 c H S μ G) (s : Stp H1 μ1 G1 H μ G) {p : Addr} {vs : List V} {ds : List D} (h1 : H1 p = none) (hm : p ∉ μ) (hg : G p = none) (h : H p = some (.lst vs)) (r : Reps c G μ vs ds) :
    Ag0 c H (S ++ [.lst ds]) (μ ++ [p]) G ∧ Stp H1 μ1 G1 H (μ ++ [p]) G := by
  have mono : ∀ (n : Nat) (a : Addr), μ[n]? = some a → (μ ++ [p])[n]? = some a := fun _ _ h => getElem?_snoc_old h
  have st : Stp H1 μ1 G1 H (μ ++ [p]) G := ⟨s.sg, fun n a z => mono n a (s.mu n a z), s.fr, fun a ha => by
    rcases List.mem_append.mp ha with z | z
    · exact s.nw a z
    · have e : a = p := by simpa using z
      exact .inr (e ▸ h1), s.gn⟩
  refine ⟨⟨A.same, by simp [A.len], ?_, fun n a cl hn hs => ?_, A1.base.trans st⟩, st⟩
  · rw [List.nodup_append]
    refine ⟨A.nd, by simp, fun x hx y hy e => ?_⟩
    have e2 : y = p := by simpa using hy
    subst e; subst e2
    exact hm hx
  · rcases getElem?_snoc hn with hn | ⟨hnl, ea⟩
    · have hl : n < S.length := by rw [← A.len]; exact (List.getElem?_eq_some_iff.mp hn).1
      rw [List.getElem?_append_left hl] at hs
      have q := A.cell n a cl hn hs
      cases cl with
      | dead => exact q
      | lst ds =>
        obtain ⟨h1, vs, h2, h3⟩ := q
        exact ⟨h1, vs, h2, h3.mono (Same.refl _) mono _ _⟩
    · subst ea
      rw [hnl, A.len, List.getElem?_append_right (Nat.le_refl _), Nat.sub_self] at hs
      have e : cl = .lst ds := by simpa using hs.symm
      subst e
      exact ⟨hg, vs, h, r.mono (Same.refl _) mono _ _⟩
end

/-! ### comprehensions -/
def compL (tg : Tg) (ok : Store → Prop) (ft : WT) (fe : WE) (vs : List Nat) (ρ : Rho) : List D → Store → (List D → Store → Prop) → Prop
  | [], S, Q => ok S ∧ Q [] S
  | x :: xs, S, Q => ok S ∧ match tg.put x (wipeD ρ vs) with
    | some ρ' => ft ρ' S fun k S1 => if k = true then fe ρ' S1 fun y S2 => compL tg ok ft fe vs ρ xs S2 fun ys S3 => Q (y :: ys) S3 else compL tg ok ft fe vs ρ xs S1 Q
    | none => False
def lcW (wi : WI) (tg : Tg) (ft : WT) (fe : WE) (vs : List Nat) : WE := fun ρ S Q => wi ρ S fun ds ok S1 => ds.length < sizeLine ∧ compL tg ok ft fe vs ρ ds S1 fun ys S2 => Q (.lst ys) S2
/-- .. as a new cell -/
def lcN (wi : WI) (tg : Tg) (ft : WT) (fe : WE) (vs : List Nat) : WE := fun ρ S Q => wi ρ S fun ds ok S1 => ds.length < sizeLine ∧ compL tg ok ft fe vs ρ ds S1 fun ys S2 => Q (.loc S2.length) (S2 ++ [.lst ys])
def yesW : WT := fun _ S Q => Q true S
theorem wipe_wipe (σ : L2.St) (vs : List Nat) : L2.wipe (L2.wipe σ vs) vs = L2.wipe σ vs := by
  have key : ∀ (ws us : List Nat), (∀ i ∈ ws, i ∈ us) → L2.wipe (L2.wipe σ ws) us = L2.wipe σ us := by
    intro ws
    induction ws with
    | nil => intro us _; rfl
    | cons w ws ih =>
      intro us h
      show L2.wipe ((L2.wipe σ ws).set w none) us = _
      rw [wipe_set (h w List.mem_cons_self)]
      exact ih us fun i hi => h i (List.mem_cons_of_mem _ hi)
  exact key vs vs fun _ h => h
section
variable {c : Dc} {X : Cx} {b : Bs}
theorem snd_lc0 {wi : TI} {f : WI} {tg : Tg} {tt : TT} {ft : WT} {te : TE} {fe : WE} {vs : List Nat} (hv : ∀ i ∈ tg.slots, i ∈ vs) (hi : SndI c wi f) (ht : SndT c tt ft) (he : SndE c te fe)
    {σ : L2.St} {H : Hp} {ρ : Rho} {S : Store} {μ : List Addr} {G : Hp} {Q : List D → Store → Prop} {R : VK} (A : Ag c σ H ρ S μ G)
    (h : f ρ S fun ds ok S1 => ds.length < sizeLine ∧ compL tg ok ft fe vs ρ ds S1 Q)
    (k : ∀ (H1 : Hp) (S1 : Store) (μ1 : List Addr) (G1 : Hp) (p : Addr) (xs : List V) (ds : List D) (H' : Hp) (S' : Store) (μ' : List Addr) (G' : Hp), Stp H μ G H1 μ1 G1 → Ag0 c H1 S1 μ1 G1 → H1 p = none → Stp H1 μ1 G1 H' μ' G' → Ag0 c H' S' μ' G' → p ∉ μ' → G' p = none → H' p = some (.lst xs) → Reps c G' μ' xs ds → Q ds S' → R (.ref p) H') :
    tLc wi (tgT c.K tg) tt te vs σ H R := by
  refine hi σ H ρ S μ G _ _ A h fun J H1 ds ok S1 μ1 G1 s1 A1 it q1 => ?_
  obtain ⟨hlen, q1⟩ := q1
  intro p np
  obtain ⟨pm, pg⟩ := A1.ag.fresh np
  obtain ⟨A0, s0⟩ := A1.ag.own A1.ag (Stp.refl _ _ _) (o := .lst []) np pm pg
  refine ⟨fun i m H' => ∃ S' μ' G' acc ys, Ag0 c H' S' μ' G' ∧ Stp H1 μ1 G1 H' μ' G' ∧ p ∉ μ' ∧ G' p = none ∧ H' p = some (.lst acc) ∧ Reps c G' μ' acc ys ∧ ys.length ≤ i ∧ i ≤ ds.length ∧ m = ds.length - i ∧
    compL tg ok ft fe vs ρ (ds.drop i) S' (fun zs S2 => Q (ys ++ zs) S2), ⟨ds.length, S1, μ1, G1, [], [], A0, s0, pm, pg, upd_same, .nil, Nat.le_refl _, Nat.zero_le _, rfl, q1⟩, ?_⟩
  rintro i m H' ⟨S', μ', G', acc, ys, A', s', pm', pg', hp', r', hy, hi', rfl, q'⟩
  by_cases hlt : i < ds.length
  · rw [List.drop_eq_getElem_cons hlt] at q'
    obtain ⟨o, q'⟩ := q'
    refine .inr ⟨it.go i H' S' μ' G' s'.ext A' o hlt, fun H2 => ∃ S2 μ2 G2 acc ys, Ag0 c H2 S2 μ2 G2 ∧ Stp H1 μ1 G1 H2 μ2 G2 ∧ p ∉ μ2 ∧ G2 p = none ∧ H2 p = some (.lst acc) ∧ Reps c G2 μ2 acc ys ∧ ys.length ≤ i + 1 ∧
      compL tg ok ft fe vs ρ (ds.drop (i + 1)) S2 (fun zs S2 => Q (ys ++ zs) S2), ?_, ?_⟩
    · rintro H2 ⟨S2, μ2, G2, acc2, ys2, A2, s2, pm2, pg2, hp2, r2, hy2, q2⟩
      exact ⟨ds.length - (i + 1), by omega, S2, μ2, G2, acc2, ys2, A2, s2, pm2, pg2, hp2, r2, hy2, hlt, rfl, q2⟩
    · intro x H2 y
      obtain ⟨G2, d, s2, A2, hd, r2⟩ := it.yld i H' S' μ' G' x H2 s'.ext A' o hlt y
      rw [List.getElem?_eq_getElem hlt] at hd
      cases hd
      split at q'
      · rename_i ρ2 e
        have B2 : Ag c (L2.wipe σ vs) H2 (wipeD ρ vs) S' μ' G2 := ((A1.go (s'.trans s2) A2)).wipe vs
        refine Tg.ok B2 r2 e fun σ3 A3 hw => ⟨by rw [hw vs hv, wipe_wipe], ?_⟩
        obtain ⟨hp2, pm2, pg2⟩ := s2.stay hp' pm' pg'
        refine ht σ3 H2 ρ2 S' μ' G2 _ _ A3 q' fun z H3 S3 μ3 G3 s3 A4 q3 => ?_
        obtain ⟨hp3, pm3, pg3⟩ := s3.stay hp2 pm2 pg2
        cases z with
        | false =>
          rw [if_neg Bool.false_ne_true] at q3 ⊢
          exact ⟨S3, μ3, G3, acc, ys, A4.ag, (s'.trans s2).trans s3, pm3, pg3, hp3, (r'.go s2).go s3, by omega, q3⟩
        | true =>
          rw [if_pos rfl] at q3 ⊢
          refine he σ3 H3 ρ2 S3 μ3 G3 _ _ A4 q3 fun v H4 d S4 μ4 G4 s4 A5 r4 q4 => ?_
          obtain ⟨hp4, pm4, pg4⟩ := s4.stay hp3 pm3 pg3
          have s5 := ((s'.trans s2).trans s3).trans s4
          obtain ⟨A6, s6⟩ := A1.ag.own A5.ag s5 (o := .lst (acc ++ [v])) np pm4 pg4
          refine ⟨acc, hp4, by rw [r'.length]; omega, S4, μ4, G4, acc ++ [v], ys ++ [d], A6, s6, pm4, pg4, upd_same, (((r'.go s2).go s3).go s4).append (.one r4), by simp; omega, ?_⟩
          simp only [List.append_assoc, List.singleton_append]
          exact q4
      · exact q'.elim
  · have e : i = ds.length := by omega
    subst e
    rw [List.drop_length] at q'
    have q2 : Q (ys ++ []) S' := q'.2
    rw [List.append_nil] at q2
    exact .inl ⟨it.stop H' S' μ' G' s'.ext A' q'.1, k H1 S1 μ1 G1 p acc ys H' S' μ' G' s1 A1.ag np s' A' pm' pg' hp' r' q2⟩
theorem snd_lc {wi : TI} {f : WI} {tg : Tg} {tt : TT} {ft : WT} {te : TE} {fe : WE} {vs : List Nat} (hv : ∀ i ∈ tg.slots, i ∈ vs) (hi : SndI c wi f) (ht : SndT c tt ft) (he : SndE c te fe) : SndE c (tLc wi (tgT c.K tg) tt te vs) (lcW f tg ft fe vs) := by
  intro σ H ρ S μ G Q R A h k
  refine snd_lc0 hv hi ht he (Q := fun ys S2 => Q (.lst ys) S2) A h fun H1 S1 μ1 G1 p xs ds H' S' μ' G' s1 A1 np s' A' pm pg hp r q => ?_
  obtain ⟨A2, s2, sg⟩ := A1.keep A' s' np pm pg hp
  exact k _ H' _ S' μ' _ (s1.trans s2) (A.go (s1.trans s2) A2) (.lst upd_same (r.mono sg (fun _ _ h => h) _ _)) q
theorem snd_lcN {wi : TI} {f : WI} {tg : Tg} {tt : TT} {ft : WT} {te : TE} {fe : WE} {vs : List Nat} (hv : ∀ i ∈ tg.slots, i ∈ vs) (hi : SndI c wi f) (ht : SndT c tt ft) (he : SndE c te fe) : SndE c (tLc wi (tgT c.K tg) tt te vs) (lcN f tg ft fe vs) := by
  intro σ H ρ S μ G Q R A h k
  refine snd_lc0 hv hi ht he (Q := fun ys S2 => Q (.loc S2.length) (S2 ++ [Cell.lst ys])) A h fun H1 S1 μ1 G1 p xs ds H' S' μ' G' s1 A1 np s' A' pm pg hp r q => ?_
  obtain ⟨A2, s2⟩ := A1.adopt A' s' np pm pg hp r
  exact k _ H' _ _ _ _ (s1.trans s2) (A.go (s1.trans s2) A2) A'.newL q
abbrev Blk (X : Cx) (scope : Scope) (φ : Cx → Prop) : Prop := ∀ (s : Shared) (H : Hp) (C : Addr) (cl : List (Str × Addr)) (fp : List Addr), φ (X.blk s H scope (compEnvC scope cl C X.env) fp)
structure DTs (X : Cx) (b : Bs) (ifs : List Expr) (f : WT) : Prop where
  pe : PTs X ifs (rdT (dc X b) f)
theorem dts_nil : DTs X b [] yesW := ⟨⟨fun pins s σ H Q I q => by
  obtain ⟨ρ, S, μ, G, Q', A, q1, q2⟩ := q
  exact pts_nil.run pins s σ H Q I (q2 true H S μ G (Stp.refl _ _ _) A q1)⟩⟩
theorem dts_one {e : Expr} {f : WT} (h : DT X b e f) : DTs X b [e] f := ⟨pts_one h.can⟩
variable {elt tgx iter : Expr} {ifs : List Expr} {scope : Scope} {own : List (Str × Nat)} {pos : Pos} {f : WI} {tg : Tg} {ft : WT} {fe : WE}
theorem de_lc (hc : X.calm = true) (hN : X.N.Nodup) (hv : ∀ i ∈ tg.slots, i ∈ own.map (·.2)) (hi : DI X b tgx iter f) (ok : BlkOk X.N X.env.scope scope own) (hg : Blk X scope fun Y => DG Y tgx tg) (ht : Blk X scope fun Y => DTs Y b ifs ft) (he : Blk X scope fun Y => DE Y b elt fe)
    (hs : ∀ x, foldedSetIterable iter X.env x = pure x := by intro _; rfl) : DE X b (.ListComp elt [⟨tgx, iter, ifs, 0⟩] scope pos) (lcW f tg ft fe (own.map (·.2))) :=
  ⟨_, pe_lc (te := rdE (dc X b) fe) (tt := rdT (dc X b) ft) hc hN hi.can ok hg (fun s H C cl fp => (ht s H C cl fp).pe) (fun s H C cl fp => (he s H C cl fp).can) hs, snd_lc hv sndI_can sndT_can sndE_can⟩
theorem de_lcN (hc : X.calm = true) (hN : X.N.Nodup) (hv : ∀ i ∈ tg.slots, i ∈ own.map (·.2)) (hi : DI X b tgx iter f) (ok : BlkOk X.N X.env.scope scope own) (hg : Blk X scope fun Y => DG Y tgx tg) (ht : Blk X scope fun Y => DTs Y b ifs ft) (he : Blk X scope fun Y => DE Y b elt fe)
    (hs : ∀ x, foldedSetIterable iter X.env x = pure x := by intro _; rfl) : DE X b (.ListComp elt [⟨tgx, iter, ifs, 0⟩] scope pos) (lcN f tg ft fe (own.map (·.2))) :=
  ⟨_, pe_lc (te := rdE (dc X b) fe) (tt := rdT (dc X b) ft) hc hN hi.can ok hg (fun s H C cl fp => (ht s H C cl fp).pe) (fun s H C cl fp => (he s H C cl fp).can) hs, snd_lcN hv sndI_can sndT_can sndE_can⟩
/-- name = [..] -/
theorem ds_setLc (i : Nat) {y : Str} {py spos : Pos} (hc : X.calm = true) (hN : X.N.Nodup) (hv : ∀ i ∈ tg.slots, i ∈ own.map (·.2)) (hy : X.N[i]? = some y) (hyl : X.env.scope.names.lookup y = some .local)
    (hsw : swapsWith (.ListComp elt [⟨tgx, iter, ifs, 0⟩] scope pos) (some (.Name y py)) spos.line X.env = pure true) (hi : DI X b tgx iter f) (ok : BlkOk X.N X.env.scope scope own) (hg : Blk X scope fun Y => DG Y tgx tg) (ht : Blk X scope fun Y => DTs Y b ifs ft) (he : Blk X scope fun Y => DE Y b elt fe)
    (hs : ∀ x, foldedSetIterable iter X.env x = pure x := by intro _; rfl) : DS X b (.Assign [.Name y py] (.ListComp elt [⟨tgx, iter, ifs, 0⟩] scope pos) spos) (asgW (.nm i) (lcW f tg ft fe (own.map (·.2)))) :=
  ⟨_, ps_setLc (te := rdE (dc X b) fe) (tt := rdT (dc X b) ft) hc hN hy hyl hsw hi.can ok hg (fun s H C cl fp => (ht s H C cl fp).pe) (fun s H C cl fp => (he s H C cl fp).can) hs, snd_asg (tg := .nm i) (snd_lc hv sndI_can sndT_can sndE_can)⟩
theorem ds_setLcN (i : Nat) {y : Str} {py spos : Pos} (hc : X.calm = true) (hN : X.N.Nodup) (hv : ∀ i ∈ tg.slots, i ∈ own.map (·.2)) (hy : X.N[i]? = some y) (hyl : X.env.scope.names.lookup y = some .local)
    (hsw : swapsWith (.ListComp elt [⟨tgx, iter, ifs, 0⟩] scope pos) (some (.Name y py)) spos.line X.env = pure true) (hi : DI X b tgx iter f) (ok : BlkOk X.N X.env.scope scope own) (hg : Blk X scope fun Y => DG Y tgx tg) (ht : Blk X scope fun Y => DTs Y b ifs ft) (he : Blk X scope fun Y => DE Y b elt fe)
    (hs : ∀ x, foldedSetIterable iter X.env x = pure x := by intro _; rfl) : DS X b (.Assign [.Name y py] (.ListComp elt [⟨tgx, iter, ifs, 0⟩] scope pos) spos) (asgW (.nm i) (lcN f tg ft fe (own.map (·.2)))) :=
  ⟨_, ps_setLc (te := rdE (dc X b) fe) (tt := rdT (dc X b) ft) hc hN hy hyl hsw hi.can ok hg (fun s H C cl fp => (ht s H C cl fp).pe) (fun s H C cl fp => (he s H C cl fp).can) hs, snd_asg (tg := .nm i) (snd_lcN hv sndI_can sndT_can sndE_can)⟩
end
end DL
namespace DL
open PySem PySem.Spec PyProof.Rows L2

/-! ### below a place of the store -/
mutual
def D.blw (k : Nat) : D → Bool
  | .loc n => decide (n < k)
  | .tup ds => Ds.blw k ds
  | .lst ds => Ds.blw k ds
  | .rol ds => Ds.blw k ds
  | .non => true
  | .bl _ => true
  | .int _ => true
  | .str _ => true
  | .ty _ => true
def Ds.blw (k : Nat) : List D → Bool
  | [] => true
  | d :: ds => D.blw k d && Ds.blw k ds
end
def Cell.blw (k : Nat) : Cell → Bool
  | .dead => true
  | .lst ds => Ds.blw k ds
theorem Ds.blw_ints (k : Nat) : ∀ ns : List Int, Ds.blw k (ns.map D.int) = true
  | [] => rfl
  | n :: ns => by
    show (D.blw k (.int n) && Ds.blw k (ns.map D.int)) = true
    rw [Ds.blw_ints k ns]; rfl
section
variable {c c' : Dc} {G G' H H' : Hp} {μ μ' : List Addr} {S S' : Store} {σ : L2.St} {ρ : Rho}
mutual
theorem Rep.cut {k : Nat} : ∀ (d : D) (v : V), Rep c G μ v d → D.blw k d = true → Rep c G (μ.take k) v d
  | .non, _, h, _ => by cases h; exact .non
  | .bl _, _, h, _ => by cases h; exact .bl _
  | .int _, _, h, _ => by cases h; exact .int _
  | .str _, _, h, _ => by cases h; exact .str _
  | .ty _, _, h, _ => by cases h; exact .ty _
  | .tup ds, _, h, q => by
    cases h with
    | tup h1 h2 => exact .tup h1 (Reps.cut ds _ h2 q)
  | .lst ds, _, h, q => by
    cases h with
    | lst h1 h2 => exact .lst h1 (Reps.cut ds _ h2 q)
  | .rol ds, _, h, q => by
    cases h with
    | rol h1 h2 => exact .rol h1 (Reps.cut ds _ h2 q)
  | .loc n, _, h, q => by
    cases h with
    | loc h1 =>
      have hn : n < k := of_decide_eq_true q
      exact .loc (by rw [List.getElem?_take_of_lt hn]; exact h1)
theorem Reps.cut {k : Nat} : ∀ (ds : List D) (vs : List V), Reps c G μ vs ds → Ds.blw k ds = true → Reps c G (μ.take k) vs ds
  | [], _, h, _ => by cases h; exact .nil
  | d :: ds, _, h, q => by
    have q' := Bool.and_eq_true_iff.mp (show (D.blw k d && Ds.blw k ds) = true from q)
    cases h with
    | cons h1 h2 => exact .cons (Rep.cut d _ h1 q'.1) (Reps.cut ds _ h2 q'.2)
end
mutual
theorem Rep.blw : ∀ (d : D) (v : V), Rep c G μ v d → D.blw μ.length d = true
  | .non, _, _ => rfl
  | .bl _, _, _ => rfl
  | .int _, _, _ => rfl
  | .str _, _, _ => rfl
  | .ty _, _, _ => rfl
  | .tup ds, _, h => by
    cases h with
    | tup h1 h2 => exact Reps.blw ds _ h2
  | .lst ds, _, h => by
    cases h with
    | lst h1 h2 => exact Reps.blw ds _ h2
  | .rol ds, _, h => by
    cases h with
    | rol h1 h2 => exact Reps.blw ds _ h2
  | .loc n, _, h => by
    cases h with
    | loc h1 => exact decide_eq_true (List.getElem?_eq_some_iff.mp h1).1
theorem Reps.blw : ∀ (ds : List D) (vs : List V), Reps c G μ vs ds → Ds.blw μ.length ds = true
  | [], _, _ => rfl
  | d :: ds, _, h => by
    cases h with
    | cons h1 h2 => exact Bool.and_eq_true_iff.mpr ⟨Rep.blw d _ h1, Reps.blw ds _ h2⟩
end
mutual
theorem Rep.re (e : c.K = c'.K) : ∀ (d : D) (v : V), Rep c G μ v d → Rep c' G μ v d
  | .non, _, h => by cases h; exact .non
  | .bl _, _, h => by cases h; exact .bl _
  | .int _, _, h => by cases h; exact .int _
  | .str _, _, h => by cases h; exact .str _
  | .ty _, _, h => by cases h; exact .ty _
  | .tup ds, _, h => by
    cases h with
    | tup h1 h2 => exact .tup (e ▸ h1) (Reps.re e ds _ h2)
  | .lst ds, _, h => by
    cases h with
    | lst h1 h2 => exact .lst h1 (Reps.re e ds _ h2)
  | .rol ds, _, h => by
    cases h with
    | rol h1 h2 => exact .rol (e ▸ h1) (Reps.re e ds _ h2)
  | .loc n, _, h => by
    cases h with
    | loc h1 => exact .loc h1
theorem Reps.re (e : c.K = c'.K) : ∀ (ds : List D) (vs : List V), Reps c G μ vs ds → Reps c' G μ vs ds
  | [], _, h => by cases h; exact .nil
  | d :: ds, _, h => by
    cases h with
    | cons h1 h2 => exact .cons (Rep.re e d _ h1) (Reps.re e ds _ h2)
end
theorem RepC.re (e : c.K = c'.K) {a : Addr} : ∀ {cl : Cell}, RepC c G μ H a cl → RepC c' G μ H a cl
  | .dead, h => h
  | .lst _, ⟨h1, vs, h2, h3⟩ => ⟨h1, vs, h2, h3.re e _ _⟩
theorem Ag0.re (e : c.K = c'.K) (A : Ag0 c H S μ G) (s : Stp c'.H0 c'.μ0 c'.G0 H μ G) : Ag0 c' H S μ G := ⟨A.same, A.len, A.nd, fun n a cl h1 h2 => (A.cell n a cl h1 h2).re e, s⟩
theorem Ag0.allBelow (A : Ag0 c H S μ G) : S.all (Cell.blw S.length) = true := by
  rw [List.all_eq_true]
  intro cl hc
  obtain ⟨n, hn⟩ := List.getElem?_of_mem hc
  have hl : n < μ.length := by rw [A.len]; exact (List.getElem?_eq_some_iff.mp hn).1
  have q := A.cell n _ cl (List.getElem?_eq_getElem hl) hn
  cases cl with
  | dead => rfl
  | lst ds =>
    obtain ⟨_, vs, _, r⟩ := q
    rw [← A.len]
    exact r.blw _ _
/-- the cells behind a place are let go -/
theorem Ag0.cut (A : Ag0 c H S μ G) {k : Nat} (hk : k ≤ S.length) (hb : (S.take k).all (Cell.blw k) = true) (s : Stp c.H0 c.μ0 c.G0 H (μ.take k) G) : Ag0 c H (S.take k) (μ.take k) G := by
  refine ⟨A.same, by rw [List.length_take, List.length_take, A.len], A.nd.sublist (List.take_sublist _ _), fun n a cl hn hs => ?_, s⟩
  have hnk : n < k := by
    have := (List.getElem?_eq_some_iff.mp hn).1
    rw [List.length_take] at this
    omega
  have hs' := hs
  rw [List.getElem?_take_of_lt hnk] at hn hs
  have q := A.cell n a cl hn hs
  have bb := List.all_eq_true.mp hb cl (List.mem_of_getElem? hs')
  cases cl with
  | dead => exact q
  | lst ds =>
    obtain ⟨h1, vs, h2, h3⟩ := q
    exact ⟨h1, vs, h2, h3.cut _ _ bb⟩
theorem Stp.cut (s : Stp H μ G H' μ' G') {k : Nat} (h : μ.length ≤ k) : Stp H μ G H' (μ'.take k) G' :=
  ⟨s.sg, fun n a e => by
    have hn : n < k := Nat.lt_of_lt_of_le (List.getElem?_eq_some_iff.mp e).1 h
    rw [List.getElem?_take_of_lt hn]; exact s.mu n a e, s.fr, fun a ha => s.nw a (List.mem_of_mem_take ha), s.gn⟩
end

/-! ### what a def is worth -/
abbrev Mir := List D → Store → DQ → Prop
def spD (K : PySem.W.Frag) (mg : Str → Option Value) (m : Mir) : Sp := fun vs H Q _ => ∃ (ds : List D) (S : Store) (μ : List Addr) (G : Hp) (Qd : DQ),
  Reps ⟨K, mg, H, μ, G⟩ G μ vs ds ∧ Ag0 ⟨K, mg, H, μ, G⟩ H S μ G ∧ m ds S Qd ∧
  ∀ v H' d S' μ' G', Stp H μ G H' μ' G' → Ag0 ⟨K, mg, H, μ, G⟩ H' S' μ' G' → Rep ⟨K, mg, H, μ, G⟩ G' μ' v d → Qd d S' → Q v H'
/-- the end of a def: own cells are let go -/
def exitQ (n : Nat) (Q : DQ) : DQ := fun d S => Q d S ∨ ∃ k, n ≤ k ∧ k ≤ S.length ∧ (S.take k).all (Cell.blw k) = true ∧
  ((D.blw k d = true ∧ Q d (S.take k)) ∨ ∃ m xs, d = .loc m ∧ k ≤ m ∧ S[m]? = some (.lst xs) ∧ Ds.blw k xs = true ∧ Q (.lst xs) (S.take k))
theorem exit_drop {S J : Store} {Q : DQ} {d : D} (hS : S.all (Cell.blw S.length) = true) (hd : D.blw S.length d = true) (q : Q d S) : exitQ S.length Q d (S ++ J) := by
  refine .inr ⟨S.length, Nat.le_refl _, by simp, ?_, .inl ⟨hd, ?_⟩⟩
  · rw [List.take_left]; exact hS
  · rw [List.take_left]; exact q
theorem exit_lst {S J : Store} {Q : DQ} {xs : List D} (hS : S.all (Cell.blw S.length) = true) (hx : Ds.blw S.length xs = true) (q : Q (.lst xs) S) : exitQ S.length Q (.loc S.length) (S ++ .lst xs :: J) := by
  refine .inr ⟨S.length, Nat.le_refl _, by simp, ?_, .inr ⟨S.length, xs, rfl, Nat.le_refl _, by simp, hx, ?_⟩⟩
  · rw [List.take_left]; exact hS
  · rw [List.take_left]; exact q
def startD (N : List Str) (ds : List D) : Rho := ds.map some ++ List.replicate (N.length - ds.length) none
theorem lk_append_left : ∀ {xs : List D} {r : Rho} {i : Nat} {d : D}, i < xs.length → lk (xs.map some ++ r) i = some d → xs[i]? = some d
  | [], _, _, _, h, _ => by simp at h
  | x :: xs, r, 0, d, _, e => by
    have e' : some x = some d := e
    cases e'; rfl
  | x :: xs, r, i + 1, d, h, e => lk_append_left (xs := xs) (i := i) (by simpa using h) e
theorem lk_start {N : List Str} {ds : List D} {i : Nat} {d : D} (h : lk (startD N ds) i = some d) : ds[i]? = some d := by
  unfold startD at h
  by_cases hi : i < ds.length
  · exact lk_append_left hi h
  · exfalso
    have key : ∀ (xs : List D) (m i : Nat), ¬ i < xs.length → lk (xs.map some ++ List.replicate m none) i = none := by
      intro xs
      induction xs with
      | nil =>
        intro m
        induction m with
        | zero => intro i _; rfl
        | succ m ih =>
          intro i _
          cases i with
          | zero => rfl
          | succ i => exact ih i (by simp)
      | cons x xs ih =>
        intro m i hi
        cases i with
        | zero => simp at hi
        | succ i => exact ih m i (by simpa using hi)
    rw [key ds _ i hi] at h
    cases h
section
variable {P : Program} {w : World} {K : PySem.W.Frag} {mg : Str → Option Value} {base : Heap}
theorem fn_data {x qual : Str} {st : Stmt} {f : Addr} {fd : FuncData} {N ps : List Str} {k : Nat} {m : Mir} {g : WS} (F : Fun K x qual st f fd) (Sc : FnScope N ps (defScope st)) (hl : ∀ ds S Q, m ds S Q → ds.length = ps.length)
    (body : ∀ (cdv : Value) (A : Around) (outer : List Env) (s : Shared) (H : Hp) (E : XK) (b : Bs), Room k (A.deeper (envOfC qual (defScope st) s.heap.objs.size f cdv)) → DSs (cxOf (L2.CX P w) P w K mg base N qual (defScope st) f cdv A outer s H E).nox b (defBody st) g)
    (spec : ∀ ds S (Q : DQ), S.all (Cell.blw S.length) = true → m ds S Q → g { nx := fun _ S' => exitQ S.length Q .non S', rt := exitQ S.length Q } (startD N ds) S) :
    FnOk P w K mg base (L2.CX P w) (k + 1) f fd ps (spD K mg m) := by
  refine F.okX Sc (fun vs H Q E h => ?_) (fun cdv A outer s H vs Q E hr h => ?_)
  · obtain ⟨ds, S, μ, G, Qd, r, a, hm, hk⟩ := h
    rw [r.length]; exact hl _ _ _ hm
  · obtain ⟨ds, S, μ, G, Qd, r, a, hm, hk⟩ := h
    obtain ⟨t, pt, stt⟩ := (body cdv A outer s H E ⟨H, μ, G⟩ hr).ex
    refine ⟨t, pt.nox, ?_⟩
    have ar : Ag ⟨K, mg, H, μ, G⟩ (L2.start N vs) H (startD N ds) S μ G := by
      refine ⟨a, by simp [L2.start, startD, r.length], fun i d hd => ?_⟩
      obtain ⟨v, h1, h2⟩ := r.get (lk_start hd)
      refine ⟨v, ?_, h2⟩
      unfold L2.start
      rw [List.getElem?_append_left (by rw [List.length_map]; exact (List.getElem?_eq_some_iff.mp h1).1), List.getElem?_map, h1]
      rfl
    have ends : ∀ (v : V) (H' : Hp) (d : D) (S' : Store) (μ' : List Addr) (G' : Hp), Stp H μ G H' μ' G' → Ag0 ⟨K, mg, H, μ, G⟩ H' S' μ' G' → Rep ⟨K, mg, H, μ, G⟩ G' μ' v d → exitQ S.length Qd d S' → Q v H' := by
      intro v H' d S' μ' G' s' A' r' q
      rcases q with q | ⟨k, h1, h2, h4, q⟩
      · exact hk v H' d S' μ' G' s' A' r' q
      · have s2 : Stp H μ G H' (μ'.take k) G' := s'.cut (by rw [a.len]; exact h1)
        rcases q with ⟨h3, q⟩ | ⟨m, xs, rfl, hm, hx, hb, q⟩
        · exact hk v H' d _ _ G' s2 (A'.cut h2 h4 s2) (r'.cut _ _ h3) q
        · cases r' with
          | @loc aa _ hn =>
            obtain ⟨g0, vs, hv, rv⟩ := A'.cell m aa _ hn hx
            have C := A'.cut h2 h4 s2
            have ma : aa ∉ μ'.take k := fun z => by
              obtain ⟨j, hj⟩ := List.getElem?_of_mem z
              have jk : j < k := by
                have := (List.getElem?_eq_some_iff.mp hj).1
                rw [List.length_take] at this
                omega
              rw [List.getElem?_take_of_lt jk] at hj
              have := nd_ix A'.nd hj hn
              omega
            have na : H aa = none := by
              rcases s'.nw aa (List.mem_of_getElem? hn) with z | z
              · exfalso
                obtain ⟨j, hj⟩ := List.getElem?_of_mem z
                have h5 := s'.mu j aa hj
                have jl : j < k := Nat.lt_of_lt_of_le (by have := (List.getElem?_eq_some_iff.mp hj).1; rw [a.len] at this; exact this) h1
                have := nd_ix A'.nd h5 hn
                omega
              · exact z
            obtain ⟨C2, s3, sg⟩ := a.keep C s2 na ma g0 hv
            exact hk _ H' (.lst xs) _ _ _ s3 C2 (.lst upd_same ((rv.cut _ _ hb).mono sg (fun _ _ h => h) _ _)) q
    exact stt _ _ (L2.start N vs) H (startD N ds) S μ G ar (spec ds S Qd a.allBelow hm)
      ⟨fun σ' H' ρ' S' μ' G' s' A' q => ends .non H' .non S' μ' G' s' A'.ag .non q, ends, fun _ _ _ _ _ _ _ _ q => q.elim, fun _ _ _ _ _ _ _ _ q => q.elim⟩
end
section
variable {X : Cx} {b : Bs} {e : Expr} {es : List Expr} {fs : WA} {pos : Pos}
theorem snd_fn {c : Dc} {m : Mir} {t : TA} {E : XK} (hs : SndA c t fs) : SndE c (tCall (spD c.K c.mg m) [] E t) (clW m fs) := by
  intro σ H ρ S μ G Q R A h k
  refine hs σ H ρ S μ G _ _ A h fun vs H1 ds S1 μ1 G1 s1 A1 r1 q1 => ?_
  rw [List.append_nil]
  refine ⟨ds, S1, μ1, G1, Q, Reps.re (c := c) (c' := ⟨c.K, c.mg, H1, μ1, G1⟩) rfl _ _ r1, Ag0.re (c := c) (c' := ⟨c.K, c.mg, H1, μ1, G1⟩) rfl A1.ag (Stp.refl _ _ _), q1, fun v H' d S' μ' G' s' A' r' q' => ?_⟩
  exact k v H' d S' μ' G' (s1.trans s') (A1.go s' (Ag0.re (c := ⟨c.K, c.mg, H1, μ1, G1⟩) (c' := c) rfl A' (A1.ag.base.trans s'))) (Rep.re (c := ⟨c.K, c.mg, H1, μ1, G1⟩) (c' := c) rfl _ _ r') q'
/-- f(..), f a def of the text that lets nothing out -/
theorem de_call {m : Mir} {x : Str} {p : Pos} {k : Nat} {f : Addr} {fd : FuncData} {ps : List Str} (F : FnOk X.prog X.w X.K X.mg X.base (L2.CX X.prog X.w) k f fd ps (spD X.K X.mg m)) (hr : Room k X.A) (hg : Gl X x) (hm : X.mg x = some (.ref f)) (hk : PySem.W.keepIn X.K (.ref f) = true) (hb : Binds X.K fd ps [])
    (ha : DA X b (e :: es) fs) (hdb : (x == ("__debug__" : Str)) = false := by decide) (he : starEach (e :: es) X.env = (false, eval e X.env) :: starEach es X.env := by rfl) (hpl : (backTo pos (starEach es X.env)).any (·.1) = false := by rfl) :
    DE X b (.Call (.Name x p) (e :: es) [] pos) (clW m fs) := by
  obtain ⟨t, pt, st⟩ := ha.ex
  exact ⟨_, pe_call F hr hg hm hk hb .nil passL pt hdb he hpl, snd_fn st⟩
theorem de_call0 {m : Mir} {x : Str} {p : Pos} {k : Nat} {f : Addr} {fd : FuncData} {ps : List Str} (F : FnOk X.prog X.w X.K X.mg X.base (L2.CX X.prog X.w) k f fd ps (spD X.K X.mg m)) (hr : Room k X.A) (hg : Gl X x) (hm : X.mg x = some (.ref f)) (hk : PySem.W.keepIn X.K (.ref f) = true) (hb : Binds X.K fd ps [])
    (hdb : (x == ("__debug__" : Str)) = false := by decide) : DE X b (.Call (.Name x p) [] [] pos) (clW m nilW) := by
  refine ⟨_, pe_call0 F hr hg hm hk hb .nil passL hdb, snd_fn ?_⟩
  intro σ H ρ S μ G Q R A h k
  exact k [] H [] S μ G (Stp.refl _ _ _) A .nil h

/-! ### methods of lists -/
def appW (fo fa : WE) : WE := fun ρ S Q => fo ρ S fun o S1 => match o with
  | .loc n => match S1[n]? with
    | some (.lst _) => fa ρ S1 fun d S2 => match S2[n]? with
      | some (.lst ds) => ds.length < sizeLine ∧ Q .non (S2.set n (.lst (ds ++ [d])))
      | _ => False
    | _ => False
  | _ => False
theorem de_append {o a : Expr} {fo fa : WE} {apos : Pos} (ho : DE X b o fo) (ha : DE X b a fa) (hb : attributeBase o "append" X.env (eval o X.env) = eval o X.env := by rfl)
    (hl : (apos.endLine == pos.line) = true := by rfl)
    (hf : ((backTo pos (starEach [a] X.env)).all (fun x => !x.1) && (backToKw pos (keywordEach [] X.env)).all (fun x => x.1.isSome) && decide ([a].length + ([] : List Keyword).length + (if ([] : List Keyword).isEmpty then 0 else 1) < 30)) = true := by rfl)
    (hs : starEach [a] X.env = [(false, eval a X.env)] := by rfl) : DE X b (.Call (.Attribute o "append" apos) [a] [] pos) (appW fo fa) := by
  obtain ⟨to, po, so⟩ := ho.ex
  obtain ⟨ta, pa, sa⟩ := ha.ex
  refine ⟨_, pe_bm PySem.F.plainAttrs_list PySem.F.slot_list_append PySem.F.type_list_append mt_append po (pa_cons pa pa_nil hs) hb hf hl hs rfl, fun σ H ρ S μ G Q R A h k => ?_⟩
  refine so σ H ρ S μ G _ _ A h fun x H1 dx S1 μ1 G1 s1 A1 r1 q1 => ?_
  split at q1
  · rename_i n
    split at q1
    · rename_i ds0 e1
      cases r1 with
      | loc hn =>
        obtain ⟨vs0, h1, h2⟩ := A1.ag.at hn e1
        refine ⟨.inl ⟨rfl, _, SqL.of h1⟩, ?_⟩
        refine sa σ H1 ρ S1 μ1 G1 _ _ A1 q1 fun y H2 dy S2 μ2 G2 s2 A2 r2 q2 => ?_
        split at q2
        · rename_i ds e2
          have hn2 := s2.mu _ _ hn
          obtain ⟨vs, h3, h4⟩ := A2.ag.at hn2 e2
          obtain ⟨A3, s3⟩ := A2.ag.put hn2 e2 (h4.append (.one r2))
          exact ⟨_, vs, y, rfl, rfl, h3, by rw [h4.length]; exact q2.1, k .non _ .non _ μ2 G2 ((s1.trans s2).trans s3) (A2.go s3 A3) .non q2.2⟩
        · exact q2.elim
    · exact q1.elim
  · exact q1.elim
theorem sto_get {S J : Store} {k : Nat} : (S ++ J)[S.length + k]? = J[k]? := by
  rw [List.getElem?_append_right (Nat.le_add_right _ _), Nat.add_sub_cancel_left]
theorem sto_get0 {S J : Store} {c : Cell} : (S ++ c :: J)[S.length]? = some c := by simp
theorem sto_set0 {S J : Store} {c d : Cell} : (S ++ c :: J).set S.length d = S ++ d :: J := by simp
theorem appW_top {i : Nat} {fa : WE} {ρ : Rho} {S J : Store} {xs : List D} {Q : DQ} {d : D} (h : lk ρ i = some (.loc S.length)) (hf : ∀ Q' : DQ, Q' d (S ++ .lst xs :: J) → fa ρ (S ++ .lst xs :: J) Q') (hl : xs.length < sizeLine)
    (q : Q .non (S ++ .lst (xs ++ [d]) :: J)) : appW (vW i) fa ρ (S ++ .lst xs :: J) Q := by
  unfold appW vW
  rw [h]
  simp only [sto_get0]
  refine hf _ ?_
  simp only [sto_get0, sto_set0]
  exact ⟨hl, q⟩
def popAtW (fo fa : WE) : WE := fun ρ S Q => fo ρ S fun o S1 => match o with
  | .loc n => match S1[n]? with
    | some (.lst _) => fa ρ S1 fun d S2 => match d, S2[n]? with
      | .int i, some (.lst ds) => (-(2 ^ 63) ≤ i ∧ i < 2 ^ 63) ∧ match ixN ds.length i with
        | some j => match ds[j]? with
          | some y => Q y (S2.set n (.lst (ds.eraseIdx j)))
          | none => False
        | none => False
      | _, _ => False
    | _ => False
  | _ => False
theorem de_popAt {o a : Expr} {fo fa : WE} {apos : Pos} (ho : DE X b o fo) (ha : DE X b a fa) (hb : attributeBase o "pop" X.env (eval o X.env) = eval o X.env := by rfl)
    (hs : starEach [a] X.env = [(false, eval a X.env)] := by rfl) 
    (hl : (apos.endLine == pos.line) = true := by rfl)
    (hf : ((backTo pos (starEach [a] X.env)).all (fun x => !x.1) && (backToKw pos (keywordEach [] X.env)).all (fun x => x.1.isSome) && decide ([a].length + ([] : List Keyword).length + (if ([] : List Keyword).isEmpty then 0 else 1) < 30)) = true := by rfl) : DE X b (.Call (.Attribute o "pop" apos) [a] [] pos) (popAtW fo fa) := by
  obtain ⟨to, po, so⟩ := ho.ex
  obtain ⟨ta, pa, sa⟩ := ha.ex
  refine ⟨_, pe_bm PySem.F.plainAttrs_list PySem.F.slot_list_pop PySem.F.type_list_pop mt_popAt po (pa_cons pa pa_nil hs) hb hf hl hs rfl, fun σ H ρ S μ G Q R A h k => ?_⟩
  refine so σ H ρ S μ G _ _ A h fun x H1 dx S1 μ1 G1 s1 A1 r1 q1 => ?_
  split at q1
  · rename_i n
    split at q1
    · rename_i ds0 e1
      cases r1 with
      | loc hn =>
        obtain ⟨vs0, h1, h2⟩ := A1.ag.at hn e1
        refine ⟨.inl ⟨rfl, _, SqL.of h1⟩, ?_⟩
        refine sa σ H1 ρ S1 μ1 G1 _ _ A1 q1 fun y H2 dy S2 μ2 G2 s2 A2 r2 q2 => ?_
        split at q2
        · rename_i i ds e2
          obtain ⟨⟨l1, l2⟩, q2⟩ := q2
          split at q2
          · rename_i j e3
            split at q2
            · rename_i z e4
              cases r2
              have hn2 := s2.mu _ _ hn
              obtain ⟨vs, h3, h4⟩ := A2.ag.at hn2 e2
              obtain ⟨u, h5, h6⟩ := h4.get e4
              obtain ⟨A3, s3⟩ := A2.ag.put hn2 e2 (h4.eraseIdx j)
              exact ⟨_, vs, i, j, u, rfl, rfl, h3, l1, l2, by rw [h4.length]; exact (ixN_seq e3).1, h5, k u _ z _ μ2 G2 ((s1.trans s2).trans s3) (A2.go s3 A3) (h6.go s3) q2⟩
            · exact q2.elim
          · exact q2.elim
        · exact q2.elim
    · exact q1.elim
  · exact q1.elim
end
end DL
namespace DL
open PySem PySem.Spec PyProof.Rows L2
section
variable {X : Cx} {b : Bs} {c : Dc} {pos : Pos}

/-! ### chains of two comparisons -/
def chW (w w' : W2) (fa fb fc : WE) : WE := fun ρ S Q => fa ρ S fun x S1 => fb ρ S1 fun y S2 => w x y S2 fun z S3 => match z with
  | .bl k => if k = true then fc ρ S3 fun u S4 => w' y u S4 Q else Q (.bl false) S3
  | _ => False
theorem snd_ch {r r' : R2} {w w' : W2} {ta tb tc : TE} {fa fb fc : WE} (hr : Snd2 c r w) (hr' : Snd2 c r' w') (ha : SndE c ta fa) (hb : SndE c tb fb) (hc : SndE c tc fc) : SndE c (tChain r r' ta tb tc) (chW w w' fa fb fc) := by
  intro σ H ρ S μ G Q R A h k
  refine ha σ H ρ S μ G _ _ A h fun x H1 dx S1 μ1 G1 s1 A1 r1 q1 => ?_
  refine hb σ H1 ρ S1 μ1 G1 _ _ A1 q1 fun y H2 dy S2 μ2 G2 s2 A2 r2 q2 => ?_
  refine hr H2 S2 μ2 G2 x y dx dy _ _ A2.ag (r1.go s2) r2 q2 fun z H3 dz S3 μ3 G3 s3 A3 r3 q3 => ?_
  have s13 := (s1.trans s2).trans s3
  cases r3 with
  | bl kk =>
    refine ⟨kk, rfl, ?_⟩
    cases kk with
    | true =>
      refine hc σ H3 ρ S3 μ3 G3 _ _ (A2.go s3 A3) q3 fun u H4 du S4 μ4 G4 s4 A4 r4 q4 => ?_
      exact hr' H4 S4 μ4 G4 y u dy du Q R A4.ag ((r2.go s3).go s4) r4 q4 fun v H5 d S5 μ5 G5 s5 A5 r5 q5 => k v H5 d S5 μ5 G5 ((s13.trans s4).trans s5) (A4.go s5 A5) r5 q5
    | false => exact k _ H3 _ S3 μ3 G3 s13 (A2.go s3 A3) (.bl _) q3
  | _ => exact q3.elim
variable {a b' c' : Expr} {fa fb fc : WE}
theorem de_ch {op op' : CmpOp} {r r' : R2} {w w' : W2} (ho : OpR X (compareOp op) r) (hs : Snd2 (dc X b) r w) (ho' : OpR X (compareOp op') r') (hs' : Snd2 (dc X b) r' w') (ha : DE X b a fa) (hb : DE X b b' fb) (hc : DE X b c' fc)
    (hm : lastMarks [op, op'] [b', c'] = false := by with_unfolding_all rfl) : DE X b (.Compare a [op, op'] [b', c'] pos) (chW w w' fa fb fc) := by
  obtain ⟨ta, pa, sa⟩ := ha.ex
  obtain ⟨tb, pb, sb⟩ := hb.ex
  obtain ⟨tc, pc, sc⟩ := hc.ex
  exact ⟨_, pe_chain ho ho' pa pb pc hm, snd_ch hs hs' sa sb sc⟩
theorem dt_ch {op op' : CmpOp} {r r' : R2} {w w' : W2} (ho : OpR X (compareOp op) r) (hs : Snd2 (dc X b) r w) (ho' : OpR X (compareOp op') r') (hs' : Snd2 (dc X b) r' w') (ha : DE X b a fa) (hb : DE X b b' fb) (hc : DE X b c' fc)
    (hm : lastMarks [op, op'] [b', c'] = false := by with_unfolding_all rfl) : DT X b (.Compare a [op, op'] [b', c'] pos) (tsW (chW w w' fa fb fc)) := by
  obtain ⟨ta, pa, sa⟩ := ha.ex
  obtain ⟨tb, pb, sb⟩ := hb.ex
  obtain ⟨tc, pc, sc⟩ := hc.ex
  exact ⟨_, pt_chain ho ho' pa pb pc hm, snd_test (snd_ch hs hs' sa sb sc)⟩

/-! ### comprehensions of two clauses -/
def comp2L (tg tg1 : Tg) (ok : Store → Prop) (ft : WT) (wi1 : WI) (ft1 : WT) (fe : WE) (vs vs1 : List Nat) (ρ : Rho) : Nat → List D → Store → (List D → Store → Prop) → Prop
  | _, [], S, Q => ok S ∧ Q [] S
  | n, x :: xs, S, Q => ok S ∧ match tg.put x (wipeD ρ vs) with
    | some ρ' => ft ρ' S fun k S1 => if k = true then wi1 ρ' S1 fun es ok1 S2 => n + es.length < sizeLine ∧ compL tg1 ok1 ft1 fe vs1 ρ' es S2 fun ys S3 => comp2L tg tg1 ok ft wi1 ft1 fe vs vs1 ρ (n + es.length) xs S3 fun zs S4 => Q (ys ++ zs) S4
      else comp2L tg tg1 ok ft wi1 ft1 fe vs vs1 ρ n xs S1 Q
    | none => False
def lc2W (wi : WI) (tg : Tg) (ft : WT) (wi1 : WI) (tg1 : Tg) (ft1 : WT) (fe : WE) (vs vs1 : List Nat) : WE := fun ρ S Q => wi ρ S fun ds ok S1 => comp2L tg tg1 ok ft wi1 ft1 fe vs vs1 ρ 0 ds S1 fun ys S2 => Q (.lst ys) S2
theorem snd_lc2 {wi wi1 : TI} {f f1 : WI} {tg tg1 : Tg} {tt tt1 : TT} {ft ft1 : WT} {te : TE} {fe : WE} {vs vs1 : List Nat} (hv : ∀ i ∈ tg.slots, i ∈ vs) (hv1 : ∀ i ∈ tg1.slots, i ∈ vs1) (hi : SndI c wi f) (ht : SndT c tt ft) (hi1 : SndI c wi1 f1) (ht1 : SndT c tt1 ft1) (he : SndE c te fe) :
    SndE c (tLc2 wi (tgT c.K tg) tt wi1 (tgT c.K tg1) tt1 te vs vs1) (lc2W f tg ft f1 tg1 ft1 fe vs vs1) := by
  intro σ H ρ S μ G Q R A h k
  refine hi σ H ρ S μ G _ _ A h fun J H1 ds ok S1 μ1 G1 s1 A1 it q1 => ?_
  intro p np
  obtain ⟨pm, pg⟩ := A1.ag.fresh np
  obtain ⟨A0, s0⟩ := A1.ag.own A1.ag (Stp.refl _ _ _) (o := .lst []) np pm pg
  refine ⟨fun i m H' => ∃ S' μ' G' acc ys n, Ag0 c H' S' μ' G' ∧ Stp H1 μ1 G1 H' μ' G' ∧ p ∉ μ' ∧ G' p = none ∧ H' p = some (.lst acc) ∧ Reps c G' μ' acc ys ∧ ys.length ≤ n ∧ i ≤ ds.length ∧ m = ds.length - i ∧
    comp2L tg tg1 ok ft f1 ft1 fe vs vs1 ρ n (ds.drop i) S' (fun zs S2 => Q (.lst (ys ++ zs)) S2), ⟨ds.length, S1, μ1, G1, [], [], 0, A0, s0, pm, pg, upd_same, .nil, Nat.le_refl _, Nat.zero_le _, rfl, q1⟩, ?_⟩
  rintro i m H' ⟨S', μ', G', acc, ys, n, A', s', pm', pg', hp', r', hy, hi', rfl, q'⟩
  by_cases hlt : i < ds.length
  · rw [List.drop_eq_getElem_cons hlt] at q'
    obtain ⟨o, q'⟩ := q'
    refine .inr ⟨it.go i H' S' μ' G' s'.ext A' o hlt, fun H2 => ∃ S2 μ2 G2 acc ys n, Ag0 c H2 S2 μ2 G2 ∧ Stp H1 μ1 G1 H2 μ2 G2 ∧ p ∉ μ2 ∧ G2 p = none ∧ H2 p = some (.lst acc) ∧ Reps c G2 μ2 acc ys ∧ ys.length ≤ n ∧
      comp2L tg tg1 ok ft f1 ft1 fe vs vs1 ρ n (ds.drop (i + 1)) S2 (fun zs S2 => Q (.lst (ys ++ zs)) S2), ?_, ?_⟩
    · rintro H2 ⟨S2, μ2, G2, acc2, ys2, n2, A2, s2, pm2, pg2, hp2, r2, hy2, q2⟩
      exact ⟨ds.length - (i + 1), by omega, S2, μ2, G2, acc2, ys2, n2, A2, s2, pm2, pg2, hp2, r2, hy2, hlt, rfl, q2⟩
    · intro x H2 y
      obtain ⟨G2, d, s2, A2, hd, r2⟩ := it.yld i H' S' μ' G' x H2 s'.ext A' o hlt y
      rw [List.getElem?_eq_getElem hlt] at hd
      cases hd
      split at q'
      · rename_i ρ2 e
        have B2 : Ag c (L2.wipe σ vs) H2 (wipeD ρ vs) S' μ' G2 := ((A1.go (s'.trans s2) A2)).wipe vs
        refine Tg.ok B2 r2 e fun σ3 A3 hw => ⟨by rw [hw vs hv, wipe_wipe], ?_⟩
        obtain ⟨hp2, pm2, pg2⟩ := s2.stay hp' pm' pg'
        refine ht σ3 H2 ρ2 S' μ' G2 _ _ A3 q' fun z H3 S3 μ3 G3 s3 A4 q3 => ?_
        obtain ⟨hp3, pm3, pg3⟩ := s3.stay hp2 pm2 pg2
        cases z with
        | false =>
          rw [if_neg Bool.false_ne_true] at q3 ⊢
          exact ⟨S3, μ3, G3, acc, ys, n, A4.ag, (s'.trans s2).trans s3, pm3, pg3, hp3, (r'.go s2).go s3, hy, q3⟩
        | true =>
          rw [if_pos rfl] at q3 ⊢
          refine hi1 σ3 H3 ρ2 S3 μ3 G3 _ _ A4 q3 fun J1 H4 es ok1 S4 μ4 G4 s4 A5 it1 q4 => ?_
          obtain ⟨hl4, q4⟩ := q4
          obtain ⟨hp4, pm4, pg4⟩ := s4.stay hp3 pm3 pg3
          have s14 := ((s'.trans s2).trans s3).trans s4
          refine ⟨fun j k H5 => ∃ S5 μ5 G5 acc5 ys5, Ag0 c H5 S5 μ5 G5 ∧ Stp H1 μ1 G1 H5 μ5 G5 ∧ Ext μ4 G4 μ5 G5 ∧ p ∉ μ5 ∧ G5 p = none ∧ H5 p = some (.lst acc5) ∧ Reps c G5 μ5 acc5 ys5 ∧ ys5.length ≤ n + j ∧ j ≤ es.length ∧ k = es.length - j ∧
            compL tg1 ok1 ft1 fe vs1 ρ2 (es.drop j) S5 (fun us S6 => comp2L tg tg1 ok ft f1 ft1 fe vs vs1 ρ (n + es.length) (ds.drop (i + 1)) S6 fun zs S7 => Q (.lst (ys5 ++ (us ++ zs))) S7),
            ⟨es.length, S4, μ4, G4, acc, ys, A5.ag, s14, Ext.refl _ _, pm4, pg4, hp4, ((r'.go s2).go s3).go s4, by omega, Nat.zero_le _, rfl, ?_⟩, ?_⟩
          · simp only [List.drop_zero]
            exact q4
          · rintro j k5 H5 ⟨S5, μ5, G5, acc5, ys5, A6, s15, s45, pm5, pg5, hp5, r5, hy5, hj5, rfl, q5⟩
            by_cases hlt5 : j < es.length
            · rw [List.drop_eq_getElem_cons hlt5] at q5
              obtain ⟨o5, q5⟩ := q5
              refine .inr ⟨it1.go j H5 S5 μ5 G5 s45 A6 o5 hlt5, fun H6 => ∃ S6 μ6 G6 acc6 ys6, Ag0 c H6 S6 μ6 G6 ∧ Stp H1 μ1 G1 H6 μ6 G6 ∧ Ext μ4 G4 μ6 G6 ∧ p ∉ μ6 ∧ G6 p = none ∧ H6 p = some (.lst acc6) ∧ Reps c G6 μ6 acc6 ys6 ∧ ys6.length ≤ n + (j + 1) ∧
                compL tg1 ok1 ft1 fe vs1 ρ2 (es.drop (j + 1)) S6 (fun us S7 => comp2L tg tg1 ok ft f1 ft1 fe vs vs1 ρ (n + es.length) (ds.drop (i + 1)) S7 fun zs S8 => Q (.lst (ys6 ++ (us ++ zs))) S8), ?_, ?_⟩
              · rintro H6 ⟨S6, μ6, G6, acc6, ys6, A7, s16, s46, pm6, pg6, hp6, r6, hy6, q6⟩
                exact ⟨es.length - (j + 1), by omega, S6, μ6, G6, acc6, ys6, A7, s16, s46, pm6, pg6, hp6, r6, hy6, hlt5, rfl, q6⟩
              · intro x6 H6 y6
                obtain ⟨G6, d6, s56, A7, hd6, r6⟩ := it1.yld j H5 S5 μ5 G5 x6 H6 s45 A6 o5 hlt5 y6
                rw [List.getElem?_eq_getElem hlt5] at hd6
                cases hd6
                split at q5
                · rename_i ρ6 e6
                  have s16 := s15.trans s56
                  have B6 : Ag c (L2.wipe σ3 vs1) H6 (wipeD ρ2 vs1) S5 μ5 G6 := Ag.wipe ⟨A7, A3.len, fun i d h => let ⟨v, h1, h2⟩ := (A5.slot i d h); ⟨v, h1, h2.mono (s45.sg.trans s56.sg) (fun n a z => s56.mu n a (s45.mu n a z)) _ _⟩⟩ vs1
                  refine Tg.ok B6 r6 e6 fun σ7 A8 hw7 => ⟨by rw [hw7 vs1 hv1, wipe_wipe], ?_⟩
                  obtain ⟨hp6, pm6, pg6⟩ := s56.stay hp5 pm5 pg5
                  refine ht1 σ7 H6 ρ6 S5 μ5 G6 _ _ A8 q5 fun z H7 S7 μ7 G7 s7 A9 q7 => ?_
                  obtain ⟨hp7, pm7, pg7⟩ := s7.stay hp6 pm6 pg6
                  cases z with
                  | false =>
                    rw [if_neg Bool.false_ne_true] at q7 ⊢
                    exact ⟨S7, μ7, G7, acc5, ys5, A9.ag, s16.trans s7, s45.trans ((s56.trans s7).ext), pm7, pg7, hp7, (r5.go s56).go s7, by omega, q7⟩
                  | true =>
                    rw [if_pos rfl] at q7 ⊢
                    refine he σ7 H7 ρ6 S7 μ7 G7 _ _ A9 q7 fun v H8 d S8 μ8 G8 s8 A10 r8 q8 => ?_
                    obtain ⟨hp8, pm8, pg8⟩ := s8.stay hp7 pm7 pg7
                    obtain ⟨A11, s11⟩ := A1.ag.own A10.ag ((s16.trans s7).trans s8) (o := .lst (acc5 ++ [v])) np pm8 pg8
                    refine ⟨acc5, hp8, by rw [r5.length]; omega, S8, μ8, G8, acc5 ++ [v], ys5 ++ [d], A11, s11, s45.trans (((s56.trans s7).trans s8).ext), pm8, pg8, upd_same, (((r5.go s56).go s7).go s8).append (.one r8), by simp; omega, ?_⟩
                    simp only [List.append_assoc, List.singleton_append, List.cons_append]
                    exact q8
                · exact q5.elim
            · have e5 : j = es.length := by omega
              subst e5
              rw [List.drop_length] at q5
              have q6 := q5.2
              simp only [List.nil_append] at q6
              exact .inl ⟨it1.stop H5 S5 μ5 G5 s45 A6 q5.1, S5, μ5, G5, acc5, ys5, n + es.length, A6, s15, pm5, pg5, hp5, r5, hy5, q6⟩
      · exact q'.elim
  · have e : i = ds.length := by omega
    subst e
    rw [List.drop_length] at q'
    have q2 : Q (.lst (ys ++ [])) S' := q'.2
    rw [List.append_nil] at q2
    obtain ⟨A2, s2, sg⟩ := A1.ag.keep A' s' np pm' pg' hp'
    exact .inl ⟨it.stop H' S' μ' G' s'.ext A' q'.1, k _ H' _ S' μ' _ (s1.trans s2) (A1.go s2 A2) (.lst upd_same (r'.mono sg (fun _ _ h => h) _ _)) q2⟩
end
end DL
namespace DL
open PySem PySem.Spec PyProof.Rows L2
section
variable {X : Cx} {b : Bs} {c : Dc} {pos : Pos} {elt tgx iter tgx1 iter1 : Expr} {ifs ifs1 : List Expr} {scope : Scope} {own : List (Str × Nat)} {vs1 : List Nat} {f f1 : WI} {tg tg1 : Tg} {ft ft1 : WT} {fe : WE}
theorem de_lc2 (hc : X.calm = true) (hN : X.N.Nodup) (hv : ∀ i ∈ tg.slots, i ∈ own.map (·.2)) (hv1 : ∀ i ∈ tg1.slots, i ∈ vs1) (hv2 : ∀ i ∈ vs1, i ∈ own.map (·.2)) (hi : DI X b tgx iter f) (ok : BlkOk X.N X.env.scope scope own) (hg : Blk X scope fun Y => DG Y tgx tg) (ht : Blk X scope fun Y => DTs Y b ifs ft)
    (hi1 : Blk X scope fun Y => DI Y b tgx1 iter1 f1) (hg1 : Blk X scope fun Y => DG Y tgx1 tg1) (ht1 : Blk X scope fun Y => DTs Y b ifs1 ft1) (he : Blk X scope fun Y => DE Y b elt fe)
    (hs : ∀ x, foldedSetIterable iter X.env x = pure x := by intro _; rfl) (hs1 : ∀ env x, foldedSetIterable iter1 env x = pure x := by intro _ _; rfl) : DE X b (.ListComp elt [⟨tgx, iter, ifs, 0⟩, ⟨tgx1, iter1, ifs1, 0⟩] scope pos) (lc2W f tg ft f1 tg1 ft1 fe (own.map (·.2)) vs1) :=
  ⟨_, pe_lc2 (te := rdE (dc X b) fe) (tt := rdT (dc X b) ft) (wi1 := rdI (dc X b) f1) (tt1 := rdT (dc X b) ft1) hc hN hi.can ok hv2 hg (fun s H C cl fp => (ht s H C cl fp).pe) (fun s H C cl fp => (hi1 s H C cl fp).can) hg1 (fun s H C cl fp => (ht1 s H C cl fp).pe) (fun s H C cl fp => (he s H C cl fp).can) hs hs1,
    snd_lc2 hv hv1 sndI_can sndT_can sndI_can sndT_can sndE_can⟩
theorem ds_setLc2 (i : Nat) {y : Str} {py spos : Pos} (hc : X.calm = true) (hN : X.N.Nodup) (hv : ∀ i ∈ tg.slots, i ∈ own.map (·.2)) (hv1 : ∀ i ∈ tg1.slots, i ∈ vs1) (hv2 : ∀ i ∈ vs1, i ∈ own.map (·.2)) (hy : X.N[i]? = some y) (hyl : X.env.scope.names.lookup y = some .local)
    (hsw : swapsWith (.ListComp elt [⟨tgx, iter, ifs, 0⟩, ⟨tgx1, iter1, ifs1, 0⟩] scope pos) (some (.Name y py)) spos.line X.env = pure true) (hi : DI X b tgx iter f) (ok : BlkOk X.N X.env.scope scope own) (hg : Blk X scope fun Y => DG Y tgx tg) (ht : Blk X scope fun Y => DTs Y b ifs ft)
    (hi1 : Blk X scope fun Y => DI Y b tgx1 iter1 f1) (hg1 : Blk X scope fun Y => DG Y tgx1 tg1) (ht1 : Blk X scope fun Y => DTs Y b ifs1 ft1) (he : Blk X scope fun Y => DE Y b elt fe)
    (hs : ∀ x, foldedSetIterable iter X.env x = pure x := by intro _; rfl) (hs1 : ∀ env x, foldedSetIterable iter1 env x = pure x := by intro _ _; rfl) :
    DS X b (.Assign [.Name y py] (.ListComp elt [⟨tgx, iter, ifs, 0⟩, ⟨tgx1, iter1, ifs1, 0⟩] scope pos) spos) (asgW (.nm i) (lc2W f tg ft f1 tg1 ft1 fe (own.map (·.2)) vs1)) :=
  ⟨_, ps_setLc2 (te := rdE (dc X b) fe) (tt := rdT (dc X b) ft) (wi1 := rdI (dc X b) f1) (tt1 := rdT (dc X b) ft1) hc hN hy hyl hsw hi.can ok hv2 hg (fun s H C cl fp => (ht s H C cl fp).pe) (fun s H C cl fp => (hi1 s H C cl fp).can) hg1 (fun s H C cl fp => (ht1 s H C cl fp).pe) (fun s H C cl fp => (he s H C cl fp).can) hs hs1,
    snd_asg (tg := .nm i) (snd_lc2 hv hv1 sndI_can sndT_can sndI_can sndT_can sndE_can)⟩
end

/-! ### slices -/
abbrev WP := Rho → Store → (Option Int → Store → Prop) → Prop
def SndP (c : Dc) (t : TO) (f : WP) : Prop := ∀ (σ : L2.St) (H : Hp) (ρ : Rho) (S : Store) (μ : List Addr) (G : Hp) (Q : Option Int → Store → Prop) (R : Option Int → Hp → Prop), Ag c σ H ρ S μ G → f ρ S Q →
  (∀ o H' S' μ' G', Stp H μ G H' μ' G' → Ag c σ H' ρ S' μ' G' → Q o S' → R o H') → t σ H R
structure DP (X : Cx) (b : Bs) (e : Option Expr) (f : WP) : Prop where
  ex : ∃ t, PO X e t ∧ SndP (dc X b) t f
def noP : WP := fun _ S Q => Q none S
def soP (fe : WE) : WP := fun ρ S Q => fe ρ S fun d S1 => match d with
  | .int i => Q (some i) S1
  | _ => False
/-- the items xs[lo:hi] -/
def cutD (xs : List D) (lo hi : Option Int) : List D := (xs.drop (HT.sIx xs.length 0 lo)).take (HT.sIx xs.length xs.length hi - HT.sIx xs.length 0 lo)
def slW (fe : WE) (fl fh : WP) : WE := fun ρ S Q => fe ρ S fun d S1 => fl ρ S1 fun lo S2 => fh ρ S2 fun hi S3 => match d with
  | .str z => z.length ≤ sizeLine ∧ Q (.str (cutS z lo hi)) S3
  | .tup xs => ¬ (HT.sIx xs.length 0 lo = 0 ∧ HT.sIx xs.length xs.length hi = xs.length) ∧ Q (.tup (cutD xs lo hi)) S3
  | d => match lsqOf S3 d with
    | some xs => Q (.lst (cutD xs lo hi)) S3
    | none => False
section
variable {X : Cx} {b : Bs} {c : Dc} {pos : Pos} {e : Expr} {fe : WE} {lo hi : Option Expr} {fl fh : WP} {p2 : Pos}
theorem po0 : DP X b none noP := ⟨_, po_none, fun σ H ρ S μ G Q R A h k => k none H S μ G (Stp.refl _ _ _) A h⟩
theorem po1 (h : DE X b e fe) : DP X b (some e) (soP fe) := by
  obtain ⟨t, p, s⟩ := h.ex
  refine ⟨_, po_some p, fun σ H ρ S μ G Q R A h k => ?_⟩
  refine s σ H ρ S μ G _ _ A h fun v H1 d S1 μ1 G1 s1 A1 r1 q1 => ?_
  cases r1 with
  | int i => exact ⟨i, rfl, k (some i) H1 S1 μ1 G1 s1 A1 q1⟩
  | _ => exact q1.elim
theorem Reps.cutV {G : Hp} {μ : List Addr} {vs : List V} {ds : List D} (r : Reps c G μ vs ds) (lo hi : Option Int) : Reps c G μ (L2.cutV vs lo hi) (cutD ds lo hi) := by
  unfold L2.cutV cutD
  rw [r.length]
  exact (r.drop _).take _
theorem de_sl (he : DE X b e fe) (hl : DP X b lo fl) (hh : DP X b hi fh) : DE X b (.Subscript e (.Slice lo hi none p2) pos) (slW fe fl fh) := by
  obtain ⟨te, pe, se⟩ := he.ex
  obtain ⟨tl, pl, sl⟩ := hl.ex
  obtain ⟨th, ph, sh⟩ := hh.ex
  refine ⟨_, pe_slice (sl_str.or (sl_tup.or sl_list)) pe pl ph, fun σ H ρ S μ G Q R A h k => ?_⟩
  refine se σ H ρ S μ G _ _ A h fun v H1 d S1 μ1 G1 s1 A1 r1 q1 => ?_
  refine sl σ H1 ρ S1 μ1 G1 _ _ A1 q1 fun l H2 S2 μ2 G2 s2 A2 q2 => ?_
  refine sh σ H2 ρ S2 μ2 G2 _ _ A2 q2 fun u H3 S3 μ3 G3 s3 A3 q3 => ?_
  have s13 := (s1.trans s2).trans s3
  have r3 := (r1.go s2).go s3
  have lists : ∀ xs, lsqOf S3 d = some xs → Q (.lst (cutD xs l u)) S3 → (rSlS v l u H3 R ∨ (rSlT X.K v l u H3 R ∨ rSlL X.K v l u H3 R)) := by
    intro xs e q
    obtain ⟨a, ws, rfl, ha, r4⟩ := A3.ag.lsqR r3 e
    refine .inr (.inr ⟨a, ws, rfl, ha, fun p np => ?_⟩)
    obtain ⟨A4, s4⟩ := A3.ag.frz (o := .lst (L2.cutV ws l u)) np
    exact k _ _ _ S3 μ3 _ (s13.trans s4) (A3.go s4 A4) (A3.ag.frzL np (r4.cutV l u)) q
  split at q3
  · cases r3
    exact .inl ⟨_, rfl, q3.1, k _ H3 _ S3 μ3 G3 s13 A3 (.str _) q3.2⟩
  · rename_i xs
    obtain ⟨a, ws, rfl, ha, r4⟩ := A3.ag.tupR r3
    refine .inr (.inl ⟨a, ws, rfl, ha, by rw [r4.length]; exact q3.1, fun p np => ?_⟩)
    obtain ⟨A4, s4⟩ := A3.ag.frz (o := .tup (L2.cutV ws l u)) np
    exact k _ _ _ S3 μ3 _ (s13.trans s4) (A3.go s4 A4) (A3.ag.frzT np (r4.cutV l u)) q3.2
  · split at q3
    · rename_i xs e
      exact lists xs e q3
    · exact q3.elim
end

/-! ### a, b, c = e1, e2, e3 -/
def par3W (i j l : Nat) (fs : WA) : WS := fun Dd ρ S => fs ρ S fun ds S1 => match ds with
  | [x, y, z] => Dd.nx (((ρ.set i (some x)).set j (some y)).set l (some z)) S1
  | _ => False
section
variable {X : Cx} {b : Bs} {c : Dc} {pos : Pos}
theorem Reps.three' {G : Hp} {μ : List Addr} {vs : List V} {d e f : D} (r : Reps c G μ vs [d, e, f]) : ∃ u v w, vs = [u, v, w] ∧ Rep c G μ u d ∧ Rep c G μ v e ∧ Rep c G μ w f := by
  cases r with
  | cons h1 h2 => obtain ⟨v, w, rfl, h3, h4⟩ := h2.two'; exact ⟨_, _, _, rfl, h1, h3, h4⟩
theorem ds_par3 {i j l : Nat} {x y z : Str} {p q r : Expr} {fs : WA} {px py pz pt : Pos} {kt k2 : Nat} {pt2 : Pos} (hc : X.calm = true) (hN : X.N.Nodup) (hi : X.N[i]? = some x) (hj : X.N[j]? = some y) (hl : X.N[l]? = some z) (hij : i ≠ j) (hil : i ≠ l) (hjl : j ≠ l)
    (hx : X.env.scope.names.lookup x = some .local) (hy : X.env.scope.names.lookup y = some .local) (hz : X.env.scope.names.lookup z = some .local) (ha : DA X b [p, q, r] fs)
    (hw : swappedStores [.Tuple [.Name x px, .Name y py, .Name z pz] kt pt] (.Tuple [p, q, r] k2 pt2) X.env = pure (some [x, y, z]))
    (hs : swapsWithSole [.Tuple [.Name x px, .Name y py, .Name z pz] kt pt] (.Tuple [p, q, r] k2 pt2) pos.line X.env = pure false := by rfl) :
    DS X b (.Assign [.Tuple [.Name x px, .Name y py, .Name z pz] kt pt] (.Tuple [p, q, r] k2 pt2) pos) (par3W i j l fs) := by
  obtain ⟨t, p1, s⟩ := ha.ex
  refine ⟨_, ps_par3 hc hN hi hj hl hij hil hjl hx hy hz p1 hw hs, fun E Dd σ H ρ S μ G A w k => ?_⟩
  refine s σ H ρ S μ G _ _ A w fun vs H1 ds S1 μ1 G1 s1 A1 r1 q1 => ?_
  split at q1
  · obtain ⟨u, v, w', rfl, r2, r3, r4⟩ := r1.three'
    exact ⟨u, v, w', rfl, k.nx _ H1 _ S1 μ1 G1 s1 (((A1.set r2).set r3).set r4) q1⟩
  · exact q1.elim
end

/-! ### a def that is never called -/
def mNo : Mir := fun _ _ _ => False
def prv (m : Nat → Mir) : Nat → Mir
  | 0 => mNo
  | n + 1 => m n
theorem fn_never {P : Program} {w : World} {K : PySem.W.Frag} {mg : Str → Option Value} {base : Heap} {CX : CXT} {k : Nat} {f : Addr} {fd : FuncData} {ps : List Str} : FnOk P w K mg base CX k f fd ps (spD K mg mNo) :=
  ⟨fun vs H Q E h => by obtain ⟨_, _, _, _, _, _, _, h, _⟩ := h; exact h.elim, fun A outer s H args us vs Q E _ _ _ _ h => by obtain ⟨_, _, _, _, _, _, _, h, _⟩ := h; exact h.elim⟩

/-! ### sorted, of ints -/
def isSorted : List Int → Prop := fun ns => ns.Pairwise (· ≤ ·)
def wSorted : WC := fun ds S Q => match ds with
  | [x] => match lsqOf S x with
    | some xs => match intsOf xs with
      | some ns => ∀ ms : List Int, ms.Perm ns → ms.Pairwise (· ≤ ·) → Q (.lst (ms.map D.int)) S
      | none => False
    | none => False
  | _ => False
section
variable {X : Cx} {b : Bs} {c : Dc} {pos : Pos} {e : Expr} {es : List Expr} {fs : WA}
theorem c_sorted : SndC c (rSortedI c.K) wSorted := by
  intro H S μ G vs ds Q R A r h k
  unfold wSorted at h
  split at h
  · split at h
    · rename_i xs q
      split at h
      · rename_i ns q2
        obtain ⟨v, rfl, r1⟩ := r.one'
        obtain ⟨a, ws, rfl, ha, r2⟩ := A.lsqR r1 q
        rw [of_intsOf q2] at r2
        rw [r2.ints] at ha
        refine ⟨a, ns, rfl, ha, fun ms p hp hs np => ?_⟩
        obtain ⟨A2, s2⟩ := A.frz (o := .lst (ms.map V.int)) np
        exact k _ _ _ S μ _ s2 A2 (A.frzL np (Reps.of_ints ms)) (h ms hp hs)
      · exact h.elim
    · exact h.elim
  · exact h.elim
theorem de_sorted {p : Pos} (hc : X.calm = true) (hg : Gl X "sorted") (hm : X.mg "sorted" = none) (ha : DA X b (e :: es) fs) (he : starEach (e :: es) X.env = (false, eval e X.env) :: starEach es X.env := by rfl) (hpl : (backTo pos (starEach es X.env)).any (·.1) = false := by rfl) :
    DE X b (.Call (.Name "sorted" p) (e :: es) [] pos) (clW wSorted fs) := de_callB cr_sortedI c_sorted hg hm (by decide +kernel) ha (by decide) (by decide) he hpl
end
end DL
/-! DLs: transformers evaluated, statement by statement -/
namespace DL
open PySem PySem.Spec L2
abbrev D0 (S : Store) (Q : DQ) : DEnds := { nx := fun _ S' => exitQ S.length Q .non S', rt := exitQ S.length Q }
theorem sz0 : (0 : Nat) ≤ sizeLine := by decide
theorem sz1 : (1 : Nat) ≤ sizeLine := by decide
theorem sz2 : (2 : Nat) ≤ sizeLine := by decide
theorem sz3 : (3 : Nat) ≤ sizeLine := by decide
theorem sz4 : (4 : Nat) ≤ sizeLine := by decide
theorem szl {n : Nat} (h : n < 100000) : n < sizeLine := Nat.lt_of_lt_of_le h (by decide)
theorem sze {n : Nat} (h : n ≤ 100000) : n ≤ sizeLine := Nat.le_trans h (by decide)
theorem ite_d {p : Prop} [Decidable p] {A B : Prop} (h1 : p → A) (h2 : ¬ p → B) : if decide p = true then A else B := by
  by_cases h : p
  · rw [if_pos (decide_eq_true h)]; exact h1 h
  · rw [if_neg (by simp [h])]; exact h2 h
theorem ite_n {p : Prop} [Decidable p] {A B : Prop} (h1 : ¬ p → A) (h2 : p → B) : if (!decide p) = true then A else B := by
  by_cases h : p
  · rw [if_neg (by simp [h])]; exact h2 h
  · rw [if_pos (by simp [h])]; exact h1 h
/-- an expression's value, a test's answer -/
def EvE (fe : WE) (ρ : Rho) (S : Store) (d : D) : Prop := ∀ Q : DQ, Q d S → fe ρ S Q
def EvT (ft : WT) (ρ : Rho) (S : Store) (k : Bool) : Prop := ∀ Q : Bool → Store → Prop, Q k S → ft ρ S Q
section
variable {fe fa fb : WE} {ft fu : WT} {ρ : Rho} {S : Store} {d x y : D} {k j : Bool} {Dd : DEnds} {rest g h : WS} {i : Nat}
theorem seq_asg (he : EvE fe ρ S d) (q : rest Dd (ρ.set i (some d)) S) : seqW (asgW (.nm i) fe) rest Dd ρ S := he _ q
theorem seq_asgQ (he : fe ρ S fun d S' => rest Dd (ρ.set i (some d)) S') : seqW (asgW (.nm i) fe) rest Dd ρ S := he
theorem seq_par {i j : Nat} (ha : EvE fa ρ S x) (hb : EvE fb ρ S y) (q : rest Dd ((ρ.set i (some x)).set j (some y)) S) : seqW (parW i j (consW fa (consW fb nilW))) rest Dd ρ S := ha _ (hb _ q)
theorem seq_tup {is : List Nat} {ds : List D} (he : EvE fe ρ S (.tup ds)) (hl : ds.length = is.length) (q : rest Dd (puts is ds ρ) S) : seqW (asgW (.tp is) fe) rest Dd ρ S := by
  refine he _ ?_
  simp only [Tg.put, if_pos hl]
  exact q
theorem seq_new (q : rest Dd (ρ.set i (some (.loc S.length))) (S ++ .lst [] :: [])) : seqW (asgW (.nm i) (lstN nilW)) rest Dd ρ S := ⟨sz0, q⟩
theorem seq_if (ht : EvT ft ρ S k) (h1 : k = true → seqW g rest Dd ρ S) (h2 : k = false → seqW h rest Dd ρ S) : seqW (ifS ft g h) rest Dd ρ S := by
  refine ht _ ?_
  cases k with
  | true => exact h1 rfl
  | false => exact h2 rfl
theorem seq_nx (q : rest Dd ρ S) : seqW nxW rest Dd ρ S := q
theorem seq_seq (q : seqW g (seqW h rest) Dd ρ S) : seqW (seqW g h) rest Dd ρ S := q
theorem seq_ret (he : EvE fe ρ S d) (q : Dd.rt d S) : seqW (retW fe) rest Dd ρ S := he _ q
theorem ret_of (he : EvE fe ρ S d) (q : Dd.rt d S) : retW fe Dd ρ S := he _ q
theorem ret_Q (he : fe ρ S Dd.rt) : retW fe Dd ρ S := he
theorem seq_retQ (he : fe ρ S Dd.rt) : seqW (retW fe) rest Dd ρ S := he
theorem evt_and (h1 : EvT ft ρ S k) (h2 : k = true → EvT fu ρ S j) : EvT (andW ft fu) ρ S (k && j) := fun Q q => h1 _ (by
  cases k with
  | true => exact h2 rfl Q q
  | false => exact q)
theorem evt_or (h1 : EvT ft ρ S k) (h2 : k = false → EvT fu ρ S j) : EvT (orW ft fu) ρ S (k || j) := fun Q q => h1 _ (by
  cases k with
  | true => exact q
  | false => exact h2 rfl Q q)
theorem evt_not (h1 : EvT ft ρ S k) : EvT (notW ft) ρ S (!k) := fun Q q => h1 _ q
theorem eve_if (ht : EvT ft ρ S k) (h1 : k = true → EvE fa ρ S x) (h2 : k = false → EvE fb ρ S x) : EvE (ifW ft fa fb) ρ S x := fun Q q => ht _ (by
  cases k with
  | true => exact h1 rfl Q q
  | false => exact h2 rfl Q q)
/-- an if, added to a list of one's own -/
theorem seq_ifapp {S J : Store} {xs : List D} (ht : EvT ft ρ (S ++ .lst xs :: J) k) (h : lk ρ i = some (.loc S.length)) (hf : EvE fa ρ (S ++ .lst xs :: J) d) (hl : xs.length < sizeLine)
    (q : rest Dd ρ (S ++ .lst (xs ++ if k = true then [d] else []) :: J)) : seqW (ifS ft (dropW (appW (vW i) fa)) nxW) rest Dd ρ (S ++ .lst xs :: J) := by
  refine ht _ ?_
  cases k with
  | true => exact appW_top (Q := fun _ S1 => rest Dd ρ S1) h (fun Q' q' => hf Q' q') hl q
  | false =>
    have q' : rest Dd ρ (S ++ .lst (xs ++ []) :: J) := q
    rw [List.append_nil] at q'
    exact q'
theorem seq_app {S J : Store} {xs : List D} (h : lk ρ i = some (.loc S.length)) (hf : EvE fa ρ (S ++ .lst xs :: J) d) (hl : xs.length < sizeLine)
    (q : rest Dd ρ (S ++ .lst (xs ++ [d]) :: J)) : seqW (dropW (appW (vW i) fa)) rest Dd ρ (S ++ .lst xs :: J) :=
  appW_top (Q := fun _ S1 => rest Dd ρ S1) h (fun Q' q' => hf Q' q') hl q
/-! reading a list of one's own -/
theorem eve_len {S J : Store} {xs : List D} (h : lk ρ i = some (.loc S.length)) : EvE (clW wLen (consW (vW i) nilW)) ρ (S ++ .lst xs :: J) (.int xs.length) := fun Q q => by
  simp only [clW, consW, nilW, vW, h, wLen, seqOf, sto_get0]
  exact q
theorem eve_ix {S J : Store} {xs : List D} {n : Int} (h : lk ρ i = some (.loc S.length)) (hx : ixD xs n = some d) : EvE (opW wIx (vW i) (cW (.int n))) ρ (S ++ .lst xs :: J) d := fun Q q => by
  simp only [opW, cW, vW, h, wIx, seqOf, sto_get0, hx]
  exact q
theorem eve_eqnil {S J : Store} {xs : List D} {ps : List PyData} (h : lk ρ i = some (.loc S.length)) (hp : pysD (S ++ .lst xs :: J) xs = some ps) (hs : SeqAt.shaped (.list ps) = true) : EvE (opW wEq (vW i) (lstW nilW)) ρ (S ++ .lst xs :: J) (.bl xs.isEmpty) := fun Q q => by
  simp only [opW, lstW, nilW, vW, h, wEq, pyT, sto_get0, hp]
  refine ⟨sz0, hs, rfl, ?_⟩
  have e : PyData.eqv (.list ps) (.list []) = xs.isEmpty := by
    cases xs with
    | nil => simp only [pysD] at hp; cases hp; rfl
    | cons x xs =>
      simp only [pysD] at hp
      split at hp
      · cases hp; rfl
      · cases hp
  rw [e]
  exact q
end
end DL
/-! DLt: sorted(set(xs)) of a list of ints -/
namespace DL
open PySem PySem.Spec PyProof.Rows L2
/-- a set without members, just made -/
abbrev oSet (w : World) : Obj := { cls := .type "set", dict := none, data := .set #[] 0 (.fresh 0 0 (!w.params.followText "set-order")) }
section
variable {P : Program} {w : World} {A : Around} {E : Value → Shared → Prop} {s : Shared}
theorem set_ints_list {l : Addr} {its : Array Value} (ns : List Int) {Q : Value → Shared → Prop} (hd0 : A.handled = none) (L0 : s.heap.IsList l its) (I0 : IntsAre its.toList ns) (room : ns.length + 1 < scanBound)
    (go : ∀ (h' : Heap) (tk c : Nat), SetR w h' s.heap.objs.size (fun j => decide (j ∈ ns)) c → c ≤ ns.length → (∀ b o, s.heap.get? b = some o → h'.get? b = some o) → Q (.ref s.heap.objs.size) { s with heap := h', toks := tk }) :
    wpAny (model P w) A (call (.type "set") [.ref l]) Q E s := by
  have sz : its.size = ns.length := by
    have q := IntsAre.length I0
    rw [Array.length_toList] at q; exact q
  obtain ⟨c, tl, mro⟩ := F.called_set.mro
  have made := F.called_set.made
  have sub1 := F.called_set.sub
  refine wpAny_call (codeAny_of_tree ?_)
  show wpAny _ _ (callAny (.type "set") _) _ _ _
  refine wpAny_pure ⟨Code.quiet_builtin _ (by decide +kernel), codeAny_builtin F.entry_type_call ?_⟩
  rw [Around.under_plain (weight_type_call_type "set" [.ref l] []) rfl]
  have a1 := F.called_set.notType
  have a2 := F.called_set.canCreate
  have a3 := F.typeCall_set_1 (.ref l)
  repeat (any_goals (first | assumption | wp_step))
  refine codeAny_mono (code_set_led1 (.ref l) (E := E) (Q₁ := fun o1 s₁ => o1 = .ref s.heap.objs.size ∧ s₁ = { s with heap := s.heap.push (oSet w) }) ⟨rfl, rfl⟩) fun r s₁ hr => ?_
  cases r with
  | error e => exact hr
  | ok fl => cases fl with
    | ret o1 =>
      obtain ⟨rfl, rfl⟩ := hr
      have oS : (s.heap.push (oSet w)).get? s.heap.objs.size = some (oSet w) := Heap.get?_push_size _ rfl
      have tS : Shared.TypeIs { s with heap := s.heap.push (oSet w) } (.ref s.heap.objs.size) "set" := ⟨_, oS, rfl⟩
      have b1 := F.called_set.init.lookup
      have b2 := F.called_set.init.bind (.ref s.heap.objs.size)
      repeat (any_goals (first | assumption | wp_step))
      refine codeAny_mono (codeAny_call_builtin (R := wants (fun r s₂ => r = .none ∧ ∃ h' tk c, s₂ = { s with heap := h', toks := tk } ∧ SetR w h' s.heap.objs.size (fun j => decide (j ∈ ns)) c ∧ c ≤ ns.length ∧ ∀ b o, s.heap.get? b = some o → h'.get? b = some o) E)
        F.called_set.init.plain F.entry_set_init (check_set_init_1 tS ?_)) fun r2 s2 hr2 => ?_
      · obtain ⟨ol, hol, hcl, nl, hdl⟩ := L0
        obtain ⟨oc, od, odt, osl⟩ := ol
        simp only at hcl hdl
        subst hcl; subst hdl
        have hol2 : (s.heap.push (oSet w)).get? l = some { cls := .type "list", dict := od, data := .seq its nl, slots := osl } := Heap.get?_push_of_some _ hol
        have n1 := F.sub_list_set
        have n2 := F.sub_list_frozenset
        have n3 : (Value.type "list" == Value.type "dict") = false := by decide
        have L1 : (s.heap.push (oSet w)).IsList l its := ⟨_, hol2, rfl, nl, rfl⟩
        unfold Builtin.«set.__init__» noKeywords Builtin.Frozenset.updateFrom
        generalize hPI : pyIter = PI
        wp_walk
        subst hPI
        refine wpAny_pyIter_list L1 ?_
        refine wpAny_bind (wpAny_runValue ?_)
        have lS : l < s.heap.objs.size := Heap.lt_size hol
        have hd3 : A.in1.in1.in1.handled = none := by simp [hd0]
        have z1 : (s.heap.push (oSet w)).objs.size = s.heap.objs.size + 1 := Heap.size_push ..
        have neI : l ≠ (s.heap.push (oSet w)).objs.size := by
          rw [z1]; exact Nat.ne_of_lt (Nat.lt_succ_of_lt lS)
        have nSf : s.heap.objs.size ∉ [(s.heap.push (oSet w)).objs.size, l] := by
          rw [z1]
          simp only [List.mem_cons, List.mem_singleton, List.not_mem_nil, or_false, not_or]
          exact ⟨Nat.ne_of_lt (Nat.lt_succ_self _), Nat.ne_of_gt lS⟩
        have val : ∀ (i : Nat) (v : Value), its[i]? = some v → ∃ k t, ns[i]? = some k ∧ v = .int k t := by
          intro i v hv
          have hi : i < ns.length := by rw [← sz]; exact (Array.getElem?_eq_some_iff.mp hv).1
          obtain ⟨t, e⟩ := PyProof.Rows.IntsAre.int_at I0 i v (by rw [Array.getElem?_toList]; exact hv)
          exact ⟨ns[i], t, List.getElem?_eq_getElem hi, by rw [e, List.getD_eq_getElem?_getD, List.getElem?_eq_getElem hi] <;> rfl⟩
        refine set_update_ints ((Walks.list hd3 _ l neI its).toS) s.heap.objs.size nSf ns sz room val (its.size - 0) 0 _ (by omega) (Nat.zero_le _) ⟨⟨_, Heap.get?_push_size _ rfl, rfl, rfl⟩, (L1.push _)⟩ ?hS0 ?hR
        case hS0 => exact ⟨0, Nat.le_refl 0, setR_new_at (Heap.get?_push_of_some _ oS)⟩
        case hR =>
          intro s' c' hm hc' hS'
          obtain ⟨h', g2, d', tk', os'⟩ := s'
          have e1 : g2 = s.gens := hm.gens
          have e2 : d' = s.drawn := hm.drawn
          have e3 : os' = s.os := hm.os
          subst e1; subst e2; subst e3
          show wpAny _ _ _ _ _ _
          refine wpAny_pure ?_
          show wpAny _ _ (ret Value.none) _ _ _
          rw [sz] at hc'
          refine wpAny_pure ⟨rfl, h', tk', c', rfl, hS', hc', fun b o e => ?_⟩
          have q0 : b < s.heap.objs.size := Heap.lt_size e
          have q2 : b ≠ (s.heap.push (oSet w)).objs.size := by
            rw [z1]; exact Nat.ne_of_lt (Nat.lt_succ_of_lt q0)
          refine hm.heap b o (by
            simp only [List.mem_cons, List.mem_singleton, List.not_mem_nil, or_false, not_or]
            exact ⟨Nat.ne_of_lt q0, q2⟩) ?_
          exact Heap.get?_push_of_some _ (Heap.get?_push_of_some _ e)
      · cases r2 with
        | error e => exact hr2
        | ok fl2 => cases fl2 with
          | ret r =>
            obtain ⟨rfl, h', tk, c, rfl, hS', hc', hk⟩ := hr2
            repeat (any_goals (first | assumption | wp_step))
            exact go _ _ _ hS' hc' hk
          | _ => exact hr2.elim
    | _ => exact hr.elim
end

/-- set(xs), xs a list of ints -/
def rSetL (K : PySem.W.Frag) (w : World) : List V → Hp → VK → Prop := fun vs H Q => ∃ (l : Addr) (ns : List Int), vs = [V.ref l] ∧ SqL K H l (ns.map V.int) ∧ ns.length < 1000 ∧
  ∀ (p : Addr) (k : Nat), k ≤ ns.length → H p = none → Q (.ref p) (upd H p (SetO w p (fun j => decide (j ∈ ns)) k))
theorem cr_setL {X : Cx} (hc : X.calm = true) : CallR X (.type "set") (rSetL X.K X.w) := by
  intro pins s σ H vs us Q I r h
  obtain ⟨l, ns, rfl, hs, hn, q⟩ := h
  obtain ⟨its, rv, hl, hz⟩ := I.list hs
  rw [Vals.ref1 r]
  refine set_ints_list ns (I.ok.hd hc) hl.isList (by simpa using rv.ints) (by unfold scanBound; omega) fun h' tk k R1 hk kept => ?_
  exact ⟨.ref _, upd H s.heap.objs.size (SetO X.w s.heap.objs.size (fun j => decide (j ∈ ns)) k), I.laid (t' := tk) kept (Nat.le_refl _) (setO_new R1), rfl, q _ _ hk (I.hok.fresh (Nat.le_refl _))⟩
def wSortSet : WC := fun ds S Q => match ds with
  | [x] => match lsqOf S x with
    | some xs => match intsOf xs with
      | some ns => ns.length < 60 ∧ ∀ ms : List Int, ms.Pairwise (· < ·) → (∀ k, k ∈ ms ↔ k ∈ ns) → ms.length ≤ ns.length → Q (.lst (ms.map D.int)) S
      | none => False
    | none => False
  | _ => False
theorem de_sortset {X : Cx} {b : Bs} {e : Expr} {es : List Expr} {fs : WA} {p p2 q pos : Pos} (hc : X.calm = true) (hg : Gl X "sorted") (hm : X.mg "sorted" = none) (hg2 : Gl X "set") (hm2 : X.mg "set" = none) (ha : DA X b (e :: es) fs)
    (he : starEach (e :: es) X.env = (false, eval e X.env) :: starEach es X.env := by rfl) (hpl : (backTo q (starEach es X.env)).any (·.1) = false := by rfl)
    (he2 : starEach [Expr.Call (.Name "set" p2) (e :: es) [] q] X.env = (false, eval (Expr.Call (.Name "set" p2) (e :: es) [] q) X.env) :: starEach [] X.env := by rfl) (hpl2 : (backTo pos (starEach [] X.env)).any (·.1) = false := by rfl) :
    DE X b (.Call (.Name "sorted" p) [.Call (.Name "set" p2) (e :: es) [] q] [] pos) (clW wSortSet fs) := by
  obtain ⟨t, pt, st⟩ := ha.ex
  refine ⟨_, pe_callB (cr_sortedSet hc) hg hm (by decide +kernel) (pa_cons (pe_callTy (cr_setL hc) hg2 hm2 boot_set pt (by decide) (by decide) he hpl) pa_nil) (by decide) (by decide) he2 hpl2, ?_⟩
  intro σ H ρ S μ G Q R A h k
  refine st σ H ρ S μ G _ _ A h fun vs H1 ds S1 μ1 G1 s1 A1 r1 q1 => ?_
  unfold wSortSet at q1
  split at q1
  · split at q1
    · rename_i xs q2
      split at q1
      · rename_i ns q3
        obtain ⟨v, rfl, r2⟩ := r1.one'
        obtain ⟨a, ws, rfl, hl, r3⟩ := A1.ag.lsqR r2 q2
        rw [of_intsOf q3] at r3
        rw [r3.ints] at hl
        refine ⟨a, ns, rfl, hl, by omega, fun p1 k1 hk1 np1 => ?_⟩
        obtain ⟨A2, s2⟩ := A1.ag.frz (o := SetO X.w p1 (fun j => decide (j ∈ ns)) k1) np1
        refine ⟨p1, _, k1, rfl, upd_same .., by omega, fun ms p3 hs hm3 hml np3 => ?_⟩
        obtain ⟨A3, s3⟩ := A2.frz (o := .lst (ms.map V.int)) np3
        exact k _ _ _ S1 μ1 _ (s1.trans (s2.trans s3)) (A1.go (s2.trans s3) A3) (A2.frzL np3 (Reps.of_ints ms)) (q1.2 ms hs (fun k => by rw [hm3 k, decide_eq_true_eq]) (by omega))
      · exact q1.elim
    · exact q1.elim
  · exact q1.elim
end DL
/-! DLu: loops and comprehensions by what stays true; equality -/
namespace DL
open PySem PySem.Spec L2
theorem yes_go {ρ : Rho} {S : Store} {A B : Store → Prop} (h : A S) : yesW ρ S fun k S1 => if k = true then A S1 else B S1 := by
  show (if (true : Bool) = true then A S else B S)
  rw [if_pos rfl]
  exact h
section
variable {tg tg1 : Tg} {ok ok1 : Store → Prop} {ft ft1 : WT} {fe : WE} {vs vs1 : List Nat} {ρ : Rho} {S : Store} {wi1 : WI}
/-- a comprehension whose turns change no cell -/
theorem comp_pure (k : D → Bool) (f : D → D) : ∀ {xs : List D} {Q : List D → Store → Prop}, ok S → (∀ x ∈ xs, ∃ ρ', tg.put x (wipeD ρ vs) = some ρ' ∧ EvT ft ρ' S (k x) ∧ (k x = true → EvE fe ρ' S (f x))) →
    Q ((xs.filter k).map f) S → compL tg ok ft fe vs ρ xs S Q
  | [], Q, o, _, q => ⟨o, q⟩
  | x :: xs, Q, o, h, q => by
    obtain ⟨ρ', e, h1, h2⟩ := h x List.mem_cons_self
    refine ⟨o, ?_⟩
    rw [e]
    refine h1 _ ?_
    cases hk : k x with
    | true =>
      rw [if_pos rfl]
      refine h2 hk _ (comp_pure k f o (fun y hy => h y (List.mem_cons_of_mem _ hy)) ?_)
      rw [List.filter_cons_of_pos hk] at q
      exact q
    | false =>
      rw [if_neg Bool.false_ne_true]
      refine comp_pure k f o (fun y hy => h y (List.mem_cons_of_mem _ hy)) ?_
      rw [List.filter_cons_of_neg (by simp [hk])] at q
      exact q
theorem comp_yes (f : D → D) {xs : List D} {Q : List D → Store → Prop} (o : ok S) (h : ∀ x ∈ xs, ∃ ρ', tg.put x (wipeD ρ vs) = some ρ' ∧ EvE fe ρ' S (f x)) (q : Q (xs.map f) S) : compL tg ok yesW fe vs ρ xs S Q := by
  refine comp_pure (fun _ => true) f o (fun x hx => ?_) ?_
  · obtain ⟨ρ', e, h1⟩ := h x hx
    exact ⟨ρ', e, fun Q q => q, fun _ => h1⟩
  · rw [List.filter_eq_self.mpr (fun _ _ => rfl)]; exact q
/-- .. that may change cells: P of what is left, what is found -/
theorem comp_inv (P : List D → List D → Store → Prop) {Q : List D → Store → Prop}
    (step : ∀ x xs ys S, P (x :: xs) ys S → ok S ∧ ∃ ρ', tg.put x (wipeD ρ vs) = some ρ' ∧ ∀ Q' : DQ, (∀ y S2, P xs (ys ++ [y]) S2 → Q' y S2) → fe ρ' S Q') : ∀ (xs ys : List D) (S : Store), P xs ys S → (∀ zs S, P [] (ys ++ zs) S → ok S ∧ Q zs S) → compL tg ok yesW fe vs ρ xs S Q
  | [], ys, S, p, q => by
    have z := q [] S (by rwa [List.append_nil])
    exact ⟨z.1, z.2⟩
  | x :: xs, ys, S, p, q => by
    obtain ⟨o, ρ', e, h⟩ := step x xs ys S p
    refine ⟨o, ?_⟩
    rw [e]
    refine yes_go ?_
    refine h _ fun y S2 p2 => ?_
    exact comp_inv P (Q := fun zs S3 => Q (y :: zs) S3) step xs (ys ++ [y]) S2 p2 fun zs S3 p3 => q (y :: zs) S3 (by rwa [List.append_assoc] at p3)
/-- two clauses, no cell changed -/
theorem comp2_pure (es : D → List D) (f : D → D → D) : ∀ {xs : List D} {n : Nat} {Q : List D → Store → Prop}, ok S → n + (xs.flatMap es).length < 100000 →
    (∀ x ∈ xs, ∃ ρ', tg.put x (wipeD ρ vs) = some ρ' ∧ (∀ R : List D → (Store → Prop) → Store → Prop, R (es x) ok1 S → wi1 ρ' S R) ∧ ok1 S ∧ ∀ y ∈ es x, ∃ ρ'', tg1.put y (wipeD ρ' vs1) = some ρ'' ∧ EvE fe ρ'' S (f x y)) →
    Q (xs.flatMap fun x => (es x).map (f x)) S → comp2L tg tg1 ok yesW wi1 yesW fe vs vs1 ρ n xs S Q
  | [], n, Q, o, _, _, q => ⟨o, q⟩
  | x :: xs, n, Q, o, hl, h, q => by
    obtain ⟨ρ', e, h1, o1, h2⟩ := h x List.mem_cons_self
    rw [List.flatMap_cons, List.length_append] at hl
    refine ⟨o, ?_⟩
    rw [e]
    refine yes_go ?_
    refine h1 _ ⟨szl (by omega), comp_yes (f x) o1 h2 ?_⟩
    refine comp2_pure es f o (by omega) (fun y hy => h y (List.mem_cons_of_mem _ hy)) ?_
    rw [List.flatMap_cons] at q
    exact q
/-- a loop: P of what is left -/
theorem for_inv {body : WS} {Dd : DEnds} (P : List D → Rho → Store → Prop)
    (step : ∀ x xs ρ S, P (x :: xs) ρ S → ok S ∧ ∃ ρ', tg.put x ρ = some ρ' ∧ ∀ De : DEnds, (∀ ρ2 S2, P xs ρ2 S2 → De.nx ρ2 S2) → (∀ ρ2 S2, P xs ρ2 S2 → De.ct ρ2 S2) → De.bk = Dd.nx → De.rt = Dd.rt → body De ρ' S) :
    ∀ (xs : List D) (ρ : Rho) (S : Store), P xs ρ S → (∀ ρ S, P [] ρ S → ok S ∧ Dd.nx ρ S) → forL tg ok body xs Dd ρ S
  | [], ρ, S, p, q => q ρ S p
  | x :: xs, ρ, S, p, q => by
    obtain ⟨o, ρ', e, h⟩ := step x xs ρ S p
    refine ⟨o, ?_⟩
    rw [e]
    exact h _ (fun ρ2 S2 p2 => for_inv P step xs ρ2 S2 p2 q) (fun ρ2 S2 p2 => for_inv P step xs ρ2 S2 p2 q) rfl rfl
theorem while_inv {body : WS} {Dd : DEnds} (P : Nat → Rho → Store → Prop)
    (step : ∀ n ρ S, P n ρ S → ∀ De : DEnds, (∀ m ρ2 S2, m < n → P m ρ2 S2 → De.nx ρ2 S2) → (∀ m ρ2 S2, m < n → P m ρ2 S2 → De.ct ρ2 S2) → De.bk = Dd.nx → De.rt = Dd.rt → ∀ Q' : Bool → Store → Prop, (∀ S1, body De ρ S1 → Q' true S1) → (∀ S1, Dd.nx ρ S1 → Q' false S1) → ft ρ S Q')
    :
    ∀ (n : Nat) (ρ : Rho) (S : Store), P n ρ S → whileN ft body (n + 1) Dd ρ S := by
  have key : ∀ (k n : Nat) (ρ : Rho) (S : Store), n < k → P n ρ S → whileN ft body k Dd ρ S := by
    intro k
    induction k with
    | zero => intro n ρ S h; omega
    | succ k ih =>
      intro n ρ S h p
      unfold whileN
      refine step n ρ S p { Dd with nx := fun ρ2 S2 => whileN ft body k Dd ρ2 S2, ct := fun ρ2 S2 => whileN ft body k Dd ρ2 S2, bk := Dd.nx } (fun m ρ2 S2 hm p2 => ih m ρ2 S2 (by omega) p2) (fun m ρ2 S2 hm p2 => ih m ρ2 S2 (by omega) p2) rfl rfl _ (fun S1 h1 => ?_) fun S1 h1 => ?_
      · rw [if_pos rfl]; exact h1
      · rw [if_neg Bool.false_ne_true]; exact h1
  exact fun n ρ S p => key (n + 1) n ρ S (Nat.lt_succ_self _) p
end
section
variable {fa fb : WE} {ρ : Rho} {S : Store} {Q : DQ}
theorem wEq_int {i j : Int} (q : Q (.bl (decide (i = j))) S) : wEq (.int i) (.int j) S Q := ⟨rfl, rfl, q⟩
theorem wNe_int {i j : Int} (q : Q (.bl (!decide (i = j))) S) : wNe (.int i) (.int j) S Q := ⟨rfl, rfl, q⟩
end
end DL
/-! DLd: the laws' tape and draws -/
namespace DL
open PySem PySem.Spec L2
/-- a tape: its numbers, its seed -/
def tst (ns : List Int) (s : Int) : Store := [.lst (ns.map .int), .lst [.loc 0, .int s]]
def Tk (ns : List Int) (s : Int) : Prop := ns.length < 100000 ∧ (∀ n ∈ ns, 0 ≤ n) ∧ 0 ≤ s
def m_tape : Mir := fun ds S Q => match ds with
  | [.rol xs] => match intsOf xs with
    | some ns => ns.length < 100000 ∧ S = [] ∧ ∀ ns' s, Tk ns' s → Q (.loc 1) (tst ns' s)
    | none => False
  | _ => False
theorem l_tape (ds : List D) (S : Store) (Q : DQ) (h : m_tape ds S Q) : ds.length = 1 := by
  unfold m_tape at h
  split at h
  · rfl
  · exact h.elim
def m_draw : Mir := fun ds S Q => match ds with
  | [.loc 1, .int many] => 0 < many ∧ many < 1000000 ∧ ∃ ns s J, S = tst ns s ++ J ∧ Tk ns s ∧ ∀ r ns' s', 0 ≤ r → r < many → Tk ns' s' → Q (.int r) (tst ns' s' ++ J)
  | _ => False
theorem l_draw (ds : List D) (S : Store) (Q : DQ) (h : m_draw ds S Q) : ds.length = 2 := by
  unfold m_draw at h
  split at h
  · rfl
  · exact h.elim
def rowOf : D → Option (List D)
  | .tup ds => some ds
  | .lst ds => some ds
  | .rol ds => some ds
  | _ => none
theorem rowOf_seq {d : D} {xs : List D} (S : Store) (h : rowOf d = some xs) : seqOf S d = some xs := by
  cases d <;> first | exact h | cases h
def m_pick : Mir := fun ds S Q => match ds with
  | [.loc 1, row] => match rowOf row with
    | some xs => 0 < xs.length ∧ xs.length < 1000000 ∧ ∃ ns s J, S = tst ns s ++ J ∧ Tk ns s ∧ ∀ x ns' s', x ∈ xs → Tk ns' s' → Q x (tst ns' s' ++ J)
    | none => False
  | _ => False
theorem l_pick (ds : List D) (S : Store) (Q : DQ) (h : m_pick ds S Q) : ds.length = 2 := by
  unfold m_pick at h
  split at h
  · rfl
  · exact h.elim
/-- plain data, at most n tuples deep -/
def plD : Nat → D → Bool
  | _, .non => true
  | _, .bl _ => true
  | _, .int _ => true
  | _, .str z => SeqAt.shaped (.str z)
  | 0, .tup ds => ds.isEmpty
  | n + 1, .tup ds => ds.all (plD n) && decide (ds.length < 100000)
  | _, _ => false
def m_same (n : Nat) : Mir := fun ds S Q => match ds with
  | [x, y] => plD n x = true ∧ y = x ∧ Q (.bl true) S
  | _ => False
theorem l_same (n : Nat) (ds : List D) (S : Store) (Q : DQ) (h : m_same n ds S Q) : ds.length = 2 := by
  unfold m_same at h
  split at h
  · rfl
  · exact h.elim
def dg_tape : WS :=
    (seqW (asgW (.nm 1) (cW (.int 7)))
    (seqW (forW (sqI (vW 0)) (.nm 2) (asgW (.nm 1) (opW wMod (clW wInt (consW (opW wAdd (opW wMul (vW 1) (cW (.int 31))) (vW 2)) nilW)) (cW (.int 1000003)))))
    (retW (lstN (consW (lcN (sqI (vW 0)) (.nm 2) yesW (clW wAbs (consW (clW wInt (consW (vW 2) nilW)) nilW)) [2]) (consW (opW wAdd (vW 1) (cW (.int 1))) nilW))))))
def dg_draw : WS :=
    (seqW (asgW (.nm 2) (opW wIx (vW 0) (cW (.int 0))))
    (seqW (whileW (andW (tsW (opW wGt (clW wLen (consW (vW 2) nilW)) (cW (.int 0)))) (tsW (opW wEq (opW wIx (vW 2) (cW (.int 0))) (cW (.int 0))))) (dropW (popAtW (vW 2) (cW (.int 0)))))
    (seqW (ifS (tsW (opW wGt (clW wLen (consW (vW 2) nilW)) (cW (.int 0)))) (seqW (asgW (.nm 3) (opW wIx (vW 2) (cW (.int 0))))
    (seqW (putW (opW wDiv (vW 3) (vW 1)) (vW 2) (cW (.int 0)))
    (retW (opW wMod (clW wInt (consW (vW 3) nilW)) (vW 1))))) nxW)
    (seqW (putW (opW wMod (clW wInt (consW (opW wAdd (opW wMul (opW wIx (vW 0) (cW (.int 1))) (cW (.int 48271))) (cW (.int 12345))) nilW)) (cW (.int 2147483647))) (vW 0) (cW (.int 1)))
    (retW (opW wMod (clW wInt (consW (opW wDiv (opW wIx (vW 0) (cW (.int 1))) (cW (.int 64))) nilW)) (vW 1)))))))
def dg_pick : WS :=
    (retW (opW wIx (vW 1) (clW m_draw (consW (vW 0) (consW (clW wLen (consW (vW 1) nilW)) nilW)))))
def dg_same (n : Nat) : WS :=
    (seqW (ifS (tsW (opW wIs (vW 1) (cW .non))) (retW (opW wIs (vW 0) (cW .non))) nxW)
    (seqW (ifS (truW (clW wIsi (consW (vW 1) (consW (cW (.ty "bool")) nilW)))) (retW (andV (clW wIsi (consW (vW 0) (consW (cW (.ty "bool")) nilW))) (opW wEq (vW 0) (vW 1)))) nxW)
    (seqW (ifS (truW (clW wIsi (consW (vW 1) (consW (cW (.ty "tuple")) nilW)))) (seqW (ifS (orW (notW (truW (clW wIsi (consW (vW 0) (consW (cW (.ty "tuple")) nilW))))) (tsW (opW wNe (clW wLen (consW (vW 0) nilW)) (clW wLen (consW (vW 1) nilW))))) (retW (cW (.bl false))) nxW)
    (retW (clW wAll (consW (lcW (rgI1 (consW (clW wLen (consW (vW 1) nilW)) nilW)) (.nm 2) yesW (clW (prv m_same n) (consW (opW wIx (vW 0) (vW 2)) (consW (opW wIx (vW 1) (vW 2)) nilW))) [2]) nilW)))) nxW)
    (seqW (ifS (truW (clW wIsi (consW (vW 1) (consW (cW (.ty "str")) nilW)))) (retW (andV (clW wIsi (consW (vW 0) (consW (cW (.ty "str")) nilW))) (opW wEq (vW 0) (vW 1)))) nxW)
    (retW (andV (clW wIsi (consW (vW 0) (consW (cW (.ty "int")) nilW))) (andV (notV (clW wIsi (consW (vW 0) (consW (cW (.ty "bool")) nilW)))) (opW wEq (vW 0) (vW 1)))))))))
theorem cmul_r {i j : Int} (h1 : -(2 ^ 64) < j := by decide) (h2 : j < 2 ^ 64 := by decide) : CMul i j := .inr ⟨h1, h2⟩
theorem fmod_lo {i j : Int} (h : 0 < j) : 0 ≤ i.fmod j := Int.fmod_nonneg_of_pos i h
theorem fmod_hi {i j : Int} (h : 0 < j) : i.fmod j < j := Int.fmod_lt_of_pos i h
theorem sp_tape (ds : List D) (S : Store) (Q : DQ) (hS : S.all (Cell.blw S.length) = true) (h : m_tape ds S Q) : dg_tape (D0 S Q) (startD ["script", "seed", "cell"] ds) S := by
  unfold m_tape at h
  split at h
  · split at h
    · rename_i xs ns e
      obtain rfl := of_intsOf e
      obtain ⟨hl, rfl, q⟩ := h
      refine seq_asg (d := .int 7) (fun Q q => q) ?_
      show forL _ _ _ (ns.map .int) _ _ _
      refine for_inv (fun xs ρ S' => ∃ s c ms, xs = List.map D.int ms ∧ S' = [] ∧ ρ = [some (D.rol (ns.map .int)), some (.int s), c] ∧ 0 ≤ s) ?_ _ _ _ ⟨7, none, ns, rfl, rfl, rfl, by decide⟩ ?_
      · rintro x xs ρ S' ⟨s, c, ms, e, rfl, rfl, h0⟩
        cases ms with
        | nil => cases e
        | cons m ms =>
          cases e
          refine ⟨trivial, _, rfl, fun De h1 _ _ _ => ?_⟩
          refine ⟨cmul_r, (by decide : (1000003 : Int) ≠ 0), ?_⟩
          exact h1 _ _ ⟨_, _, ms, rfl, rfl, rfl, fmod_lo (by decide)⟩
      · rintro ρ S' ⟨s, c, ms, e, rfl, rfl, h0⟩
        refine ⟨trivial, ?_⟩
        show _ ∧ compL _ _ _ _ _ _ (ns.map .int) _ _
        refine ⟨szl (by simpa using hl), ?_⟩
        refine comp_yes (fun d => match d with | .int i => .int (if i < 0 then -i else i) | d => d) trivial ?_ ?_
        · intro x hx
          obtain ⟨n, _, rfl⟩ := List.mem_map.mp hx
          exact ⟨_, rfl, fun Q q => q⟩
        · refine ⟨sz2, .inl ?_⟩
          have e2 : (ns.map D.int).map (fun d => match d with | .int i => .int (if i < 0 then -i else i) | d => d) = (ns.map fun i => if i < 0 then -i else i).map D.int := by
            rw [List.map_map, List.map_map]; rfl
          rw [e2]
          refine q _ (s + 1) ⟨by simpa using hl, fun n hn => ?_, by omega⟩
          obtain ⟨i, _, rfl⟩ := List.mem_map.mp hn
          split <;> omega
    · exact h.elim
  · exact h.elim
theorem ix0 {n : Nat} (h : 0 < n) : ixN n 0 = some 0 := by
  unfold ixN
  rw [if_pos (by decide), if_pos (by omega)]; rfl
theorem sp_draw (ds : List D) (S : Store) (Q : DQ) (hS : S.all (Cell.blw S.length) = true) (h : m_draw ds S Q) : dg_draw (D0 S Q) (startD ["tape", "many", "cells", "number"] ds) S := by
  unfold m_draw at h
  split at h
  · rename_i many
    obtain ⟨h0, h1, ns0, s, J, rfl, ⟨k1, k2, k3⟩, q⟩ := h
    refine seq_asg (d := .loc 0) (fun Q q => q) ?_
    generalize hD : D0 (tst ns0 s ++ J) Q = Dd
    have hrt : ∀ r S', Q (.int r) S' → Dd.rt (.int r) S' := fun r S' q => by subst hD; exact .inl q
    clear hD
    refine ⟨ns0.length + 1, ?_⟩
    refine while_inv (fun n ρ S' => ∃ ns, n = ns.length ∧ ns.length < 100000 ∧ (∀ n ∈ ns, 0 ≤ n) ∧ ρ = [some (.loc 1), some (.int many), some (.loc 0), none] ∧ S' = tst ns s ++ J) ?_ _ _ _ ⟨ns0, rfl, k1, k2, rfl, rfl⟩
    rintro n ρ S' ⟨ns, rfl, j1, j2, rfl, rfl⟩ De e1 _ _ _ Q' hT hF
    have hF := hF (tst ns s ++ J)
    have hT := hT (tst ns s ++ J)
    cases ns with
    | nil =>
      refine hF ?_
      refine ⟨cmul_r, (by decide : (2147483647 : Int) ≠ 0), ?_⟩
      refine ⟨⟨by decide, by decide⟩, (by omega : many ≠ 0), ?_⟩
      refine hrt _ _ (q _ [] _ (fmod_lo h0) (fmod_hi h0) ⟨by decide, by simp, fmod_lo (by decide)⟩)
    | cons n ns =>
      have hn : 0 ≤ n := j2 n List.mem_cons_self
      have hl : (List.map D.int (n :: ns)).length < 100000 := by simpa using j1
      have hp : (0 : Int) < ((List.map D.int (n :: ns)).length : Nat) := by simp
      refine (if_pos (decide_eq_true hp)).mpr ?_
      refine ⟨rfl, rfl, ?_⟩
      show Q' (n == 0) _
      by_cases hz : n = 0
      · rw [hz, beq_self_eq_true]
        rw [hz] at hT
        refine hT ?_
        refine ⟨⟨by decide, by decide⟩, ?_⟩
        rw [ix0 (by simp)]
        exact e1 ns.length _ _ (Nat.lt_succ_self _) ⟨ns, rfl, by simp at j1; omega, fun m hm => j2 m (List.mem_cons_of_mem _ hm), rfl, rfl⟩
      · rw [beq_eq_false_iff_ne.mpr hz]
        refine hF ?_
        refine (if_pos (decide_eq_true hp)).mpr ?_
        refine ⟨⟨by omega, by omega⟩, ?_⟩
        show match ixN _ 0 with | some j => _ | none => False
        rw [ix0 (by simp)]
        refine ⟨(by omega : many ≠ 0), ?_⟩
        refine hrt _ _ (q _ (n.fdiv many :: ns) s (fmod_lo h0) (fmod_hi h0) ⟨by simpa using j1, fun m hm => ?_, k3⟩)
        rcases List.mem_cons.mp hm with rfl | hm
        · exact Int.fdiv_nonneg hn (by omega)
        · exact j2 m (List.mem_cons_of_mem _ hm)
  · exact h.elim
theorem sp_pick (ds : List D) (S : Store) (Q : DQ) (hS : S.all (Cell.blw S.length) = true) (h : m_pick ds S Q) : dg_pick (D0 S Q) (startD ["tape", "row"] ds) S := by
  unfold m_pick at h
  split at h
  · rename_i row
    split at h
    · rename_i xs e
      obtain ⟨h0, h1, ns, s, J, rfl, k, q⟩ := h
      have len : ∀ S' Q', Q' (.int xs.length) S' → wLen [row] S' Q' := fun S' Q' q' => by
        cases row <;> first | (cases e; exact q') | cases e
      show wLen [row] (tst ns s ++ J) fun d S2 => m_draw [.loc 1, d] S2 fun d2 S3 => wIx row d2 S3 (exitQ (tst ns s ++ J).length Q)
      refine len _ _ ?_
      refine ⟨by omega, by omega, ns, s, J, rfl, k, fun r ns' s' r0 r1 k' => ?_⟩
      have hr : r.toNat < xs.length := by omega
      have ix : ∀ S' Q', Q' xs[r.toNat] S' → wIx row (.int r) S' Q' := fun S' Q' q' => by
        have e3 : ixD xs r = some xs[r.toNat] := by
          unfold ixD
          rw [if_pos r0, List.getElem?_eq_getElem hr]
        cases row <;> first | (cases e; show (match ixD xs r with | some d => Q' d S' | none => False); rw [e3]; exact q') | cases e
      exact ix _ _ (.inl (q _ ns' s' (List.getElem_mem hr) k'))
    · exact h.elim
  · exact h.elim
theorem sp_same (n : Nat) (ds : List D) (S : Store) (Q : DQ) (hS : S.all (Cell.blw S.length) = true) (h : m_same n ds S Q) : dg_same n (D0 S Q) (startD ["actual", "due", "k"] ds) S := by
  unfold m_same at h
  split at h
  · rename_i x y
    obtain ⟨hp, e, q⟩ := h
    subst e
    cases y with
    | non => exact .inl q
    | bl b => cases b <;> exact ⟨rfl, rfl, .inl q⟩
    | int i =>
      refine ⟨rfl, rfl, .inl ?_⟩
      show Q (.bl (i == i)) S
      rw [beq_self_eq_true]; exact q
    | str z =>
      have hz : SeqAt.shaped (.str z) = true := by
        cases n <;> exact hp
      refine ⟨hz, hz, .inl ?_⟩
      show Q (.bl (z == z)) S
      rw [beq_self_eq_true]; exact q
    | tup xs =>
      have hl : xs.length < 100000 := by
        cases n with
        | zero =>
          have z : xs = [] := List.isEmpty_iff.mp hp
          subst z; decide
        | succ n =>
          have z : (xs.all (plD n) && decide (xs.length < 100000)) = true := hp
          rw [Bool.and_eq_true] at z
          exact of_decide_eq_true z.2
      refine ⟨rfl, rfl, ?_⟩
      show (if (!((xs.length : Int) == (xs.length : Int))) = true then _ else _)
      rw [beq_self_eq_true, if_neg (by decide)]
      refine ⟨by omega, by omega, ?_⟩
      refine ⟨szl (by rw [rngD_length]; omega), ?_⟩
      refine comp_yes (fun _ => .bl true) trivial ?_ ?_
      · intro x hx
        obtain ⟨i, hi, rfl⟩ := List.mem_map.mp hx
        have hi' : i < xs.length := by simpa using List.mem_range.mp hi
        refine ⟨_, rfl, fun Q' q' => ?_⟩
        have e3 : ixD xs (0 + (i : Int)) = some xs[i] := by
          unfold ixD
          rw [if_pos (by omega), show ((0 : Int) + (i : Int)).toNat = i by omega, List.getElem?_eq_getElem hi']
        show (match ixD xs (0 + (i : Int)) with | some d => _ | none => False)
        rw [e3]
        show (match ixD xs (0 + (i : Int)) with | some d => _ | none => False)
        rw [e3]
        cases n with
        | zero =>
          have z : xs = [] := List.isEmpty_iff.mp hp
          subst z; exact absurd hi' (Nat.not_lt_zero _)
        | succ n =>
          have z : (xs.all (plD n) && decide (xs.length < 100000)) = true := hp
          rw [Bool.and_eq_true] at z
          exact ⟨List.all_eq_true.mp z.1 _ (List.getElem_mem hi'), rfl, q'⟩
      · show wAll [.lst _] S _
        have e4 : (rngD 0 xs.length).map (fun _ => D.bl true) = ((rngD 0 xs.length).map fun _ => true).map D.bl := by rw [List.map_map]; rfl
        have e5 : (xs.length : Int).toNat = xs.length := by omega
        rw [e5, e4]
        show (match blsOf (((rngD 0 xs.length).map fun _ => true).map D.bl) with | some bs => _ | _ => False)
        rw [blsOf_map]
        show exitQ S.length Q (.bl (((rngD 0 xs.length).map fun _ => true).all id)) S
        have e6 : ((rngD 0 xs.length).map fun _ => true).all id = true := by simp
        rw [e6]
        exact .inl q
    | _ => cases n <;> cases hp
  · exact h.elim
end DL
/-! DLv: values of expressions -/
namespace DL
open PySem PySem.Spec L2
section
variable {ρ : Rho} {S : Store} {fe fa fb fc : WE} {ft : WT} {x y d : D} {i : Nat} {k j : Bool} {m n : Int}
theorem ev_v (h : lk ρ i = some d) : EvE (vW i) ρ S d := fun Q q => by
  unfold vW; rw [h]; exact q
theorem ev_c : EvE (cW d) ρ S d := fun Q q => q
theorem ev_op {w : W2} (h1 : EvE fa ρ S x) (h2 : EvE fb ρ S y) (h : ∀ Q : DQ, Q d S → w x y S Q) : EvE (opW w fa fb) ρ S d := fun Q q => h1 _ (h2 _ (h _ q))
theorem ev_neg (h1 : EvE fa ρ S (.int n)) : EvE (unW wNeg fa) ρ S (.int (-n)) := fun Q q => h1 _ q
theorem ev_add (h1 : EvE fa ρ S (.int m)) (h2 : EvE fb ρ S (.int n)) : EvE (opW wAdd fa fb) ρ S (.int (m + n)) := fun Q q => h1 _ (h2 _ q)
theorem ev_sub (h1 : EvE fa ρ S (.int m)) (h2 : EvE fb ρ S (.int n)) : EvE (opW wSub fa fb) ρ S (.int (m - n)) := fun Q q => h1 _ (h2 _ q)
theorem ev_mul (h1 : EvE fa ρ S (.int m)) (h2 : EvE fb ρ S (.int n)) (c : CMul m n) : EvE (opW wMul fa fb) ρ S (.int (m * n)) := fun Q q => h1 _ (h2 _ ⟨c, q⟩)
theorem ev_div (h1 : EvE fa ρ S (.int m)) (h2 : EvE fb ρ S (.int n)) (c : CDivN m n) : EvE (opW wDiv fa fb) ρ S (.int (m.fdiv n)) := fun Q q => h1 _ (h2 _ ⟨c, q⟩)
theorem ev_mod (h1 : EvE fa ρ S (.int m)) (h2 : EvE fb ρ S (.int n)) (c : n ≠ 0) : EvE (opW wMod fa fb) ρ S (.int (m.fmod n)) := fun Q q => h1 _ (h2 _ ⟨c, q⟩)
theorem ev_lt (h1 : EvE fa ρ S (.int m)) (h2 : EvE fb ρ S (.int n)) : EvE (opW wLt fa fb) ρ S (.bl (decide (m < n))) := fun Q q => h1 _ (h2 _ q)
theorem ev_le (h1 : EvE fa ρ S (.int m)) (h2 : EvE fb ρ S (.int n)) : EvE (opW wLe fa fb) ρ S (.bl (decide (m ≤ n))) := fun Q q => h1 _ (h2 _ q)
theorem ev_gt (h1 : EvE fa ρ S (.int m)) (h2 : EvE fb ρ S (.int n)) : EvE (opW wGt fa fb) ρ S (.bl (decide (n < m))) := fun Q q => h1 _ (h2 _ q)
theorem ev_ge (h1 : EvE fa ρ S (.int m)) (h2 : EvE fb ρ S (.int n)) : EvE (opW wGe fa fb) ρ S (.bl (decide (n ≤ m))) := fun Q q => h1 _ (h2 _ q)
theorem ev_eq (h1 : EvE fa ρ S (.int m)) (h2 : EvE fb ρ S (.int n)) : EvE (opW wEq fa fb) ρ S (.bl (decide (m = n))) := fun Q q => h1 _ (h2 _ (wEq_int q))
theorem ev_ne (h1 : EvE fa ρ S (.int m)) (h2 : EvE fb ρ S (.int n)) : EvE (opW wNe fa fb) ρ S (.bl (!decide (m = n))) := fun Q q => h1 _ (h2 _ (wNe_int q))
theorem ev_isn (h1 : EvE fa ρ S x) : EvE (opW wIs fa (cW .non)) ρ S (.bl x.isNon) := fun Q q => h1 _ q
theorem ev_isnn (h1 : EvE fa ρ S x) : EvE (opW wIsnt fa (cW .non)) ρ S (.bl (!x.isNon)) := fun Q q => h1 _ q
theorem ev_isb (h1 : EvE fa ρ S (.bl k)) : EvE (opW wIs fa (cW (.bl j))) ρ S (.bl (decide (k = j))) := fun Q q => h1 _ q
theorem ev_tix {xs : List D} (h1 : EvE fa ρ S (.tup xs)) (h : ixD xs n = some d) : EvE (opW wIx fa (cW (.int n))) ρ S d := fun Q q => h1 _ (by
  show (match ixD xs n with | some d => Q d S | none => False)
  rw [h]; exact q)
theorem ev_lix {xs : List D} (h1 : EvE fa ρ S (.lst xs)) (h2 : EvE fb ρ S (.int n)) (h : ixD xs n = some d) : EvE (opW wIx fa fb) ρ S d := fun Q q => h1 _ (h2 _ (by
  show (match ixD xs n with | some d => Q d S | none => False)
  rw [h]; exact q))
theorem evt_ts (h : EvE fe ρ S (.bl k)) : EvT (tsW fe) ρ S k := fun Q q => h _ q
theorem evt_tru (h : EvE fe ρ S (.bl k)) : EvT (truW fe) ρ S k := fun Q q => h _ q
theorem ev_not (h : EvE fe ρ S (.bl k)) : EvE (notV fe) ρ S (.bl (!k)) := fun Q q => h _ q
theorem ev_and (h1 : EvE fa ρ S (.bl k)) (h2 : k = true → EvE fb ρ S (.bl j)) : EvE (andV fa fb) ρ S (.bl (k && j)) := fun Q q => h1 _ (by
  cases k with
  | true => exact h2 rfl Q q
  | false => exact q)
theorem ev_or (h1 : EvE fa ρ S (.bl k)) (h2 : k = false → EvE fb ρ S (.bl j)) : EvE (orV fa fb) ρ S (.bl (k || j)) := fun Q q => h1 _ (by
  cases k with
  | true => exact q
  | false => exact h2 rfl Q q)
theorem ev_tup2 (h1 : EvE fa ρ S x) (h2 : EvE fb ρ S y) : EvE (tupW (consW fa (consW fb nilW))) ρ S (.tup [x, y]) := fun Q q => h1 _ (h2 _ ⟨sz2, q⟩)
theorem ev_abs (h1 : EvE fa ρ S (.int n)) : EvE (clW wAbs (consW fa nilW)) ρ S (.int (if n < 0 then -n else n)) := fun Q q => h1 _ q
theorem ev_min2 (h1 : EvE fa ρ S (.int m)) (h2 : EvE fb ρ S (.int n)) : EvE (clW wMin (consW fa (consW fb nilW))) ρ S (.int (if n < m then n else m)) := fun Q q => h1 _ (h2 _ q)
theorem ev_max2 (h1 : EvE fa ρ S (.int m)) (h2 : EvE fb ρ S (.int n)) : EvE (clW wMax (consW fa (consW fb nilW))) ρ S (.int (if m < n then n else m)) := fun Q q => h1 _ (h2 _ q)
theorem ev_all {bs : List Bool} (h1 : EvE fa ρ S (.lst (bs.map .bl))) : EvE (clW wAll (consW fa nilW)) ρ S (.bl (bs.all id)) := fun Q q => h1 _ (by
  show (match blsOf (bs.map D.bl) with | some bs => Q (.bl (bs.all id)) S | _ => False)
  rw [blsOf_map]; exact q)
theorem ev_any {bs : List Bool} (h1 : EvE fa ρ S (.lst (bs.map .bl))) : EvE (clW wAny (consW fa nilW)) ρ S (.bl (bs.any id)) := fun Q q => h1 _ (by
  show (match blsOf (bs.map D.bl) with | some bs => Q (.bl (bs.any id)) S | _ => False)
  rw [blsOf_map]; exact q)
end
/-! calls that may change the store -/
section
variable {ρ : Rho} {S : Store} {fe fa fb fc : WE} {ft fu : WT} {x y z : D} {w : WC} {w2 : W2} {Q : DQ} {R : Bool → Store → Prop} {g h rest : WS} {Dd : DEnds}
theorem q_call1 (h1 : EvE fa ρ S x) (q : w [x] S Q) : clW w (consW fa nilW) ρ S Q := h1 _ q
theorem q_call2 (h1 : EvE fa ρ S x) (h2 : EvE fb ρ S y) (q : w [x, y] S Q) : clW w (consW fa (consW fb nilW)) ρ S Q := h1 _ (h2 _ q)
theorem q_call3 (h1 : EvE fa ρ S x) (h2 : EvE fb ρ S y) (h3 : EvE fc ρ S z) (q : w [x, y, z] S Q) : clW w (consW fa (consW fb (consW fc nilW))) ρ S Q := h1 _ (h2 _ (h3 _ q))
theorem q_opl (h2 : ∀ S1, EvE fb ρ S1 y) (q : fa ρ S fun x S1 => w2 x y S1 Q) (mono : ∀ P P' : DQ, (∀ d S, P d S → P' d S) → fa ρ S P → fa ρ S P') : opW w2 fa fb ρ S Q := mono _ _ (fun x S1 q => h2 S1 _ q) q
theorem q_opr (h1 : EvE fa ρ S x) (q : fb ρ S fun y S1 => w2 x y S1 Q) : opW w2 fa fb ρ S Q := h1 _ q
theorem q_or (h1 : EvT ft ρ S false) (q : fu ρ S R) : orW ft fu ρ S R := h1 _ q
theorem q_nottru (q : fe ρ S fun x S1 => match truD S1 x with | some k => R (!k) S1 | none => False) : notW (truW fe) ρ S R := q
theorem q_tru (q : fe ρ S fun x S1 => match truD S1 x with | some k => R k S1 | none => False) : truW fe ρ S R := q
theorem seq_ifQ (q : ft ρ S fun k S1 => if k = true then seqW g rest Dd ρ S1 else seqW h rest Dd ρ S1) : seqW (ifS ft g h) rest Dd ρ S := q
end
/-! walks -/
def WIv (wi : WI) (ρ : Rho) (S : Store) (xs : List D) : Prop := ∀ R : List D → (Store → Prop) → Store → Prop, R xs (fun _ => True) S → wi ρ S R
theorem wiv_l {ρ : Rho} {S : Store} {fe : WE} {xs : List D} (h : EvE fe ρ S (.lst xs)) : WIv (sqI fe) ρ S xs := fun R r => h _ r
theorem wiv_t {ρ : Rho} {S : Store} {fe : WE} {xs : List D} (h : EvE fe ρ S (.tup xs)) : WIv (sqI fe) ρ S xs := fun R r => h _ r
theorem wiv_r1 {ρ : Rho} {S : Store} {fe : WE} {n : Int} (h : EvE fe ρ S (.int n)) (h1 : -(2 ^ 62) ≤ n) (h2 : n < 2 ^ 62) : WIv (rgI1 (consW fe nilW)) ρ S (rngD 0 n.toNat) := fun R r => h _ ⟨h1, h2, r⟩
theorem wiv_r2 {ρ : Rho} {S : Store} {fa fb : WE} {m n : Int} (h : EvE fa ρ S (.int m)) (h' : EvE fb ρ S (.int n)) (h1 : -(2 ^ 62) ≤ m) (h2 : m < 2 ^ 62) (h3 : -(2 ^ 62) ≤ n) (h4 : n < 2 ^ 62) : WIv (rgI2 (consW fa (consW fb nilW))) ρ S (rngD m (n - m).toNat) := fun R r => h _ (h' _ ⟨⟨h1, h2, h3, h4⟩, r⟩)
theorem seq_for {wi : WI} {ρ : Rho} {S : Store} {xs : List D} {tg : Tg} {body rest : WS} {Dd : DEnds} (h : WIv wi ρ S xs) (q : forL tg (fun _ => True) body xs { Dd with nx := rest Dd } ρ S) : seqW (forW wi tg body) rest Dd ρ S := h _ q
/-- the ints of a range -/
def rng (lo : Int) (n : Nat) : List Int := (List.range n).map fun (i : Nat) => lo + (i : Int)
theorem rngD_eq (lo : Int) (n : Nat) : rngD lo n = (rng lo n).map .int := by
  unfold rng
  rw [List.map_map]; rfl
theorem rng_len (lo : Int) (n : Nat) : (rng lo n).length = n := by unfold rng; simp
theorem mem_rng {lo : Int} {n : Nat} {x : Int} : x ∈ rng lo n ↔ lo ≤ x ∧ x < lo + n := by
  unfold rng
  simp only [List.mem_map, List.mem_range]
  constructor
  · rintro ⟨i, h, rfl⟩; omega
  · intro h; exact ⟨(x - lo).toNat, by omega, by omega⟩
/-- [e for i in xs if t], ints, ints -/
theorem ev_lcI {wi : WI} {ρ : Rho} {S : Store} {i : Nat} {vs : List Nat} {ft : WT} {fe : WE} {ns : List Int} (k : Int → Bool) (f : Int → D) (hw : WIv wi ρ S (ns.map .int)) (hl : ns.length < 100000)
    (h : ∀ n ∈ ns, EvT ft ((wipeD ρ vs).set i (some (.int n))) S (k n) ∧ (k n = true → EvE fe ((wipeD ρ vs).set i (some (.int n))) S (f n))) : EvE (lcW wi (.nm i) ft fe vs) ρ S (.lst ((ns.filter k).map f)) := by
  intro Q q
  refine hw _ ⟨szl (by rw [List.length_map]; exact hl), ?_⟩
  refine comp_pure (fun d => match d with | .int n => k n | _ => false) (fun d => match d with | .int n => f n | d => d) trivial ?_ ?_
  · intro x hx
    obtain ⟨n, hn, rfl⟩ := List.mem_map.mp hx
    exact ⟨_, rfl, h n hn⟩
  · have e : ((ns.map D.int).filter fun d => match d with | .int n => k n | _ => false).map (fun d => match d with | .int n => f n | d => d) = (ns.filter k).map f := by
      rw [List.filter_map, List.map_map]; rfl
    rw [e]; exact q
theorem ev_lcIy {wi : WI} {ρ : Rho} {S : Store} {i : Nat} {vs : List Nat} {fe : WE} {ns : List Int} (f : Int → D) (hw : WIv wi ρ S (ns.map .int)) (hl : ns.length < 100000)
    (h : ∀ n ∈ ns, EvE fe ((wipeD ρ vs).set i (some (.int n))) S (f n)) : EvE (lcW wi (.nm i) yesW fe vs) ρ S (.lst (ns.map f)) := by
  have g := ev_lcI (ft := yesW) (fun _ => true) f hw hl fun n hn => ⟨fun Q q => q, fun _ => h n hn⟩
  rwa [List.filter_eq_self.mpr (fun _ _ => rfl)] at g
/-! lists of ints against [] -/
theorem pysD_ints (S : Store) : ∀ ns : List Int, pysD S (ns.map .int) = some (ns.map .int)
  | [] => rfl
  | n :: ns => by
    show (match pyD S (.int n), pysD S (ns.map .int) with | some p, some ps => some (p :: ps) | _, _ => none) = _
    rw [pysD_ints S ns]; rfl
theorem lay_all : ∀ {ps : List PyData}, (∀ p ∈ ps, p.canLay0 = true ∧ p.depth ≤ 63) → PyData.canLayAll0 ps = true ∧ PyData.depthAll ps ≤ 63
  | [], _ => ⟨rfl, by decide⟩
  | p :: ps, h => by
    have h1 := h p List.mem_cons_self
    have h2 := lay_all fun q hq => h q (List.mem_cons_of_mem _ hq)
    refine ⟨?_, ?_⟩
    · rw [PyData.canLayAll0, h1.1, h2.1]; rfl
    · rw [PyData.depthAll]; exact Nat.max_le.mpr ⟨h1.2, h2.2⟩
theorem shaped_list {ps : List PyData} (h : ∀ p ∈ ps, p.canLay0 = true ∧ p.depth ≤ 63) : SeqAt.shaped (.list ps) = true := by
  have q := lay_all h
  unfold SeqAt.shaped
  rw [PyData.canLay0, q.1, PyData.depth]
  simp only [Bool.true_and, decide_eq_true_eq]
  omega
theorem shaped_ints (ns : List Int) : SeqAt.shaped (.list (ns.map .int)) = true := shaped_list fun p hp => by
  obtain ⟨n, _, rfl⟩ := List.mem_map.mp hp
  exact ⟨by rw [PyData.canLay0], by rw [PyData.depth]; omega⟩
theorem eqv_nil : ∀ ps : List PyData, PyData.eqv (.list ps) (.list []) = ps.isEmpty
  | [] => rfl
  | _ :: _ => rfl
section
variable {ρ : Rho} {S : Store} {fe : WE} {ns : List Int}
theorem pyT_ints (S : Store) (ns : List Int) : pyT S (.lst (ns.map .int)) = some (.list (ns.map .int)) := by
  show (match pysD S (ns.map .int) with | some ps => some (PyData.list ps) | none => none) = _
  rw [pysD_ints]
theorem ev_eqnil (h : EvE fe ρ S (.lst (ns.map .int))) : EvE (opW wEq fe (lstW nilW)) ρ S (.bl ns.isEmpty) := fun Q q => h _ ⟨sz0, by
  show (match pyT S (.lst (ns.map .int)), pyT S (.lst []) with | some p, some q => SeqAt.shaped p = true ∧ SeqAt.shaped q = true ∧ Q (.bl (PyData.eqv p q)) S | _, _ => False)
  rw [pyT_ints]
  refine ⟨shaped_ints ns, rfl, ?_⟩
  rw [eqv_nil, List.isEmpty_map]; exact q⟩
theorem ev_nenil (h : EvE fe ρ S (.lst (ns.map .int))) : EvE (opW wNe fe (lstW nilW)) ρ S (.bl (!ns.isEmpty)) := fun Q q => h _ ⟨sz0, by
  show (match pyT S (.lst (ns.map .int)), pyT S (.lst []) with | some p, some q => SeqAt.shaped p = true ∧ SeqAt.shaped q = true ∧ Q (.bl (!PyData.eqv p q)) S | _, _ => False)
  rw [pyT_ints]
  refine ⟨shaped_ints ns, rfl, ?_⟩
  rw [eqv_nil, List.isEmpty_map]; exact q⟩
theorem inD_ints (n : Int) (ns : List Int) : inD (.int n) (ns.map .int) = ns.any fun k => k == n := by
  induction ns with
  | nil => rfl
  | cons m ns ih => rw [List.map_cons, List.any_cons, ← ih]; rfl
theorem flt_ints (ns : List Int) : (ns.map D.int).all D.flt = true := by
  induction ns with
  | nil => rfl
  | cons m ns ih => rw [List.map_cons, List.all_cons, ih]; rfl
theorem ev_in {n : Int} {fa fb : WE} (h1 : EvE fa ρ S (.int n)) (h2 : EvE fb ρ S (.lst (ns.map .int))) : EvE (opW (wIn false) fa fb) ρ S (.bl (ns.any fun k => k == n)) := fun Q q => h1 _ (h2 _ (by
  refine ⟨rfl, flt_ints ns, ?_⟩
  show Q (.bl (inD (.int n) (ns.map .int))) S
  rw [inD_ints]; exact q))
end
theorem ixD_last {a : D} {xs : List D} : ixD (xs ++ [a]) (-1) = some a := by
  have e : (xs ++ [a]).length = xs.length + 1 := by simp
  unfold ixD
  rw [if_neg (by decide), if_pos (by rw [e]; omega), e, show (((-1 : Int) + ((xs.length + 1 : Nat) : Int)).toNat) = xs.length by omega]
  simp
end DL
namespace K41
open PySem PySem.Spec PyProof.Rows L2 DL
def topS (i : Nat) : Stmt := PySem.Challenge.pw_foreseen_k41_whole_rests.main.body.getD i (.Pass ⟨0, 0, 0, 0⟩)
abbrev s_is_rests : Stmt := topS 4
theorem sc_is_rests : FnScope ["value", "item"] ["value"] (defScope s_is_rests) := ⟨rfl, rfl, rfl, by decide +kernel, rfl, by decide +kernel, by decide +kernel⟩
abbrev s_divisor : Stmt := topS 5
theorem sc_divisor : FnScope ["one", "other"] ["one", "other"] (defScope s_divisor) := ⟨rfl, rfl, rfl, by decide +kernel, rfl, by decide +kernel, by decide +kernel⟩
abbrev s_of : Stmt := topS 6
theorem sc_of : FnScope ["number"] ["number"] (defScope s_of) := ⟨rfl, rfl, rfl, by decide +kernel, rfl, by decide +kernel, by decide +kernel⟩
abbrev s_make : Stmt := topS 7
theorem sc_make : FnScope ["rest", "step"] ["rest", "step"] (defScope s_make) := ⟨rfl, rfl, rfl, by decide +kernel, rfl, by decide +kernel, by decide +kernel⟩
abbrev s_tamed : Stmt := topS 8
theorem sc_tamed : FnScope ["one"] ["one"] (defScope s_tamed) := ⟨rfl, rfl, rfl, by decide +kernel, rfl, by decide +kernel, by decide +kernel⟩
abbrev s_holds : Stmt := topS 9
theorem sc_holds : FnScope ["one", "number"] ["one", "number"] (defScope s_holds) := ⟨rfl, rfl, rfl, by decide +kernel, rfl, by decide +kernel, by decide +kernel⟩
abbrev s_first_from : Stmt := topS 19
theorem sc_first_from : FnScope ["one", "low"] ["one", "low"] (defScope s_first_from) := ⟨rfl, rfl, rfl, by decide +kernel, rfl, by decide +kernel, by decide +kernel⟩
abbrev s_last_to : Stmt := topS 20
theorem sc_last_to : FnScope ["one", "high"] ["one", "high"] (defScope s_last_to) := ⟨rfl, rfl, rfl, by decide +kernel, rfl, by decide +kernel, by decide +kernel⟩
abbrev s_law_tape : Stmt := topS 23
theorem sc_law_tape : FnScope ["script", "seed", "cell"] ["script"] (defScope s_law_tape) := ⟨rfl, rfl, rfl, by decide +kernel, rfl, by decide +kernel, by decide +kernel⟩
abbrev s_law_draw : Stmt := topS 24
theorem sc_law_draw : FnScope ["tape", "many", "cells", "number"] ["tape", "many"] (defScope s_law_draw) := ⟨rfl, rfl, rfl, by decide +kernel, rfl, by decide +kernel, by decide +kernel⟩
abbrev s_law_in : Stmt := topS 28
theorem sc_law_in : FnScope ["one", "number"] ["one", "number"] (defScope s_law_in) := ⟨rfl, rfl, rfl, by decide +kernel, rfl, by decide +kernel, by decide +kernel⟩
abbrev s_law_common : Stmt := topS 30
theorem sc_law_common : FnScope ["one", "other"] ["one", "other"] (defScope s_law_common) := ⟨rfl, rfl, rfl, by decide +kernel, rfl, by decide +kernel, by decide +kernel⟩
abbrev s_is_within : Stmt := topS 10
theorem sc_is_within : FnScope ["one", "other"] ["one", "other"] (defScope s_is_within) := ⟨rfl, rfl, rfl, by decide +kernel, rfl, by decide +kernel, by decide +kernel⟩
abbrev s_join : Stmt := topS 11
theorem sc_join : FnScope ["one", "other"] ["one", "other"] (defScope s_join) := ⟨rfl, rfl, rfl, by decide +kernel, rfl, by decide +kernel, by decide +kernel⟩
abbrev s_meet : Stmt := topS 12
theorem sc_meet : FnScope ["one", "other", "first", "last", "shared", "step", "number"] ["one", "other"] (defScope s_meet) := ⟨rfl, rfl, rfl, by decide +kernel, rfl, by decide +kernel, by decide +kernel⟩
abbrev s_add : Stmt := topS 13
theorem sc_add : FnScope ["one", "other"] ["one", "other"] (defScope s_add) := ⟨rfl, rfl, rfl, by decide +kernel, rfl, by decide +kernel, by decide +kernel⟩
abbrev s_contrary : Stmt := topS 14
theorem sc_contrary : FnScope ["one"] ["one"] (defScope s_contrary) := ⟨rfl, rfl, rfl, by decide +kernel, rfl, by decide +kernel, by decide +kernel⟩
abbrev s_multiply : Stmt := topS 16
theorem sc_multiply : FnScope ["one", "other", "step"] ["one", "other"] (defScope s_multiply) := ⟨rfl, rfl, rfl, by decide +kernel, rfl, by decide +kernel, by decide +kernel⟩
abbrev s_remainder : Stmt := topS 17
theorem sc_remainder : FnScope ["one", "other"] ["one", "other"] (defScope s_remainder) := ⟨rfl, rfl, rfl, by decide +kernel, rfl, by decide +kernel, by decide +kernel⟩
abbrev s_quotient : Stmt := topS 18
theorem sc_quotient : FnScope ["one", "other"] ["one", "other"] (defScope s_quotient) := ⟨rfl, rfl, rfl, by decide +kernel, rfl, by decide +kernel, by decide +kernel⟩
abbrev s_led : Stmt := topS 21
theorem sc_led : FnScope ["span", "one", "low", "high"] ["span", "one"] (defScope s_led) := ⟨rfl, rfl, rfl, by decide +kernel, rfl, by decide +kernel, by decide +kernel⟩
abbrev s_law_pick : Stmt := topS 25
theorem sc_law_pick : FnScope ["tape", "row"] ["tape", "row"] (defScope s_law_pick) := ⟨rfl, rfl, rfl, by decide +kernel, rfl, by decide +kernel, by decide +kernel⟩
abbrev s_law_rests : Stmt := topS 27
theorem sc_law_rests : FnScope ["tape", "step"] ["tape"] (defScope s_law_rests) := ⟨rfl, rfl, rfl, by decide +kernel, rfl, by decide +kernel, by decide +kernel⟩
abbrev s_law_numbers : Stmt := topS 29
theorem sc_law_numbers : FnScope ["one", "number"] ["one"] (defScope s_law_numbers) := ⟨rfl, rfl, rfl, by decide +kernel, rfl, by decide +kernel, by decide +kernel⟩
abbrev s_law_least : Stmt := topS 31
theorem sc_law_least : FnScope ["numbers", "step", "number"] ["numbers"] (defScope s_law_least) := ⟨rfl, rfl, rfl, by decide +kernel, rfl, by decide +kernel, by decide +kernel⟩
abbrev s_subtract : Stmt := topS 15
theorem sc_subtract : FnScope ["one", "other"] ["one", "other"] (defScope s_subtract) := ⟨rfl, rfl, rfl, by decide +kernel, rfl, by decide +kernel, by decide +kernel⟩
abbrev s_law_same : Stmt := topS 26
theorem sc_law_same : FnScope ["actual", "due", "k"] ["actual", "due"] (defScope s_law_same) := ⟨rfl, rfl, rfl, by decide +kernel, rfl, by decide +kernel, by decide +kernel⟩
abbrev s_law_reckoned : Stmt := topS 32
theorem sc_law_reckoned : FnScope ["one", "other", "some", "more", "sums", "gaps", "left", "due", "right"] ["one", "other"] (defScope s_law_reckoned) := ⟨rfl, rfl, rfl, by decide +kernel, rfl, by decide +kernel, by decide +kernel⟩
abbrev s_law_led : Stmt := topS 33
theorem sc_law_led : FnScope ["tape", "one", "low", "span", "numbers", "told", "is_low", "is_high", "number"] ["tape", "one"] (defScope s_law_led) := ⟨rfl, rfl, rfl, by decide +kernel, rfl, by decide +kernel, by decide +kernel⟩
abbrev s_law : Stmt := topS 34
theorem sc_law : FnScope ["script", "tape", "turn", "one", "other", "some", "more", "both", "told", "place", "ahead", "behind", "rest", "step", "great", "wrong", "number", "value"] ["script"] (defScope s_law) := ⟨rfl, rfl, rfl, by decide +kernel, rfl, by decide +kernel, by decide +kernel⟩
structure Txt (K : PySem.W.Frag) (mg : Str → Option Value) where
  f_is_rests : Addr
  fd_is_rests : FuncData
  F_is_rests : Fun K "is_rests" "is_rests" s_is_rests f_is_rests fd_is_rests
  g_is_rests : mg "is_rests" = some (.ref f_is_rests)
  b_is_rests : Binds K fd_is_rests ["value"] []
  f_divisor : Addr
  fd_divisor : FuncData
  F_divisor : Fun K "divisor" "divisor" s_divisor f_divisor fd_divisor
  g_divisor : mg "divisor" = some (.ref f_divisor)
  b_divisor : Binds K fd_divisor ["one", "other"] []
  f_of : Addr
  fd_of : FuncData
  F_of : Fun K "of" "of" s_of f_of fd_of
  g_of : mg "of" = some (.ref f_of)
  b_of : Binds K fd_of ["number"] []
  f_make : Addr
  fd_make : FuncData
  F_make : Fun K "make" "make" s_make f_make fd_make
  g_make : mg "make" = some (.ref f_make)
  b_make : Binds K fd_make ["rest", "step"] []
  f_tamed : Addr
  fd_tamed : FuncData
  F_tamed : Fun K "tamed" "tamed" s_tamed f_tamed fd_tamed
  g_tamed : mg "tamed" = some (.ref f_tamed)
  b_tamed : Binds K fd_tamed ["one"] []
  f_holds : Addr
  fd_holds : FuncData
  F_holds : Fun K "holds" "holds" s_holds f_holds fd_holds
  g_holds : mg "holds" = some (.ref f_holds)
  b_holds : Binds K fd_holds ["one", "number"] []
  f_first_from : Addr
  fd_first_from : FuncData
  F_first_from : Fun K "first_from" "first_from" s_first_from f_first_from fd_first_from
  g_first_from : mg "first_from" = some (.ref f_first_from)
  b_first_from : Binds K fd_first_from ["one", "low"] []
  f_last_to : Addr
  fd_last_to : FuncData
  F_last_to : Fun K "last_to" "last_to" s_last_to f_last_to fd_last_to
  g_last_to : mg "last_to" = some (.ref f_last_to)
  b_last_to : Binds K fd_last_to ["one", "high"] []
  f_law_tape : Addr
  fd_law_tape : FuncData
  F_law_tape : Fun K "_law_tape" "_law_tape" s_law_tape f_law_tape fd_law_tape
  g_law_tape : mg "_law_tape" = some (.ref f_law_tape)
  b_law_tape : Binds K fd_law_tape ["script"] []
  f_law_draw : Addr
  fd_law_draw : FuncData
  F_law_draw : Fun K "_law_draw" "_law_draw" s_law_draw f_law_draw fd_law_draw
  g_law_draw : mg "_law_draw" = some (.ref f_law_draw)
  b_law_draw : Binds K fd_law_draw ["tape", "many"] []
  f_law_in : Addr
  fd_law_in : FuncData
  F_law_in : Fun K "_law_in" "_law_in" s_law_in f_law_in fd_law_in
  g_law_in : mg "_law_in" = some (.ref f_law_in)
  b_law_in : Binds K fd_law_in ["one", "number"] []
  f_law_common : Addr
  fd_law_common : FuncData
  F_law_common : Fun K "_law_common" "_law_common" s_law_common f_law_common fd_law_common
  g_law_common : mg "_law_common" = some (.ref f_law_common)
  b_law_common : Binds K fd_law_common ["one", "other"] []
  f_is_within : Addr
  fd_is_within : FuncData
  F_is_within : Fun K "is_within" "is_within" s_is_within f_is_within fd_is_within
  g_is_within : mg "is_within" = some (.ref f_is_within)
  b_is_within : Binds K fd_is_within ["one", "other"] []
  f_join : Addr
  fd_join : FuncData
  F_join : Fun K "join" "join" s_join f_join fd_join
  g_join : mg "join" = some (.ref f_join)
  b_join : Binds K fd_join ["one", "other"] []
  f_meet : Addr
  fd_meet : FuncData
  F_meet : Fun K "meet" "meet" s_meet f_meet fd_meet
  g_meet : mg "meet" = some (.ref f_meet)
  b_meet : Binds K fd_meet ["one", "other"] []
  f_add : Addr
  fd_add : FuncData
  F_add : Fun K "add" "add" s_add f_add fd_add
  g_add : mg "add" = some (.ref f_add)
  b_add : Binds K fd_add ["one", "other"] []
  f_contrary : Addr
  fd_contrary : FuncData
  F_contrary : Fun K "contrary" "contrary" s_contrary f_contrary fd_contrary
  g_contrary : mg "contrary" = some (.ref f_contrary)
  b_contrary : Binds K fd_contrary ["one"] []
  f_multiply : Addr
  fd_multiply : FuncData
  F_multiply : Fun K "multiply" "multiply" s_multiply f_multiply fd_multiply
  g_multiply : mg "multiply" = some (.ref f_multiply)
  b_multiply : Binds K fd_multiply ["one", "other"] []
  f_remainder : Addr
  fd_remainder : FuncData
  F_remainder : Fun K "remainder" "remainder" s_remainder f_remainder fd_remainder
  g_remainder : mg "remainder" = some (.ref f_remainder)
  b_remainder : Binds K fd_remainder ["one", "other"] []
  f_quotient : Addr
  fd_quotient : FuncData
  F_quotient : Fun K "quotient" "quotient" s_quotient f_quotient fd_quotient
  g_quotient : mg "quotient" = some (.ref f_quotient)
  b_quotient : Binds K fd_quotient ["one", "other"] []
  f_led : Addr
  fd_led : FuncData
  F_led : Fun K "led" "led" s_led f_led fd_led
  g_led : mg "led" = some (.ref f_led)
  b_led : Binds K fd_led ["span", "one"] []
  f_law_pick : Addr
  fd_law_pick : FuncData
  F_law_pick : Fun K "_law_pick" "_law_pick" s_law_pick f_law_pick fd_law_pick
  g_law_pick : mg "_law_pick" = some (.ref f_law_pick)
  b_law_pick : Binds K fd_law_pick ["tape", "row"] []
  f_law_rests : Addr
  fd_law_rests : FuncData
  F_law_rests : Fun K "_law_rests" "_law_rests" s_law_rests f_law_rests fd_law_rests
  g_law_rests : mg "_law_rests" = some (.ref f_law_rests)
  b_law_rests : Binds K fd_law_rests ["tape"] []
  f_law_numbers : Addr
  fd_law_numbers : FuncData
  F_law_numbers : Fun K "_law_numbers" "_law_numbers" s_law_numbers f_law_numbers fd_law_numbers
  g_law_numbers : mg "_law_numbers" = some (.ref f_law_numbers)
  b_law_numbers : Binds K fd_law_numbers ["one"] []
  f_law_least : Addr
  fd_law_least : FuncData
  F_law_least : Fun K "_law_least" "_law_least" s_law_least f_law_least fd_law_least
  g_law_least : mg "_law_least" = some (.ref f_law_least)
  b_law_least : Binds K fd_law_least ["numbers"] []
  f_subtract : Addr
  fd_subtract : FuncData
  F_subtract : Fun K "subtract" "subtract" s_subtract f_subtract fd_subtract
  g_subtract : mg "subtract" = some (.ref f_subtract)
  b_subtract : Binds K fd_subtract ["one", "other"] []
  f_law_same : Addr
  fd_law_same : FuncData
  F_law_same : Fun K "_law_same" "_law_same" s_law_same f_law_same fd_law_same
  g_law_same : mg "_law_same" = some (.ref f_law_same)
  b_law_same : Binds K fd_law_same ["actual", "due"] []
  f_law_reckoned : Addr
  fd_law_reckoned : FuncData
  F_law_reckoned : Fun K "_law_reckoned" "_law_reckoned" s_law_reckoned f_law_reckoned fd_law_reckoned
  g_law_reckoned : mg "_law_reckoned" = some (.ref f_law_reckoned)
  b_law_reckoned : Binds K fd_law_reckoned ["one", "other"] []
  f_law_led : Addr
  fd_law_led : FuncData
  F_law_led : Fun K "_law_led" "_law_led" s_law_led f_law_led fd_law_led
  g_law_led : mg "_law_led" = some (.ref f_law_led)
  b_law_led : Binds K fd_law_led ["tape", "one"] []
  f_law : Addr
  fd_law : FuncData
  F_law : Fun K "law" "law" s_law f_law fd_law
  g_law : mg "law" = some (.ref f_law)
  b_law : Binds K fd_law ["script"] []
  n_abs : mg "abs" = none
  n_all : mg "all" = none
  n_any : mg "any" = none
  n_bool : mg "bool" = none
  n_int : mg "int" = none
  n_isinstance : mg "isinstance" = none
  n_len : mg "len" = none
  n_range : mg "range" = none
  n_str : mg "str" = none
  n_tuple : mg "tuple" = none
  c_ALL : ∀ {X : Cx} {b : Bs} {pos : Pos}, X.K = K → X.mg = mg → Gl X "ALL" → DE X b (.Name "ALL" pos) (cW (.tup [.int 0, .int 1]))
  c_MOST : ∀ {X : Cx} {b : Bs} {pos : Pos}, X.K = K → X.mg = mg → Gl X "MOST" → DE X b (.Name "MOST" pos) (cW (.int (10 ^ 60)))
  c_MOST_STEP : ∀ {X : Cx} {b : Bs} {pos : Pos}, X.K = K → X.mg = mg → Gl X "MOST_STEP" → DE X b (.Name "MOST_STEP" pos) (cW (.int 1000000))
end K41
namespace K41
open PySem PySem.Spec PyProof.Rows L2 DL
/-! ### rests: a number, a step -/
abbrev RT := Int × Int
def rp (a : RT) : D := .tup [.int a.1, .int a.2]
def rpOf : D → Option RT
  | .tup [.int r, .int s] => some (r, s)
  | _ => none
theorem rpOf_rp (a : RT) : rpOf (rp a) = some a := rfl
theorem of_rpOf {d : D} {a : RT} (h : rpOf d = some a) : d = rp a := by
  unfold rpOf at h
  split at h
  · cases h; rfl
  · cases h
def eD : Option Int → D
  | none => .non
  | some i => .int i
def r1 (f : RT → D) : Mir := fun ds S Q => match ds with
  | [x] => match rpOf x with
    | some a => Q (f a) S
    | none => False
  | _ => False
def r2 (ok : RT → RT → Prop) (f : RT → RT → D) : Mir := fun ds S Q => match ds with
  | [x, y] => match rpOf x, rpOf y with
    | some a, some b => ok a b ∧ Q (f a b) S
    | _, _ => False
  | _ => False
def rI (f : RT → Int → D) : Mir := fun ds S Q => match ds with
  | [x, .int n] => match rpOf x with
    | some a => Q (f a n) S
    | none => False
  | _ => False
theorem r1_inv {f : RT → D} {ds : List D} {S : Store} {Q : DQ} (h : r1 f ds S Q) : ∃ a, ds = [rp a] ∧ Q (f a) S := by
  unfold r1 at h
  split at h
  · split at h
    · rename_i a e
      exact ⟨a, by rw [of_rpOf e], h⟩
    · exact h.elim
  · exact h.elim
theorem r2_inv {ok : RT → RT → Prop} {f : RT → RT → D} {ds : List D} {S : Store} {Q : DQ} (h : r2 ok f ds S Q) : ∃ a b, ds = [rp a, rp b] ∧ ok a b ∧ Q (f a b) S := by
  unfold r2 at h
  split at h
  · split at h
    · rename_i a b e1 e2
      exact ⟨a, b, by rw [of_rpOf e1, of_rpOf e2], h⟩
    · exact h.elim
  · exact h.elim
theorem rI_inv {f : RT → Int → D} {ds : List D} {S : Store} {Q : DQ} (h : rI f ds S Q) : ∃ a n, ds = [rp a, .int n] ∧ Q (f a n) S := by
  unfold rI at h
  split at h
  · split at h
    · rename_i a e
      exact ⟨a, _, by rw [of_rpOf e], h⟩
    · exact h.elim
  · exact h.elim
/-- two ints -/
def ii (f : Int → Int → D) : Mir := fun ds S Q => match ds with
  | [.int m, .int n] => Q (f m n) S
  | _ => False
theorem ii_inv {f : Int → Int → D} {ds : List D} {S : Store} {Q : DQ} (h : ii f ds S Q) : ∃ m n, ds = [.int m, .int n] ∧ Q (f m n) S := by
  unfold ii at h
  split at h
  · exact ⟨_, _, rfl, h⟩
  · exact h.elim
def any2 : RT → RT → Prop := fun _ _ => True
/-! ### what the defs are worth -/
def gcdI (a b : Int) : Int := (Int.gcd a b : Nat)
def mkS (r s : Int) : RT := if s = 0 then (r, 0) else (r.fmod s, s)
def inB (a : RT) (n : Int) : Bool := if a.2 = 0 then decide (n = a.1) else decide ((n - a.1).fmod a.2 = 0)
def m_divisor : Mir := ii fun a b => .int (gcdI a b)
def m_law_common : Mir := ii fun a b => .int (gcdI a b)
def m_make : Mir := ii fun r s => rp (mkS r s)
def m_of : Mir := fun ds S Q => match ds with
  | [.int n] => Q (rp (n, 0)) S
  | _ => False
def absI (n : Int) : Int := if n < 0 then -n else n
def tamR (a : RT) : RT := if 1000000 < a.2 ∨ (a.2 = 0 ∧ 10 ^ 60 < absI a.1) then (0, 1) else a
def m_tamed : Mir := r1 fun a => rp (tamR a)
def m_holds : Mir := rI fun a n => .bl (inB a n)
def m_law_in : Mir := rI fun a n => .bl (inB a n)
def wiB (a b : RT) : Bool := if b.2 = 0 then decide (a = b) else decide (a.2.fmod b.2 = 0) && inB b a.1
def m_is_within : Mir := r2 any2 fun a b => .bl (wiB a b)
def joinR (a b : RT) : RT := mkS a.1 (gcdI (gcdI a.2 b.2) (a.1 - b.1))
def m_join : Mir := r2 any2 fun a b => rp (joinR a b)
def addR (a b : RT) : RT := mkS (a.1 + b.1) (gcdI a.2 b.2)
def conR (a : RT) : RT := mkS (-a.1) a.2
def subR (a b : RT) : RT := addR a (conR b)
def m_add : Mir := r2 any2 fun a b => rp (addR a b)
def m_contrary : Mir := r1 fun a => rp (conR a)
def m_subtract : Mir := r2 any2 fun a b => rp (subR a b)
def smallI (n : Int) : Prop := -1000000 ≤ n ∧ n ≤ 1000000
def smallR (a : RT) : Prop := smallI a.1 ∧ smallI a.2
def small2 : RT → RT → Prop := fun a b => smallR a ∧ smallR b
def mulR (a b : RT) : RT := mkS (a.1 * b.1) (gcdI (gcdI (a.2 * b.2) (a.2 * b.1)) (b.2 * a.1))
def m_multiply : Mir := r2 small2 fun a b => rp (mulR a b)
def remR (a b : RT) : RT :=
  if a.2 = 0 ∧ b.2 = 0 ∧ b.1 ≠ 0 then (a.1.fmod b.1, 0)
  else if b.2 ≠ 0 then mkS a.1 (gcdI a.2 (gcdI b.1 b.2))
  else mkS (if b.1 ≠ 0 then a.1.fmod b.1 else 0) (gcdI a.2 b.1)
def m_remainder : Mir := r2 any2 fun a b => rp (remR a b)
def quoR (a b : RT) : RT :=
  if b.2 ≠ 0 ∨ b.1 = 0 then (0, 1)
  else if a.2 = 0 then (a.1.fdiv b.1, 0)
  else if a.1.fmod b.1 = 0 ∧ a.2.fmod b.1 = 0 then mkS (a.1.fdiv b.1) (absI (a.2.fdiv b.1))
  else (0, 1)
def m_quotient : Mir := r2 small2 fun a b => rp (quoR a b)
def ffE (a : RT) (low : Int) : Option Int := if a.2 = 0 then (if low ≤ a.1 then some a.1 else none) else some (low + (a.1 - low).fmod a.2)
def ltE (a : RT) (high : Int) : Option Int := if a.2 = 0 then (if a.1 ≤ high then some a.1 else none) else some (high - (high - a.1).fmod a.2)
def m_first_from : Mir := rI fun a n => eD (ffE a n)
def m_last_to : Mir := rI fun a n => eD (ltE a n)
/-- a span and rests lead one another -/
def outB (lo hi : Option Int) (a : RT) : Bool := (match lo with | some l => decide (a.1 < l) | none => false) || (match hi with | some h => decide (h < a.1) | none => false)
def endE (f : RT → Int → Option Int) (a : RT) : Option Int → Option Int
  | some l => f a l
  | none => if a.2 = 0 then some a.1 else none
def ledR (lo hi : Option Int) (a : RT) : D :=
  if a.2 = 0 ∧ outB lo hi a = true then .non else
    match endE ffE a lo, endE ltE a hi with
    | some l, some h => if h < l then .non else .tup [.tup [.int l, .int h], rp (if l = h then (l, 0) else a)]
    | l, h => .tup [.tup [eD l, eD h], rp a]
def eOf : D → Option (Option Int)
  | .non => some none
  | .int i => some (some i)
  | _ => none
theorem of_eOf {d : D} {o : Option Int} (h : eOf d = some o) : d = eD o := by
  cases d <;> simp [eOf] at h <;> subst h <;> rfl
theorem eOf_eD (o : Option Int) : eOf (eD o) = some o := by cases o <;> rfl
def m_led : Mir := fun ds S Q => match ds with
  | [.tup [x, y], z] => match eOf x, eOf y, rpOf z with
    | some lo, some hi, some a => Q (ledR lo hi a) S
    | _, _, _ => False
  | _ => False
/-- the meeting: the first number of one that other holds -/
def firstK (a b : RT) (k : Nat) : Prop := inB b (a.1 + a.2 * (k : Int)) = true ∧ ∀ j : Nat, j < k → inB b (a.1 + a.2 * (j : Int)) = false
def m_meet : Mir := fun ds S Q => match ds with
  | [x, y] => match rpOf x, rpOf y with
    | some a, some b => small2 a b ∧ 0 ≤ a.2 ∧ 0 ≤ b.2 ∧
      if a.2 = 0 then (if inB b a.1 = true then Q (rp a) S else Q .non S)
      else if b.2 = 0 then (if inB a b.1 = true then Q (rp b) S else Q .non S)
      else if (a.1 - b.1).fmod (gcdI a.2 b.2) ≠ 0 then Q .non S
      else ∃ k : Nat, firstK a b k ∧ Q (rp (mkS (a.1 + a.2 * (k : Int)) (a.2.fdiv (gcdI a.2 b.2) * b.2))) S
    | _, _ => False
  | _ => False
def okI : D → Option Bool
  | .int _ => some true
  | .bl _ => some false
  | .non => some false
  | .str _ => some false
  | _ => none
def isRestsB : D → Option Bool
  | .tup [x, y] => match okI x, okI y with
    | some true, some true => match x, y with
      | .int r, .int s => some (decide (s = 0) || (decide (0 < s) && (decide (0 ≤ r) && decide (r < s))))
      | _, _ => none
    | some _, some _ => some false
    | _, _ => none
  | .tup ds => if ds.length = 2 then none else some false
  | .non => some false
  | .bl _ => some false
  | .int _ => some false
  | .str _ => some false
  | .lst _ => some false
  | _ => none
def m_is_rests : Mir := fun ds S Q => match ds with
  | [d] => match isRestsB d with
    | some b => Q (.bl b) S
    | none => False
  | _ => False
/-! the law's own -/
def InR (a : RT) : Prop := (a.2 = 0 ∧ -15 ≤ a.1 ∧ a.1 ≤ 15) ∨ (1 ≤ a.2 ∧ a.2 ≤ 12 ∧ 0 ≤ a.1 ∧ a.1 < a.2)
abbrev m_law_tape : Mir := m_tape
abbrev m_law_draw : Mir := m_draw
abbrev m_law_pick : Mir := m_pick
abbrev m_law_same (n : Nat) : Mir := m_same n
def m_law_rests : Mir := fun ds S Q => match ds with
  | [.loc 1] => ∃ ns s J, S = tst ns s ++ J ∧ Tk ns s ∧ ∀ a ns' s', InR a → Tk ns' s' → Q (rp a) (tst ns' s' ++ J)
  | _ => False
def numsR (a : RT) : List Int := (rng (-40) 81).filter (inB a)
def m_law_numbers : Mir := r1 fun a => .lst ((numsR a).map .int)
def gcdL (n0 : Int) (ns : List Int) : Int := ns.foldl (fun g n => gcdI g (n - n0)) 0
def leastR : List Int → RT
  | [] => (0, 0)
  | n :: ns => mkS n (gcdL n (n :: ns))
def m_law_least : Mir := fun ds S Q => match ds with
  | [.lst xs] => match intsOf xs with
    | some ns => ns ≠ [] ∧ ns.length < 100000 ∧ Q (rp (leastR ns)) S
    | none => False
  | _ => False
def m_law_reckoned : Mir := r2 (fun a b => InR a ∧ InR b) fun _ _ => .bl true
def m_law_led : Mir := fun ds S Q => match ds with
  | [.loc 1, x] => match rpOf x with
    | some a => InR a ∧ ∃ ns s J, S = tst ns s ++ J ∧ Tk ns s ∧ ∀ ns' s', Tk ns' s' → Q (.bl true) (tst ns' s' ++ J)
    | none => False
  | _ => False
def m_law : Mir := fun ds S Q => match ds with
  | [.rol xs] => match intsOf xs with
    | some ns => ns.length < 100000 ∧ S = [] ∧ ∀ S', Q (.bl true) S'
    | none => False
  | _ => False
end K41
namespace K41
open PySem PySem.Spec L2 DL
/-- is_rests -/
def g_is_rests : WS :=
    (seqW (ifS (orW (notW (truW (clW wIsi (consW (vW 0) (consW (cW (.ty "tuple")) nilW))))) (tsW (opW wNe (clW wLen (consW (vW 0) nilW)) (cW (.int 2))))) (retW (cW (.bl false))) nxW)
    (seqW (ifS (truW (clW wAny (consW (lcW (sqI (vW 0)) (.nm 1) yesW (orV (clW wIsi (consW (vW 1) (consW (cW (.ty "bool")) nilW))) (notV (clW wIsi (consW (vW 1) (consW (cW (.ty "int")) nilW))))) [1]) nilW))) (retW (cW (.bl false))) nxW)
    (retW (orV (opW wEq (opW wIx (vW 0) (cW (.int 1))) (cW (.int 0))) (andV (opW wGt (opW wIx (vW 0) (cW (.int 1))) (cW (.int 0))) (chW wLe wLt (cW (.int 0)) (opW wIx (vW 0) (cW (.int 0))) (opW wIx (vW 0) (cW (.int 1)))))))))

/-- divisor -/
def g_divisor : WS :=
    (seqW (parW 0 1 (consW (clW wAbs (consW (vW 0) nilW)) (consW (clW wAbs (consW (vW 1) nilW)) nilW)))
    (seqW (whileW (tsW (opW wGt (vW 1) (cW (.int 0)))) (parW 0 1 (consW (vW 1) (consW (opW wMod (vW 0) (vW 1)) nilW))))
    (retW (vW 0))))

/-- of -/
def g_of : WS :=
    (retW (tupW (consW (vW 0) (consW (cW (.int 0)) nilW))))

/-- make -/
def g_make : WS :=
    (retW (ifW (tsW (opW wEq (vW 1) (cW (.int 0)))) (tupW (consW (vW 0) (consW (cW (.int 0)) nilW))) (tupW (consW (opW wMod (vW 0) (vW 1)) (consW (vW 1) nilW)))))

/-- tamed -/
def g_tamed : WS :=
    (retW (ifW (orW (tsW (opW wGt (opW wIx (vW 0) (cW (.int 1))) (cW (.int 1000000)))) (andW (tsW (opW wEq (opW wIx (vW 0) (cW (.int 1))) (cW (.int 0)))) (tsW (opW wGt (clW wAbs (consW (opW wIx (vW 0) (cW (.int 0))) nilW)) (cW (.int (10 ^ 60))))))) (cW (.tup [.int 0, .int 1])) (vW 0)))

/-- holds -/
def g_holds : WS :=
    (retW (ifW (tsW (opW wEq (opW wIx (vW 0) (cW (.int 1))) (cW (.int 0)))) (opW wEq (vW 1) (opW wIx (vW 0) (cW (.int 0)))) (opW wEq (opW wMod (opW wSub (vW 1) (opW wIx (vW 0) (cW (.int 0)))) (opW wIx (vW 0) (cW (.int 1)))) (cW (.int 0)))))

/-- first_from -/
def g_first_from : WS :=
    (seqW (ifS (tsW (opW wEq (opW wIx (vW 0) (cW (.int 1))) (cW (.int 0)))) (retW (ifW (tsW (opW wGe (opW wIx (vW 0) (cW (.int 0))) (vW 1))) (opW wIx (vW 0) (cW (.int 0))) (cW .non))) nxW)
    (retW (opW wAdd (vW 1) (opW wMod (opW wSub (opW wIx (vW 0) (cW (.int 0))) (vW 1)) (opW wIx (vW 0) (cW (.int 1)))))))

/-- last_to -/
def g_last_to : WS :=
    (seqW (ifS (tsW (opW wEq (opW wIx (vW 0) (cW (.int 1))) (cW (.int 0)))) (retW (ifW (tsW (opW wLe (opW wIx (vW 0) (cW (.int 0))) (vW 1))) (opW wIx (vW 0) (cW (.int 0))) (cW .non))) nxW)
    (retW (opW wSub (vW 1) (opW wMod (opW wSub (vW 1) (opW wIx (vW 0) (cW (.int 0)))) (opW wIx (vW 0) (cW (.int 1)))))))

/-- _law_tape -/
def g_law_tape : WS :=
    (seqW (asgW (.nm 1) (cW (.int 7)))
    (seqW (forW (sqI (vW 0)) (.nm 2) (asgW (.nm 1) (opW wMod (clW wInt (consW (opW wAdd (opW wMul (vW 1) (cW (.int 31))) (vW 2)) nilW)) (cW (.int 1000003)))))
    (retW (lstN (consW (lcN (sqI (vW 0)) (.nm 2) yesW (clW wAbs (consW (clW wInt (consW (vW 2) nilW)) nilW)) [2]) (consW (opW wAdd (vW 1) (cW (.int 1))) nilW))))))

/-- _law_draw -/
def g_law_draw : WS :=
    (seqW (asgW (.nm 2) (opW wIx (vW 0) (cW (.int 0))))
    (seqW (whileW (andW (tsW (opW wGt (clW wLen (consW (vW 2) nilW)) (cW (.int 0)))) (tsW (opW wEq (opW wIx (vW 2) (cW (.int 0))) (cW (.int 0))))) (dropW (popAtW (vW 2) (cW (.int 0)))))
    (seqW (ifS (tsW (opW wGt (clW wLen (consW (vW 2) nilW)) (cW (.int 0)))) (seqW (asgW (.nm 3) (opW wIx (vW 2) (cW (.int 0))))
    (seqW (putW (opW wDiv (vW 3) (vW 1)) (vW 2) (cW (.int 0)))
    (retW (opW wMod (clW wInt (consW (vW 3) nilW)) (vW 1))))) nxW)
    (seqW (putW (opW wMod (clW wInt (consW (opW wAdd (opW wMul (opW wIx (vW 0) (cW (.int 1))) (cW (.int 48271))) (cW (.int 12345))) nilW)) (cW (.int 2147483647))) (vW 0) (cW (.int 1)))
    (retW (opW wMod (clW wInt (consW (opW wDiv (opW wIx (vW 0) (cW (.int 1))) (cW (.int 64))) nilW)) (vW 1)))))))

/-- _law_in -/
def g_law_in : WS :=
    (retW (ifW (tsW (opW wEq (opW wIx (vW 0) (cW (.int 1))) (cW (.int 0)))) (opW wEq (vW 1) (opW wIx (vW 0) (cW (.int 0)))) (opW wEq (opW wMod (opW wSub (vW 1) (opW wIx (vW 0) (cW (.int 0)))) (opW wIx (vW 0) (cW (.int 1)))) (cW (.int 0)))))

/-- _law_common -/
def g_law_common : WS :=
    (seqW (parW 0 1 (consW (clW wAbs (consW (vW 0) nilW)) (consW (clW wAbs (consW (vW 1) nilW)) nilW)))
    (seqW (whileW (tsW (opW wGt (vW 1) (cW (.int 0)))) (parW 0 1 (consW (vW 1) (consW (opW wMod (vW 0) (vW 1)) nilW))))
    (retW (vW 0))))

/-- is_within -/
def g_is_within : WS :=
    (seqW (ifS (tsW (opW wEq (opW wIx (vW 1) (cW (.int 1))) (cW (.int 0)))) (retW (opW wEq (vW 0) (vW 1))) nxW)
    (retW (andV (opW wEq (opW wMod (opW wIx (vW 0) (cW (.int 1))) (opW wIx (vW 1) (cW (.int 1)))) (cW (.int 0))) (clW m_holds (consW (vW 1) (consW (opW wIx (vW 0) (cW (.int 0))) nilW))))))

/-- join -/
def g_join : WS :=
    (retW (clW m_make (consW (opW wIx (vW 0) (cW (.int 0))) (consW (clW m_divisor (consW (clW m_divisor (consW (opW wIx (vW 0) (cW (.int 1))) (consW (opW wIx (vW 1) (cW (.int 1))) nilW))) (consW (opW wSub (opW wIx (vW 0) (cW (.int 0))) (opW wIx (vW 1) (cW (.int 0)))) nilW))) nilW))))

/-- meet -/
def g_meet : WS :=
    (seqW (ifS (orW (tsW (opW wEq (opW wIx (vW 0) (cW (.int 1))) (cW (.int 0)))) (tsW (opW wEq (opW wIx (vW 1) (cW (.int 1))) (cW (.int 0))))) (seqW (asgW (.tp [2, 3]) (ifW (tsW (opW wEq (opW wIx (vW 0) (cW (.int 1))) (cW (.int 0)))) (tupW (consW (vW 0) (consW (vW 1) nilW))) (tupW (consW (vW 1) (consW (vW 0) nilW)))))
    (retW (ifW (truW (clW m_holds (consW (vW 3) (consW (opW wIx (vW 2) (cW (.int 0))) nilW)))) (vW 2) (cW .non)))) nxW)
    (seqW (asgW (.nm 4) (clW m_divisor (consW (opW wIx (vW 0) (cW (.int 1))) (consW (opW wIx (vW 1) (cW (.int 1))) nilW))))
    (seqW (ifS (tsW (opW wNe (opW wMod (opW wSub (opW wIx (vW 0) (cW (.int 0))) (opW wIx (vW 1) (cW (.int 0)))) (vW 4)) (cW (.int 0)))) (retW (cW .non)) nxW)
    (seqW (asgW (.nm 5) (opW wMul (opW wDiv (opW wIx (vW 0) (cW (.int 1))) (vW 4)) (opW wIx (vW 1) (cW (.int 1)))))
    (seqW (asgW (.nm 6) (opW wIx (vW 0) (cW (.int 0))))
    (seqW (whileW (notW (truW (clW m_holds (consW (vW 1) (consW (vW 6) nilW))))) (augW 6 (wI0 fun i j => .int (i + j)) (opW wIx (vW 0) (cW (.int 1)))))
    (retW (clW m_make (consW (vW 6) (consW (vW 5) nilW))))))))))

/-- add -/
def g_add : WS :=
    (retW (clW m_make (consW (opW wAdd (opW wIx (vW 0) (cW (.int 0))) (opW wIx (vW 1) (cW (.int 0)))) (consW (clW m_divisor (consW (opW wIx (vW 0) (cW (.int 1))) (consW (opW wIx (vW 1) (cW (.int 1))) nilW))) nilW))))

/-- contrary -/
def g_contrary : WS :=
    (retW (clW m_make (consW (unW wNeg (opW wIx (vW 0) (cW (.int 0)))) (consW (opW wIx (vW 0) (cW (.int 1))) nilW))))

/-- multiply -/
def g_multiply : WS :=
    (seqW (asgW (.nm 2) (clW m_divisor (consW (clW m_divisor (consW (opW wMul (opW wIx (vW 0) (cW (.int 1))) (opW wIx (vW 1) (cW (.int 1)))) (consW (opW wMul (opW wIx (vW 0) (cW (.int 1))) (opW wIx (vW 1) (cW (.int 0)))) nilW))) (consW (opW wMul (opW wIx (vW 1) (cW (.int 1))) (opW wIx (vW 0) (cW (.int 0)))) nilW))))
    (retW (clW m_make (consW (opW wMul (opW wIx (vW 0) (cW (.int 0))) (opW wIx (vW 1) (cW (.int 0)))) (consW (vW 2) nilW)))))

/-- remainder -/
def g_remainder : WS :=
    (seqW (ifS (andW (tsW (opW wEq (opW wIx (vW 0) (cW (.int 1))) (cW (.int 0)))) (andW (tsW (opW wEq (opW wIx (vW 1) (cW (.int 1))) (cW (.int 0)))) (tsW (opW wNe (opW wIx (vW 1) (cW (.int 0))) (cW (.int 0)))))) (retW (clW m_of (consW (opW wMod (opW wIx (vW 0) (cW (.int 0))) (opW wIx (vW 1) (cW (.int 0)))) nilW))) nxW)
    (seqW (ifS (tsW (opW wNe (opW wIx (vW 1) (cW (.int 1))) (cW (.int 0)))) (retW (clW m_make (consW (opW wIx (vW 0) (cW (.int 0))) (consW (clW m_divisor (consW (opW wIx (vW 0) (cW (.int 1))) (consW (clW m_divisor (consW (opW wIx (vW 1) (cW (.int 0))) (consW (opW wIx (vW 1) (cW (.int 1))) nilW))) nilW))) nilW)))) nxW)
    (retW (clW m_make (consW (ifW (tsW (opW wNe (opW wIx (vW 1) (cW (.int 0))) (cW (.int 0)))) (opW wMod (opW wIx (vW 0) (cW (.int 0))) (opW wIx (vW 1) (cW (.int 0)))) (cW (.int 0))) (consW (clW m_divisor (consW (opW wIx (vW 0) (cW (.int 1))) (consW (opW wIx (vW 1) (cW (.int 0))) nilW))) nilW))))))

/-- quotient -/
def g_quotient : WS :=
    (seqW (ifS (orW (tsW (opW wNe (opW wIx (vW 1) (cW (.int 1))) (cW (.int 0)))) (tsW (opW wEq (opW wIx (vW 1) (cW (.int 0))) (cW (.int 0))))) (retW (cW (.tup [.int 0, .int 1]))) nxW)
    (seqW (ifS (tsW (opW wEq (opW wIx (vW 0) (cW (.int 1))) (cW (.int 0)))) (retW (clW m_of (consW (opW wDiv (opW wIx (vW 0) (cW (.int 0))) (opW wIx (vW 1) (cW (.int 0)))) nilW))) nxW)
    (seqW (ifS (andW (tsW (opW wEq (opW wMod (opW wIx (vW 0) (cW (.int 0))) (opW wIx (vW 1) (cW (.int 0)))) (cW (.int 0)))) (tsW (opW wEq (opW wMod (opW wIx (vW 0) (cW (.int 1))) (opW wIx (vW 1) (cW (.int 0)))) (cW (.int 0))))) (retW (clW m_make (consW (opW wDiv (opW wIx (vW 0) (cW (.int 0))) (opW wIx (vW 1) (cW (.int 0)))) (consW (clW wAbs (consW (opW wDiv (opW wIx (vW 0) (cW (.int 1))) (opW wIx (vW 1) (cW (.int 0)))) nilW)) nilW)))) nxW)
    (retW (cW (.tup [.int 0, .int 1]))))))

/-- led -/
def g_led : WS :=
    (seqW (asgW (.tp [2, 3]) (vW 0))
    (seqW (ifS (andW (tsW (opW wEq (opW wIx (vW 1) (cW (.int 1))) (cW (.int 0)))) (orW (andW (tsW (opW wIsnt (vW 2) (cW .non))) (tsW (opW wLt (opW wIx (vW 1) (cW (.int 0))) (vW 2)))) (andW (tsW (opW wIsnt (vW 3) (cW .non))) (tsW (opW wGt (opW wIx (vW 1) (cW (.int 0))) (vW 3)))))) (retW (cW .non)) nxW)
    (seqW (asgW (.nm 2) (ifW (tsW (opW wIsnt (vW 2) (cW .non))) (clW m_first_from (consW (vW 1) (consW (vW 2) nilW))) (ifW (tsW (opW wEq (opW wIx (vW 1) (cW (.int 1))) (cW (.int 0)))) (opW wIx (vW 1) (cW (.int 0))) (cW .non))))
    (seqW (asgW (.nm 3) (ifW (tsW (opW wIsnt (vW 3) (cW .non))) (clW m_last_to (consW (vW 1) (consW (vW 3) nilW))) (ifW (tsW (opW wEq (opW wIx (vW 1) (cW (.int 1))) (cW (.int 0)))) (opW wIx (vW 1) (cW (.int 0))) (cW .non))))
    (seqW (ifS (andW (tsW (opW wIsnt (vW 2) (cW .non))) (andW (tsW (opW wIsnt (vW 3) (cW .non))) (tsW (opW wGt (vW 2) (vW 3))))) (retW (cW .non)) nxW)
    (retW (tupW (consW (tupW (consW (vW 2) (consW (vW 3) nilW))) (consW (ifW (andW (tsW (opW wIsnt (vW 2) (cW .non))) (tsW (opW wEq (vW 2) (vW 3)))) (clW m_of (consW (vW 2) nilW)) (vW 1)) nilW)))))))))

/-- _law_pick -/
def g_law_pick : WS :=
    (retW (opW wIx (vW 1) (clW m_law_draw (consW (vW 0) (consW (clW wLen (consW (vW 1) nilW)) nilW)))))

/-- _law_rests -/
def g_law_rests : WS :=
    (seqW (asgW (.nm 1) (clW m_law_draw (consW (vW 0) (consW (cW (.int 13)) nilW))))
    (retW (ifW (tsW (opW wEq (vW 1) (cW (.int 0)))) (tupW (consW (opW wSub (clW m_law_draw (consW (vW 0) (consW (cW (.int 31)) nilW))) (cW (.int 15))) (consW (cW (.int 0)) nilW))) (tupW (consW (clW m_law_draw (consW (vW 0) (consW (vW 1) nilW))) (consW (vW 1) nilW))))))

/-- _law_numbers -/
def g_law_numbers : WS :=
    (retW (lcW (rgI2 (consW (unW wNeg (cW (.int 40))) (consW (cW (.int 41)) nilW))) (.nm 1) (truW (clW m_law_in (consW (vW 0) (consW (vW 1) nilW)))) (vW 1) [1]))

/-- _law_least -/
def g_law_least : WS :=
    (seqW (asgW (.nm 1) (cW (.int 0)))
    (seqW (forW (sqI (vW 0)) (.nm 2) (asgW (.nm 1) (clW m_law_common (consW (vW 1) (consW (opW wSub (vW 2) (opW wIx (vW 0) (cW (.int 0)))) nilW)))))
    (retW (ifW (tsW (opW wEq (vW 1) (cW (.int 0)))) (tupW (consW (opW wIx (vW 0) (cW (.int 0))) (consW (cW (.int 0)) nilW))) (tupW (consW (opW wMod (opW wIx (vW 0) (cW (.int 0))) (vW 1)) (consW (vW 1) nilW)))))))

/-- subtract -/
def g_subtract : WS :=
    (retW (clW m_add (consW (vW 0) (consW (clW m_contrary (consW (vW 1) nilW)) nilW))))

/-- _law_same -/
def g_law_same (n : Nat) : WS :=
    (seqW (ifS (tsW (opW wIs (vW 1) (cW .non))) (retW (opW wIs (vW 0) (cW .non))) nxW)
    (seqW (ifS (truW (clW wIsi (consW (vW 1) (consW (cW (.ty "bool")) nilW)))) (retW (andV (clW wIsi (consW (vW 0) (consW (cW (.ty "bool")) nilW))) (opW wEq (vW 0) (vW 1)))) nxW)
    (seqW (ifS (truW (clW wIsi (consW (vW 1) (consW (cW (.ty "tuple")) nilW)))) (seqW (ifS (orW (notW (truW (clW wIsi (consW (vW 0) (consW (cW (.ty "tuple")) nilW))))) (tsW (opW wNe (clW wLen (consW (vW 0) nilW)) (clW wLen (consW (vW 1) nilW))))) (retW (cW (.bl false))) nxW)
    (retW (clW wAll (consW (lcW (rgI1 (consW (clW wLen (consW (vW 1) nilW)) nilW)) (.nm 2) yesW (clW (prv m_law_same n) (consW (opW wIx (vW 0) (vW 2)) (consW (opW wIx (vW 1) (vW 2)) nilW))) [2]) nilW)))) nxW)
    (seqW (ifS (truW (clW wIsi (consW (vW 1) (consW (cW (.ty "str")) nilW)))) (retW (andV (clW wIsi (consW (vW 0) (consW (cW (.ty "str")) nilW))) (opW wEq (vW 0) (vW 1)))) nxW)
    (retW (andV (clW wIsi (consW (vW 0) (consW (cW (.ty "int")) nilW))) (andV (notV (clW wIsi (consW (vW 0) (consW (cW (.ty "bool")) nilW)))) (opW wEq (vW 0) (vW 1)))))))))

/-- _law_reckoned -/
def g_law_reckoned : WS :=
    (seqW (parW 2 3 (consW (slW (clW m_law_numbers (consW (vW 0) nilW)) noP (soP (cW (.int 9)))) (consW (slW (clW m_law_numbers (consW (vW 1) nilW)) noP (soP (cW (.int 9)))) nilW)))
    (seqW (parW 4 5 (consW (lstW nilW) (consW (lstW nilW) nilW)))
    (seqW (forW (sqI (vW 2)) (.nm 6) (seqW (asgW (.nm 4) (opW wAdd (vW 4) (lcW (sqI (vW 3)) (.nm 8) yesW (opW wAdd (vW 6) (vW 8)) [8])))
    (asgW (.nm 5) (opW wAdd (vW 5) (lcW (sqI (vW 3)) (.nm 8) yesW (opW wSub (vW 6) (vW 8)) [8])))))
    (seqW (asgW (.nm 7) (tupW (consW (clW m_law_least (consW (vW 4) nilW)) (consW (clW m_law_least (consW (vW 5) nilW)) (consW (clW m_law_least (consW (lcW (sqI (vW 2)) (.nm 6) yesW (unW wNeg (vW 6)) [6]) nilW)) nilW)))))
    (seqW (ifS (notW (truW (clW (m_law_same 4) (consW (tupW (consW (clW m_add (consW (vW 0) (consW (vW 1) nilW))) (consW (clW m_subtract (consW (vW 0) (consW (vW 1) nilW))) (consW (clW m_contrary (consW (vW 0) nilW)) nilW)))) (consW (vW 7) nilW))))) (retW (cW (.bl false))) nxW)
    (seqW (forW (sqI (vW 2)) (.nm 6) (forW (sqI (vW 3)) (.nm 8) (seqW (ifS (notW (truW (clW m_law_in (consW (clW m_multiply (consW (vW 0) (consW (vW 1) nilW))) (consW (opW wMul (vW 6) (vW 8)) nilW))))) (retW (cW (.bl false))) nxW)
    (ifS (andW (tsW (opW wNe (vW 8) (cW (.int 0)))) (notW (andW (truW (clW m_law_in (consW (clW m_quotient (consW (vW 0) (consW (vW 1) nilW))) (consW (opW wDiv (vW 6) (vW 8)) nilW)))) (truW (clW m_law_in (consW (clW m_remainder (consW (vW 0) (consW (vW 1) nilW))) (consW (opW wMod (vW 6) (vW 8)) nilW))))))) (retW (cW (.bl false))) nxW))))
    (retW (cW (.bl true)))))))))

/-- _law_led -/
def g_law_led : WS :=
    (seqW (asgW (.nm 2) (opW wSub (clW m_law_draw (consW (vW 0) (consW (cW (.int 41)) nilW))) (cW (.int 20))))
    (seqW (asgW (.nm 3) (clW m_law_pick (consW (vW 0) (consW (lstW (consW (tupW (consW (vW 2) (consW (opW wAdd (vW 2) (clW m_law_draw (consW (vW 0) (consW (cW (.int 20)) nilW)))) nilW))) (consW (tupW (consW (vW 2) (consW (cW .non) nilW))) (consW (tupW (consW (cW .non) (consW (vW 2) nilW))) (consW (tupW (consW (cW .non) (consW (cW .non) nilW))) nilW))))) nilW))))
    (seqW (asgW (.nm 4) (lcW (rgI2 (consW (unW wNeg (cW (.int 80))) (consW (cW (.int 81)) nilW))) (.nm 8) (andW (truW (clW m_law_in (consW (vW 1) (consW (vW 8) nilW)))) (andW (orW (tsW (opW wIs (opW wIx (vW 3) (cW (.int 0))) (cW .non))) (tsW (opW wGe (vW 8) (opW wIx (vW 3) (cW (.int 0)))))) (orW (tsW (opW wIs (opW wIx (vW 3) (cW (.int 1))) (cW .non))) (tsW (opW wLe (vW 8) (opW wIx (vW 3) (cW (.int 1)))))))) (vW 8) [8]))
    (seqW (asgW (.nm 5) (clW m_led (consW (vW 3) (consW (vW 1) nilW))))
    (seqW (ifS (tsW (opW wEq (vW 4) (lstW nilW))) (retW (opW wIs (vW 5) (cW .non))) nxW)
    (seqW (ifS (orW (tsW (opW wIs (vW 5) (cW .non))) (orW (notW (truW (clW m_is_rests (consW (opW wIx (vW 5) (cW (.int 1))) nilW)))) (truW (clW wAny (consW (lcW (sqI (vW 4)) (.nm 8) yesW (notV (clW m_law_in (consW (opW wIx (vW 5) (cW (.int 1))) (consW (vW 8) nilW)))) [8]) nilW))))) (retW (cW (.bl false))) nxW)
    (seqW (parW 6 7 (consW (orV (opW wIsnt (opW wIx (vW 3) (cW (.int 0))) (cW .non)) (opW wEq (opW wIx (vW 1) (cW (.int 1))) (cW (.int 0)))) (consW (orV (opW wIsnt (opW wIx (vW 3) (cW (.int 1))) (cW .non)) (opW wEq (opW wIx (vW 1) (cW (.int 1))) (cW (.int 0)))) nilW)))
    (retW (clW (m_law_same 4) (consW (opW wIx (vW 5) (cW (.int 0))) (consW (tupW (consW (ifW (truW (vW 6)) (opW wIx (vW 4) (cW (.int 0))) (cW .non)) (consW (ifW (truW (vW 7)) (opW wIx (vW 4) (unW wNeg (cW (.int 1)))) (cW .non)) nilW))) nilW)))))))))))

/-- law -/
def g_law : WS :=
    (seqW (asgW (.nm 1) (clW m_law_tape (consW (vW 0) nilW)))
    (seqW (forW (rgI1 (consW (cW (.int 3)) nilW)) (.nm 2) (seqW (asgW (.tp [3, 4]) (tupW (consW (clW m_law_rests (consW (vW 1) nilW)) (consW (clW m_law_rests (consW (vW 1) nilW)) nilW))))
    (seqW (asgW (.tp [5, 6]) (tupW (consW (clW m_law_numbers (consW (vW 3) nilW)) (consW (clW m_law_numbers (consW (vW 4) nilW)) nilW))))
    (seqW (ifS (notW (truW (clW wAll (consW (lcW (rgI2 (consW (unW wNeg (cW (.int 40))) (consW (cW (.int 41)) nilW))) (.nm 16) yesW (clW (m_law_same 4) (consW (clW m_holds (consW (vW 3) (consW (vW 16) nilW))) (consW (clW m_law_in (consW (vW 3) (consW (vW 16) nilW))) nilW))) [16]) nilW)))) (retW (cW (.bl false))) nxW)
    (seqW (ifS (notW (truW (clW (m_law_same 4) (consW (clW m_is_within (consW (vW 3) (consW (vW 4) nilW))) (consW (andV (clW wAll (consW (lcW (sqI (vW 5)) (.nm 16) yesW (opW (wIn false) (vW 16) (vW 6)) [16]) nilW)) (orV (opW wGt (opW wIx (vW 4) (cW (.int 1))) (cW (.int 0))) (opW wEq (opW wIx (vW 3) (cW (.int 1))) (cW (.int 0))))) nilW))))) (retW (cW (.bl false))) nxW)
    (seqW (ifS (orW (notW (truW (clW (m_law_same 4) (consW (clW m_join (consW (vW 3) (consW (vW 4) nilW))) (consW (clW m_law_least (consW (opW wAdd (slW (vW 5) noP (soP (cW (.int 8)))) (slW (vW 6) noP (soP (cW (.int 8))))) nilW)) nilW))))) (orW (notW (truW (clW m_law_reckoned (consW (vW 3) (consW (vW 4) nilW))))) (notW (truW (clW m_law_led (consW (vW 1) (consW (vW 3) nilW))))))) (retW (cW (.bl false))) nxW)
    (seqW (parW 7 8 (consW (lcW (rgI2 (consW (unW wNeg (cW (.int 200))) (consW (cW (.int 201)) nilW))) (.nm 16) (andW (truW (clW m_law_in (consW (vW 3) (consW (vW 16) nilW)))) (truW (clW m_law_in (consW (vW 4) (consW (vW 16) nilW))))) (vW 16) [16]) (consW (clW m_meet (consW (vW 3) (consW (vW 4) nilW))) nilW)))
    (seqW (ifS (orW (andW (tsW (opW wEq (vW 7) (lstW nilW))) (tsW (opW wIsnt (vW 8) (cW .non)))) (andW (tsW (opW wNe (vW 7) (lstW nilW))) (orW (tsW (opW wIs (vW 8) (cW .non))) (notW (truW (clW (m_law_same 4) (consW (vW 8) (consW (clW m_law_least (consW (vW 7) nilW)) nilW)))))))) (retW (cW (.bl false))) nxW)
    (seqW (asgW (.nm 9) (opW wSub (clW m_law_draw (consW (vW 1) (consW (cW (.int 61)) nilW))) (cW (.int 30))))
    (seqW (asgW (.nm 10) (lcW (rgI2 (consW (unW wNeg (cW (.int 60))) (consW (cW (.int 60)) nilW))) (.nm 16) (andW (truW (clW m_law_in (consW (vW 3) (consW (vW 16) nilW)))) (tsW (opW wGe (vW 16) (vW 9)))) (vW 16) [16]))
    (seqW (asgW (.nm 11) (lcW (rgI2 (consW (unW wNeg (cW (.int 60))) (consW (cW (.int 60)) nilW))) (.nm 16) (andW (truW (clW m_law_in (consW (vW 3) (consW (vW 16) nilW)))) (tsW (opW wLe (vW 16) (vW 9)))) (vW 16) [16]))
    (seqW (ifS (notW (truW (clW (m_law_same 4) (consW (tupW (consW (clW m_first_from (consW (vW 3) (consW (vW 9) nilW))) (consW (clW m_last_to (consW (vW 3) (consW (vW 9) nilW))) nilW))) (consW (tupW (consW (ifW (tsW (opW wNe (vW 10) (lstW nilW))) (opW wIx (vW 10) (cW (.int 0))) (cW .non)) (consW (ifW (tsW (opW wNe (vW 11) (lstW nilW))) (opW wIx (vW 11) (unW wNeg (cW (.int 1)))) (cW .non)) nilW))) nilW))))) (retW (cW (.bl false))) nxW)
    (seqW (parW 12 13 (consW (opW wSub (clW m_law_draw (consW (vW 1) (consW (cW (.int 99)) nilW))) (cW (.int 49))) (consW (clW m_law_draw (consW (vW 1) (consW (cW (.int 20)) nilW))) nilW)))
    (ifS (notW (truW (clW (m_law_same 4) (consW (tupW (consW (clW m_make (consW (vW 12) (consW (vW 13) nilW))) (consW (clW m_of (consW (vW 12) nilW)) nilW))) (consW (tupW (consW (ifW (tsW (opW wGt (vW 13) (cW (.int 0)))) (tupW (consW (opW wMod (vW 12) (vW 13)) (consW (vW 13) nilW))) (tupW (consW (vW 12) (consW (cW (.int 0)) nilW)))) (consW (tupW (consW (vW 12) (consW (cW (.int 0)) nilW))) nilW))) nilW))))) (retW (cW (.bl false))) nxW))))))))))))))
    (seqW (asgW (.nm 14) (opW wSub (opW wAdd (opW wPow (cW (.int 10)) (cW (.int 6))) (clW m_law_draw (consW (vW 1) (consW (cW (.int 3)) nilW)))) (cW (.int 1))))
    (seqW (ifS (notW (truW (clW (m_law_same 4) (consW (tupW (consW (clW m_tamed (consW (tupW (consW (cW (.int 1)) (consW (vW 14) nilW))) nilW)) (consW (cW (.tup [.int 0, .int 1])) nilW))) (consW (tupW (consW (ifW (tsW (opW wLe (vW 14) (opW wPow (cW (.int 10)) (cW (.int 6))))) (tupW (consW (cW (.int 1)) (consW (vW 14) nilW))) (tupW (consW (cW (.int 0)) (consW (cW (.int 1)) nilW)))) (consW (tupW (consW (cW (.int 0)) (consW (cW (.int 1)) nilW))) nilW))) nilW))))) (retW (cW (.bl false))) nxW)
    (seqW (asgW (.nm 15) (lstW (consW (tupW (consW (cW (.int 2)) (consW (cW (.int 2)) nilW))) (consW (tupW (consW (unW wNeg (cW (.int 1))) (consW (cW (.int 3)) nilW))) (consW (tupW (consW (cW (.int 1)) (consW (unW wNeg (cW (.int 1))) nilW))) (consW (tupW (consW (cW (.int 0)) nilW)) (consW (lstW (consW (cW (.int 0)) (consW (cW (.int 1)) nilW))) (consW (cW .non) (consW (tupW (consW (cW (.bl true)) (consW (cW (.int 3)) nilW))) (consW (tupW (consW (cW (.int 0)) (consW (cW (.bl true)) nilW))) (consW (tupW (consW (cW (.int 1)) (consW (cW (.int 2)) (consW (cW (.int 3)) nilW)))) (consW (cW (.str "ab")) (consW (tupW (consW (cW (.int 3)) (consW (cW (.int 1)) nilW))) (consW (cW (.int 7)) nilW))))))))))))))
    (retW (andV (notV (clW wAny (consW (lcW (sqI (vW 15)) (.nm 17) yesW (clW m_is_rests (consW (vW 17) nilW)) [17]) nilW))) (clW wAll (consW (lcW (sqI (lstW (consW (tupW (consW (cW (.int 0)) (consW (cW (.int 1)) nilW))) (consW (tupW (consW (cW (.int 5)) (consW (cW (.int 0)) nilW))) (consW (tupW (consW (unW wNeg (cW (.int 5))) (consW (cW (.int 0)) nilW))) (consW (tupW (consW (cW (.int 2)) (consW (cW (.int 3)) nilW))) (consW (tupW (consW (cW (.int 0)) (consW (cW (.int 7)) nilW))) nilW))))))) (.nm 17) yesW (clW m_is_rests (consW (vW 17) nilW)) [17]) nilW)))))))))

end K41
namespace K41
open PySem PySem.Spec L2 DL
/-! ### divisors -/
theorem gcdI_nn (a b : Int) : 0 ≤ gcdI a b := Int.natCast_nonneg _
theorem dvd_gcdI {d a b : Int} : d ∣ gcdI a b ↔ d ∣ a ∧ d ∣ b := Int.dvd_coe_gcd_iff
theorem eq_of_dvds {a b : Int} (ha : 0 ≤ a) (hb : 0 ≤ b) (h : ∀ d, d ∣ a ↔ d ∣ b) : a = b :=
  Int.dvd_antisymm ha hb ((h a).mp (Int.dvd_refl a)) ((h b).mpr (Int.dvd_refl b))
theorem fdiv_pos {x y : Int} (h : 0 < y) : x.fdiv y = x / y := Int.fdiv_eq_ediv_of_nonneg x (by omega)
theorem fmod_pos {x y : Int} (h : 0 < y) : x.fmod y = x % y := Int.fmod_eq_emod_of_nonneg x (by omega)
theorem fmod_zero_iff {x y : Int} : x.fmod y = 0 ↔ y ∣ x := by
  constructor
  · intro h
    have e := Int.fmod_add_mul_fdiv x y
    rw [h, Int.zero_add] at e
    exact ⟨_, e.symm⟩
  · rintro ⟨k, rfl⟩
    exact Int.mul_fmod_right _ _
theorem fmod_congr (x y : Int) : y ∣ x - x.fmod y := by
  have e := Int.fmod_add_mul_fdiv x y
  exact ⟨x.fdiv y, by omega⟩
theorem gcd_step {a b : Int} (ha : 0 ≤ a) (hb : 0 < b) : gcdI b (a.fmod b) = gcdI a b := by
  refine eq_of_dvds (gcdI_nn _ _) (gcdI_nn _ _) fun d => ?_
  rw [dvd_gcdI, dvd_gcdI]
  have e := Int.fmod_add_mul_fdiv a b
  constructor
  · rintro ⟨h1, h2⟩
    refine ⟨?_, h1⟩
    rw [← e]
    exact Int.dvd_add h2 (Int.dvd_trans h1 (Int.dvd_mul_right _ _))
  · rintro ⟨h1, h2⟩
    refine ⟨h2, ?_⟩
    have e2 : a.fmod b = a - b * a.fdiv b := by omega
    rw [e2]
    exact Int.dvd_sub h1 (Int.dvd_trans h2 (Int.dvd_mul_right _ _))
theorem gcd_abs (a b : Int) : gcdI (absI a) (absI b) = gcdI a b := by
  refine eq_of_dvds (gcdI_nn _ _) (gcdI_nn _ _) fun d => ?_
  rw [dvd_gcdI, dvd_gcdI]
  unfold absI
  constructor
  · rintro ⟨h1, h2⟩
    exact ⟨by split at h1 <;> first | exact Int.dvd_neg.mp h1 | exact h1, by split at h2 <;> first | exact Int.dvd_neg.mp h2 | exact h2⟩
  · rintro ⟨h1, h2⟩
    exact ⟨by split <;> first | exact Int.dvd_neg.mpr h1 | exact h1, by split <;> first | exact Int.dvd_neg.mpr h2 | exact h2⟩
theorem gcd_zero {a : Int} (h : 0 ≤ a) : gcdI a 0 = a := by
  refine eq_of_dvds (gcdI_nn _ _) h fun d => ?_
  rw [dvd_gcdI]
  exact ⟨fun h => h.1, fun h => ⟨h, Int.dvd_zero d⟩⟩
/-! ### numbers in rests -/
theorem in_iff (a : RT) (n : Int) : inB a n = true ↔ a.2 ∣ n - a.1 := by
  unfold inB
  by_cases h : a.2 = 0
  · rw [if_pos h, h, decide_eq_true_eq, Int.zero_dvd]; omega
  · rw [if_neg h, decide_eq_true_eq, fmod_zero_iff]
theorem mk_in (r s n : Int) : inB (mkS r s) n = true ↔ s ∣ n - r := by
  rw [in_iff]
  unfold mkS
  by_cases h : s = 0
  · rw [if_pos h, h]
  · rw [if_neg h]
    show s ∣ n - r.fmod s ↔ _
    have q := fmod_congr r s
    constructor
    · intro z
      have e : n - r = (n - r.fmod s) - (r - r.fmod s) := by omega
      rw [e]; exact Int.dvd_sub z q
    · intro z
      have e : n - r.fmod s = (n - r) + (r - r.fmod s) := by omega
      rw [e]; exact Int.dvd_add z q
theorem mk_congr {r r' s : Int} (hs : 0 ≤ s) (h : s ∣ r - r') : mkS r s = mkS r' s := by
  unfold mkS
  by_cases h0 : s = 0
  · rw [if_pos h0, if_pos h0]
    rw [h0, Int.zero_dvd] at h
    rw [show r = r' by omega]
  · rw [if_neg h0, if_neg h0, fmod_pos (by omega), fmod_pos (by omega)]
    rw [Int.emod_eq_emod_iff_emod_sub_eq_zero.mpr (Int.dvd_iff_emod_eq_zero.mp h)]
theorem mk_self {a : RT} (h : a.2 = 0 ∨ (0 < a.2 ∧ 0 ≤ a.1 ∧ a.1 < a.2)) : mkS a.1 a.2 = a := by
  obtain ⟨r, s⟩ := a
  unfold mkS
  rcases h with h | ⟨h1, h2, h3⟩
  · have h : s = 0 := h
    rw [if_pos h, h]
  · have h1 : 0 < s := h1
    rw [if_neg (show ¬ s = 0 by omega), fmod_pos h1, Int.emod_eq_of_lt h2 h3]
theorem InR.ok {a : RT} (h : InR a) : a.2 = 0 ∨ (0 < a.2 ∧ 0 ≤ a.1 ∧ a.1 < a.2) := by
  rcases h with h | h
  · exact .inl h.1
  · exact .inr ⟨by omega, h.2.2⟩
theorem InR.nn {a : RT} (h : InR a) : 0 ≤ a.2 := by
  rcases h with h | h <;> omega
theorem InR.small {a : RT} (h : InR a) : smallR a := by
  unfold smallR smallI
  rcases h with h | h
  · exact ⟨⟨by omega, by omega⟩, ⟨by omega, by omega⟩⟩
  · exact ⟨⟨by omega, by omega⟩, ⟨by omega, by omega⟩⟩
/-! ### the least pair of numbers -/
theorem foldl_gcd (n0 : Int) : ∀ (ns : List Int) (g : Int), 0 ≤ g → 0 ≤ ns.foldl (fun g n => gcdI g (n - n0)) g ∧ ∀ d, d ∣ ns.foldl (fun g n => gcdI g (n - n0)) g ↔ d ∣ g ∧ ∀ n ∈ ns, d ∣ n - n0
  | [], g, hg => ⟨hg, fun d => ⟨fun h => ⟨h, fun n hn => by cases hn⟩, fun h => h.1⟩⟩
  | n :: ns, g, hg => by
    obtain ⟨h1, h2⟩ := foldl_gcd n0 ns (gcdI g (n - n0)) (gcdI_nn _ _)
    refine ⟨h1, fun d => ?_⟩
    rw [List.foldl_cons, h2 d, dvd_gcdI]
    constructor
    · rintro ⟨⟨a, b⟩, c⟩
      refine ⟨a, fun m hm => ?_⟩
      rcases List.mem_cons.mp hm with rfl | hm
      · exact b
      · exact c m hm
    · rintro ⟨a, c⟩
      exact ⟨⟨a, c n List.mem_cons_self⟩, fun m hm => c m (List.mem_cons_of_mem _ hm)⟩
theorem gcdL_nn (n0 : Int) (ns : List Int) : 0 ≤ gcdL n0 ns := (foldl_gcd n0 ns 0 (Int.le_refl 0)).1
theorem dvd_gcdL {n0 d : Int} {ns : List Int} : d ∣ gcdL n0 ns ↔ ∀ n ∈ ns, d ∣ n - n0 := by
  have q := (foldl_gcd n0 ns 0 (Int.le_refl 0)).2 d
  exact ⟨fun h => (q.mp h).2, fun h => q.mpr ⟨Int.dvd_zero d, h⟩⟩
theorem least_eq {n0 : Int} {ns : List Int} {r g : Int} (hg : 0 ≤ g) (h : ∀ d, d ∣ g ↔ ∀ n ∈ n0 :: ns, d ∣ n - n0) (hr : g ∣ n0 - r) : leastR (n0 :: ns) = mkS r g := by
  have e : gcdL n0 (n0 :: ns) = g := eq_of_dvds (gcdL_nn _ _) hg fun d => by rw [dvd_gcdL, h d]
  show mkS n0 (gcdL n0 (n0 :: ns)) = _
  rw [e]
  exact mk_congr hg hr
/-- numbers of a, two of them a step apart -/
structure Some2 (a : RT) (xs : List Int) : Prop where
  ne : xs ≠ []
  all : ∀ x ∈ xs, a.2 ∣ x - a.1
  two : a.2 = 0 ∨ ∃ x y, x ∈ xs ∧ y ∈ xs ∧ y - x = a.2
theorem Some2.dvd {a : RT} {xs : List Int} (h : Some2 a xs) {x0 : Int} (h0 : x0 ∈ xs) (d : Int) : (∀ x ∈ xs, d ∣ x - x0) ↔ d ∣ a.2 := by
  constructor
  · intro q
    rcases h.two with z | ⟨x, y, hx, hy, e⟩
    · rw [z]; exact Int.dvd_zero d
    · have e2 : a.2 = (y - x0) - (x - x0) := by omega
      rw [e2]
      exact Int.dvd_sub (q y hy) (q x hx)
  · intro q x hx
    have e : x - x0 = (x - a.1) - (x0 - a.1) := by omega
    rw [e]
    exact Int.dvd_sub (Int.dvd_trans q (h.all x hx)) (Int.dvd_trans q (h.all x0 h0))
def domR : List RT := (rng (-15) 31).map (fun r => (r, 0)) ++ (rng 1 12).flatMap fun s => (rng 0 s.toNat).map fun r => (r, s)
theorem mem_domR {a : RT} (h : InR a) : a ∈ domR := by
  obtain ⟨r, s⟩ := a
  unfold domR
  rcases h with ⟨h1, h2, h3⟩ | ⟨h1, h2, h3, h4⟩
  · have h1 : s = 0 := h1
    have h2 : -15 ≤ r := h2
    have h3 : r ≤ 15 := h3
    subst h1
    exact List.mem_append.mpr (.inl (List.mem_map.mpr ⟨r, mem_rng.mpr ⟨h2, by omega⟩, rfl⟩))
  · have h1 : 1 ≤ s := h1
    have h2 : s ≤ 12 := h2
    have h3 : 0 ≤ r := h3
    have h4 : r < s := h4
    exact List.mem_append.mpr (.inr (List.mem_flatMap.mpr ⟨s, mem_rng.mpr ⟨h1, by omega⟩, List.mem_map.mpr ⟨r, mem_rng.mpr ⟨h3, by omega⟩, rfl⟩⟩))
def two (a : RT) : List Int → Bool
  | [] => false
  | [x] => a.2 == 0
  | x :: y :: _ => a.2 == 0 || y - x == a.2
theorem two_all : (domR.all fun a => two a ((numsR a).take 8) && two a ((numsR a).take 9)) = true := by decide +kernel
theorem two_ok {a : RT} {xs : List Int} (h : two a xs = true) (hx : ∀ x ∈ xs, inB a x = true) : Some2 a xs := by
  refine ⟨(fun z => by subst z; cases h), fun x hm => (in_iff a x).mp (hx x hm), ?_⟩
  match xs, h with
  | [x], h => exact .inl (eq_of_beq h)
  | x :: y :: r, h =>
    have h : (a.2 == 0 || y - x == a.2) = true := h
    rw [Bool.or_eq_true] at h
    rcases h with h | h
    · exact .inl (eq_of_beq h)
    · exact .inr ⟨x, y, List.mem_cons_self, List.mem_cons_of_mem _ List.mem_cons_self, eq_of_beq h⟩
theorem nums_in {a : RT} {n : Int} (h : n ∈ numsR a) : inB a n = true := (List.mem_filter.mp h).2
theorem some8 {a : RT} (h : InR a) : Some2 a ((numsR a).take 8) := by
  have q := List.all_eq_true.mp two_all a (mem_domR h)
  rw [Bool.and_eq_true] at q
  exact two_ok q.1 fun x hx => nums_in (List.mem_of_mem_take hx)
theorem some9 {a : RT} (h : InR a) : Some2 a ((numsR a).take 9) := by
  have q := List.all_eq_true.mp two_all a (mem_domR h)
  rw [Bool.and_eq_true] at q
  exact two_ok q.2 fun x hx => nums_in (List.mem_of_mem_take hx)
theorem join_ok {a b : RT} (ha : InR a) (hb : InR b) : leastR ((numsR a).take 8 ++ (numsR b).take 8) = joinR a b := by
  have A := some8 ha
  have B := some8 hb
  generalize (numsR a).take 8 = xs at A
  generalize (numsR b).take 8 = ys at B
  obtain ⟨x0, xr, rfl⟩ : ∃ x r, xs = x :: r := by
    cases xs with
    | nil => exact absurd rfl A.ne
    | cons x r => exact ⟨x, r, rfl⟩
  obtain ⟨y0, yr, rfl⟩ : ∃ x r, ys = x :: r := by
    cases ys with
    | nil => exact absurd rfl B.ne
    | cons x r => exact ⟨x, r, rfl⟩
  have hx0 := A.all x0 List.mem_cons_self
  have hy0 := B.all y0 List.mem_cons_self
  refine least_eq (gcdI_nn _ _) (fun d => ?_) ?_
  · rw [dvd_gcdI, dvd_gcdI, ← A.dvd (List.mem_cons_self (a := x0)) d, ← B.dvd (List.mem_cons_self (a := y0)) d]
    constructor
    · rintro ⟨⟨h1, h2⟩, h3⟩ n hn
      have d1 := (A.dvd (List.mem_cons_self (a := x0)) d).mp h1
      have d2 := (B.dvd (List.mem_cons_self (a := y0)) d).mp h2
      have q1 := Int.dvd_trans d1 hx0
      have q2 := Int.dvd_trans d2 hy0
      rcases List.mem_append.mp (show n ∈ (x0 :: xr) ++ (y0 :: yr) from hn) with hn | hn
      · exact h1 n hn
      · have e : n - x0 = (n - y0) + (y0 - b.1) - (a.1 - b.1) - (x0 - a.1) := by omega
        rw [e]
        exact Int.dvd_sub (Int.dvd_sub (Int.dvd_add (h2 n hn) q2) h3) q1
    · intro h
      have hA : ∀ x ∈ x0 :: xr, d ∣ x - x0 := fun x hx => h x (List.mem_append.mpr (.inl hx) : x ∈ (x0 :: xr) ++ (y0 :: yr))
      have hB' : ∀ y ∈ y0 :: yr, d ∣ y - x0 := fun x hx => h x (List.mem_append.mpr (.inr hx) : x ∈ (x0 :: xr) ++ (y0 :: yr))
      have hB : ∀ y ∈ y0 :: yr, d ∣ y - y0 := fun y hy => by
        have e : y - y0 = (y - x0) - (y0 - x0) := by omega
        rw [e]; exact Int.dvd_sub (hB' y hy) (hB' y0 List.mem_cons_self)
      have d1 := (A.dvd (List.mem_cons_self (a := x0)) d).mp hA
      have d2 := (B.dvd (List.mem_cons_self (a := y0)) d).mp hB
      refine ⟨⟨hA, hB⟩, ?_⟩
      have e : a.1 - b.1 = (y0 - b.1) - (x0 - a.1) - (y0 - x0) := by omega
      rw [e]
      exact Int.dvd_sub (Int.dvd_sub (Int.dvd_trans d2 hy0) (Int.dvd_trans d1 hx0)) (hB' y0 List.mem_cons_self)
  · have z : gcdI (gcdI a.2 b.2) (a.1 - b.1) ∣ a.2 := (dvd_gcdI.mp (dvd_gcdI.mp (Int.dvd_refl _)).1).1
    exact Int.dvd_trans z hx0
/-! sums, gaps, contraries -/
def sums (xs ys : List Int) : List Int := xs.flatMap fun x => ys.map fun y => x + y
def gaps (xs ys : List Int) : List Int := xs.flatMap fun x => ys.map fun y => x - y
theorem mem_sums {xs ys : List Int} {n : Int} : n ∈ sums xs ys ↔ ∃ x ∈ xs, ∃ y ∈ ys, n = x + y := by
  unfold sums
  simp only [List.mem_flatMap, List.mem_map]
  constructor
  · rintro ⟨x, hx, y, hy, e⟩; exact ⟨x, hx, y, hy, e.symm⟩
  · rintro ⟨x, hx, y, hy, e⟩; exact ⟨x, hx, y, hy, e.symm⟩
theorem mem_gaps {xs ys : List Int} {n : Int} : n ∈ gaps xs ys ↔ ∃ x ∈ xs, ∃ y ∈ ys, n = x - y := by
  unfold gaps
  simp only [List.mem_flatMap, List.mem_map]
  constructor
  · rintro ⟨x, hx, y, hy, e⟩; exact ⟨x, hx, y, hy, e.symm⟩
  · rintro ⟨x, hx, y, hy, e⟩; exact ⟨x, hx, y, hy, e.symm⟩
theorem cons_of {xs : List Int} (h : xs ≠ []) : ∃ x r, xs = x :: r := by
  cases xs with
  | nil => exact absurd rfl h
  | cons x r => exact ⟨x, r, rfl⟩
theorem sums_ok {a b : RT} {xs ys : List Int} (A : Some2 a xs) (B : Some2 b ys) : leastR (sums xs ys) = addR a b := by
  obtain ⟨x0, xr, rfl⟩ := cons_of A.ne
  obtain ⟨y0, yr, rfl⟩ := cons_of B.ne
  have hx0 := A.all x0 List.mem_cons_self
  have hy0 := B.all y0 List.mem_cons_self
  have e0 : sums (x0 :: xr) (y0 :: yr) = (x0 + y0) :: (yr.map (fun y => x0 + y) ++ sums xr (y0 :: yr)) := rfl
  have mem := fun n => mem_sums (xs := x0 :: xr) (ys := y0 :: yr) (n := n)
  rw [e0] at mem ⊢
  refine least_eq (gcdI_nn _ _) (fun d => ?_) ?_
  · rw [dvd_gcdI, ← A.dvd (List.mem_cons_self (a := x0)) d, ← B.dvd (List.mem_cons_self (a := y0)) d]
    constructor
    · rintro ⟨h1, h2⟩ n hn
      obtain ⟨x, hx, y, hy, rfl⟩ := (mem n).mp hn
      have e : x + y - (x0 + y0) = (x - x0) + (y - y0) := by omega
      rw [e]; exact Int.dvd_add (h1 x hx) (h2 y hy)
    · intro h
      refine ⟨fun x hx => ?_, fun y hy => ?_⟩
      · have q := h _ ((mem (x + y0)).mpr ⟨x, hx, y0, List.mem_cons_self, rfl⟩)
        rwa [show x + y0 - (x0 + y0) = x - x0 by omega] at q
      · have q := h _ ((mem (x0 + y)).mpr ⟨x0, List.mem_cons_self, y, hy, rfl⟩)
        rwa [show x0 + y - (x0 + y0) = y - y0 by omega] at q
  · have z := dvd_gcdI.mp (Int.dvd_refl (gcdI a.2 b.2))
    have e : x0 + y0 - (a.1 + b.1) = (x0 - a.1) + (y0 - b.1) := by omega
    rw [e]
    exact Int.dvd_add (Int.dvd_trans z.1 hx0) (Int.dvd_trans z.2 hy0)
theorem con_2 {b : RT} (hb : InR b) : (conR b).2 = b.2 := by
  unfold conR mkS
  split
  · rename_i h; exact h.symm
  · rfl
theorem con_1 (b : RT) : b.2 ∣ (conR b).1 + b.1 := by
  unfold conR mkS
  split
  · rename_i h
    rw [h]
    show (0 : Int) ∣ -b.1 + b.1
    rw [show -b.1 + b.1 = 0 by omega]
    exact Int.dvd_refl 0
  · have q := fmod_congr (-b.1) b.2
    have e : (-b.1).fmod b.2 + b.1 = -(-b.1 - (-b.1).fmod b.2) := by omega
    show b.2 ∣ (-b.1).fmod b.2 + b.1
    rw [e]
    exact Int.dvd_neg.mpr q
theorem gaps_ok {a b : RT} {xs ys : List Int} (hb : InR b) (A : Some2 a xs) (B : Some2 b ys) : leastR (gaps xs ys) = subR a b := by
  obtain ⟨x0, xr, rfl⟩ := cons_of A.ne
  obtain ⟨y0, yr, rfl⟩ := cons_of B.ne
  have hx0 := A.all x0 List.mem_cons_self
  have hy0 := B.all y0 List.mem_cons_self
  have e0 : gaps (x0 :: xr) (y0 :: yr) = (x0 - y0) :: (yr.map (fun y => x0 - y) ++ gaps xr (y0 :: yr)) := rfl
  have mem := fun n => mem_gaps (xs := x0 :: xr) (ys := y0 :: yr) (n := n)
  rw [e0] at mem ⊢
  refine least_eq (gcdI_nn _ _) (fun d => ?_) ?_
  · rw [dvd_gcdI, con_2 hb, ← A.dvd (List.mem_cons_self (a := x0)) d, ← B.dvd (List.mem_cons_self (a := y0)) d]
    constructor
    · rintro ⟨h1, h2⟩ n hn
      obtain ⟨x, hx, y, hy, rfl⟩ := (mem n).mp hn
      have e : x - y - (x0 - y0) = (x - x0) - (y - y0) := by omega
      rw [e]; exact Int.dvd_sub (h1 x hx) (h2 y hy)
    · intro h
      refine ⟨fun x hx => ?_, fun y hy => ?_⟩
      · have q := h _ ((mem (x - y0)).mpr ⟨x, hx, y0, List.mem_cons_self, rfl⟩)
        rwa [show x - y0 - (x0 - y0) = x - x0 by omega] at q
      · have q := h _ ((mem (x0 - y)).mpr ⟨x0, List.mem_cons_self, y, hy, rfl⟩)
        rw [show x0 - y - (x0 - y0) = -(y - y0) by omega] at q
        exact Int.dvd_neg.mp q
  · rw [con_2 hb]
    have z := dvd_gcdI.mp (Int.dvd_refl (gcdI a.2 b.2))
    have e : x0 - y0 - (a.1 + (conR b).1) = (x0 - a.1) - (y0 - b.1) - ((conR b).1 + b.1) := by omega
    rw [e]
    exact Int.dvd_sub (Int.dvd_sub (Int.dvd_trans z.1 hx0) (Int.dvd_trans z.2 hy0)) (Int.dvd_trans z.2 (con_1 b))
theorem negs_ok {a : RT} {xs : List Int} (ha : InR a) (A : Some2 a xs) : leastR (xs.map fun x => -x) = conR a := by
  obtain ⟨x0, xr, rfl⟩ := cons_of A.ne
  have hx0 := A.all x0 List.mem_cons_self
  refine least_eq (ha.nn) (fun d => ?_) ?_
  · rw [← A.dvd (List.mem_cons_self (a := x0)) d]
    constructor
    · intro h n hn
      obtain ⟨x, hx, rfl⟩ := List.mem_map.mp (show n ∈ (x0 :: xr).map (fun x => -x) from hn)
      rw [show -x - -x0 = -(x - x0) by omega]
      exact Int.dvd_neg.mpr (h x hx)
    · intro h x hx
      have q := h (-x) (show -x ∈ (x0 :: xr).map (fun x => -x) from List.mem_map.mpr ⟨x, hx, rfl⟩)
      rw [show -x - -x0 = -(x - x0) by omega] at q
      exact Int.dvd_neg.mp q
  · rw [show -x0 - -a.1 = -(x0 - a.1) by omega]
    exact Int.dvd_neg.mpr hx0
/-! products, quotients, rests -/
theorem mul_in {a b : RT} {x y : Int} (hx : inB a x = true) (hy : inB b y = true) : inB (mulR a b) (x * y) = true := by
  obtain ⟨i, ei⟩ := (in_iff a x).mp hx
  obtain ⟨j, ej⟩ := (in_iff b y).mp hy
  have z := dvd_gcdI.mp (Int.dvd_refl (gcdI (gcdI (a.2 * b.2) (a.2 * b.1)) (b.2 * a.1)))
  have z1 := dvd_gcdI.mp z.1
  refine (mk_in _ _ _).mpr ?_
  have e1 : x = a.1 + a.2 * i := by omega
  have e2 : y = b.1 + b.2 * j := by omega
  have e : x * y - a.1 * b.1 = a.2 * b.2 * (i * j) + a.2 * b.1 * i + b.2 * a.1 * j := by
    rw [e1, e2]
    simp only [Int.add_mul, Int.mul_add]
    have p1 : a.1 * (b.2 * j) = b.2 * a.1 * j := by rw [← Int.mul_assoc, Int.mul_comm a.1 b.2]
    have p2 : a.2 * i * b.1 = a.2 * b.1 * i := by rw [Int.mul_assoc, Int.mul_comm i b.1, ← Int.mul_assoc]
    have p3 : a.2 * i * (b.2 * j) = a.2 * b.2 * (i * j) := by
      rw [Int.mul_assoc, Int.mul_assoc, ← Int.mul_assoc i b.2 j, Int.mul_comm i b.2, Int.mul_assoc b.2 i j]
    rw [p1, p2, p3]
    omega
  rw [e]
  exact Int.dvd_add (Int.dvd_add (Int.dvd_trans z1.1 (Int.dvd_mul_right _ _)) (Int.dvd_trans z1.2 (Int.dvd_mul_right _ _))) (Int.dvd_trans z.2 (Int.dvd_mul_right _ _))
theorem all_in (n : Int) : inB (0, 1) n = true := (in_iff _ _).mpr (Int.one_dvd _)
theorem zero_in {a : RT} {x : Int} (h0 : a.2 = 0) (h : inB a x = true) : x = a.1 := by
  unfold inB at h
  rw [if_pos h0] at h
  exact of_decide_eq_true h
theorem quo_in {a b : RT} {x y : Int} (hx : inB a x = true) (hy : inB b y = true) (h0 : y ≠ 0) : inB (quoR a b) (x.fdiv y) = true := by
  unfold quoR
  by_cases c1 : b.2 ≠ 0 ∨ b.1 = 0
  · rw [if_pos c1]; exact all_in _
  · rw [if_neg c1]
    have c1a : b.2 = 0 := by
      rcases Decidable.em (b.2 = 0) with h | h
      · exact h
      · exact absurd (.inl h) c1
    have ey := zero_in c1a hy
    subst ey
    by_cases c2 : a.2 = 0
    · rw [if_pos c2]
      have ex := zero_in c2 hx
      subst ex
      exact (in_iff _ _).mpr (by simp)
    · rw [if_neg c2]
      by_cases c3 : a.1.fmod b.1 = 0 ∧ a.2.fmod b.1 = 0
      · rw [if_pos c3]
        refine (mk_in _ _ _).mpr ?_
        obtain ⟨i, ei⟩ := (in_iff a x).mp hx
        obtain ⟨p, ep⟩ := fmod_zero_iff.mp c3.1
        obtain ⟨q, eq⟩ := fmod_zero_iff.mp c3.2
        have ex : x = b.1 * (p + q * i) := by
          have : x = a.1 + a.2 * i := by omega
          rw [this, ep, eq, Int.mul_add, Int.mul_assoc]
        have d1 : x.fdiv b.1 = p + q * i := by rw [ex]; exact Int.mul_fdiv_cancel_left _ h0
        have d2 : a.1.fdiv b.1 = p := by rw [ep]; exact Int.mul_fdiv_cancel_left _ h0
        have d3 : a.2.fdiv b.1 = q := by rw [eq]; exact Int.mul_fdiv_cancel_left _ h0
        rw [d1, d2, d3, show p + q * i - p = q * i by omega]
        unfold absI
        split
        · exact Int.neg_dvd.mpr (Int.dvd_mul_right _ _)
        · exact Int.dvd_mul_right _ _
      · rw [if_neg c3]; exact all_in _
theorem rem_in {a b : RT} {x y : Int} (hx : inB a x = true) (hy : inB b y = true) (h0 : y ≠ 0) : inB (remR a b) (x.fmod y) = true := by
  unfold remR
  have hx' := (in_iff a x).mp hx
  have hy' := (in_iff b y).mp hy
  by_cases c1 : a.2 = 0 ∧ b.2 = 0 ∧ b.1 ≠ 0
  · rw [if_pos c1]
    have ex := zero_in c1.1 hx
    have ey := zero_in c1.2.1 hy
    subst ex; subst ey
    exact (in_iff _ _).mpr (by simp)
  · rw [if_neg c1]
    by_cases c2 : b.2 ≠ 0
    · rw [if_pos c2]
      refine (mk_in _ _ _).mpr ?_
      have z := dvd_gcdI.mp (Int.dvd_refl (gcdI a.2 (gcdI b.1 b.2)))
      have z1 := dvd_gcdI.mp z.2
      have dy : gcdI a.2 (gcdI b.1 b.2) ∣ y := by
        have e : y = (y - b.1) + b.1 := by omega
        rw [e]; exact Int.dvd_add (Int.dvd_trans z1.2 hy') z1.1
      have e : x.fmod y - a.1 = (x - a.1) - (x - x.fmod y) := by omega
      rw [e]
      exact Int.dvd_sub (Int.dvd_trans z.1 hx') (Int.dvd_trans dy (fmod_congr x y))
    · rw [if_neg c2]
      have hb2 : b.2 = 0 := by
        rcases Decidable.em (b.2 = 0) with h | h
        · exact h
        · exact absurd h c2
      have ey := zero_in hb2 hy
      subst ey
      rw [if_pos h0]
      refine (mk_in _ _ _).mpr ?_
      have z := dvd_gcdI.mp (Int.dvd_refl (gcdI a.2 b.1))
      have e : x.fmod b.1 - a.1.fmod b.1 = (x - a.1) - (x - x.fmod b.1) + (a.1 - a.1.fmod b.1) := by omega
      rw [e]
      exact Int.dvd_add (Int.dvd_sub (Int.dvd_trans z.1 hx') (Int.dvd_trans z.2 (fmod_congr x b.1))) (Int.dvd_trans z.2 (fmod_congr a.1 b.1))
end K41
namespace K41
open PySem PySem.Spec L2 DL
theorem least_some {c m : Int} {xs : List Int} (hm : 0 ≤ m) (A : Some2 (c, m) xs) : leastR xs = mkS c m := by
  obtain ⟨x0, xr, rfl⟩ := cons_of A.ne
  exact least_eq hm (fun d => (A.dvd List.mem_cons_self d).symm) (A.all x0 List.mem_cons_self)
theorem someN {a : RT} (h : InR a) : Some2 a (numsR a) := by
  have q := some9 h
  refine ⟨fun z => q.ne (by rw [z]; rfl), fun x hx => (in_iff a x).mp (nums_in hx), ?_⟩
  rcases q.two with z | ⟨x, y, hx, hy, e⟩
  · exact .inl z
  · exact .inr ⟨x, y, List.mem_of_mem_take hx, List.mem_of_mem_take hy, e⟩
theorem nums_mem {a : RT} {n : Int} : n ∈ numsR a ↔ (-40 ≤ n ∧ n ≤ 40) ∧ inB a n = true := by
  unfold numsR
  rw [List.mem_filter, mem_rng]
  constructor
  · rintro ⟨h, k⟩; exact ⟨by omega, k⟩
  · rintro ⟨h, k⟩; exact ⟨by omega, k⟩
theorem within_ok {a b : RT} (ha : InR a) (hb : InR b) : (((numsR a).map fun n => (numsR b).any fun k => k == n).all id && (decide (0 < b.2) || decide (a.2 = 0))) = wiB a b := by
  have A := someN ha
  have all : ((numsR a).map fun n => (numsR b).any fun k => k == n).all id = true ↔ ∀ n ∈ numsR a, inB b n = true := by
    rw [List.all_map, List.all_eq_true]
    constructor
    · intro h n hn
      obtain ⟨k, hk, e⟩ := List.any_eq_true.mp (h n hn)
      have e : k = n := eq_of_beq e
      subst e
      exact (nums_mem.mp hk).2
    · intro h n hn
      exact List.any_eq_true.mpr ⟨n, nums_mem.mpr ⟨(nums_mem.mp hn).1, h n hn⟩, beq_self_eq_true n⟩
  rw [Bool.eq_iff_iff]
  unfold wiB
  rw [Bool.and_eq_true, all, Bool.or_eq_true, decide_eq_true_eq, decide_eq_true_eq]
  obtain ⟨x0, xr, ex⟩ := cons_of A.ne
  have h0 : x0 ∈ numsR a := by rw [ex]; exact List.mem_cons_self
  have hx0 := A.all x0 h0
  by_cases hb0 : b.2 = 0
  · rw [if_pos hb0, decide_eq_true_eq]
    constructor
    · rintro ⟨h, h2⟩
      have ha0 : a.2 = 0 := by
        rcases h2 with z | z
        · omega
        · exact z
      have q := zero_in hb0 (h x0 h0)
      rw [ha0, Int.zero_dvd] at hx0
      exact Prod.ext (by omega) (by omega)
    · rintro rfl
      exact ⟨fun n hn => nums_in hn, .inr hb0⟩
  · rw [if_neg hb0, Bool.and_eq_true, decide_eq_true_eq, fmod_zero_iff, in_iff]
    have hb1 := hb.nn
    constructor
    · rintro ⟨h, _⟩
      have hB : ∀ n ∈ numsR a, b.2 ∣ n - b.1 := fun n hn => (in_iff b n).mp (h n hn)
      have d : b.2 ∣ a.2 := (A.dvd h0 b.2).mp fun x hx => by
        rw [show x - x0 = (x - b.1) - (x0 - b.1) by omega]
        exact Int.dvd_sub (hB x hx) (hB x0 h0)
      refine ⟨d, ?_⟩
      rw [show a.1 - b.1 = (x0 - b.1) - (x0 - a.1) by omega]
      exact Int.dvd_sub (hB x0 h0) (Int.dvd_trans d hx0)
    · rintro ⟨d, e⟩
      refine ⟨fun n hn => (in_iff b n).mpr ?_, .inl (by omega)⟩
      rw [show n - b.1 = (n - a.1) + (a.1 - b.1) by omega]
      exact Int.dvd_add (Int.dvd_trans d (A.all n hn)) e
/-! the meeting -/
def bothR (a b : RT) : List Int := (rng (-200) 401).filter fun n => inB a n && inB b n
theorem both_mem {a b : RT} {n : Int} : n ∈ bothR a b ↔ (-200 ≤ n ∧ n ≤ 200) ∧ inB a n = true ∧ inB b n = true := by
  unfold bothR
  rw [List.mem_filter, mem_rng, Bool.and_eq_true]
  constructor
  · rintro ⟨h, k⟩; exact ⟨by omega, k⟩
  · rintro ⟨h, k⟩; exact ⟨by omega, k⟩
theorem nil_of {xs : List Int} (h : ∀ x, x ∉ xs) : xs = [] := List.eq_nil_iff_forall_not_mem.mpr h
theorem meet_l {a b : RT} (ha : InR a) (h0 : a.2 = 0) : (inB b a.1 = true → bothR a b ≠ [] ∧ leastR (bothR a b) = a) ∧ (inB b a.1 = false → bothR a b = []) := by
  have r : -15 ≤ a.1 ∧ a.1 ≤ 15 := by rcases ha with h | h <;> omega
  have self : inB a a.1 = true := (in_iff a a.1).mpr (by simp)
  constructor
  · intro h
    have m : a.1 ∈ bothR a b := both_mem.mpr ⟨by omega, self, h⟩
    have ne : bothR a b ≠ [] := fun z => by rw [z] at m; cases m
    refine ⟨ne, ?_⟩
    have A : Some2 (a.1, 0) (bothR a b) := ⟨ne, fun x hx => by
      have q := zero_in h0 (both_mem.mp hx).2.1
      rw [q]; simp, .inl rfl⟩
    rw [least_some (Int.le_refl 0) A]
    exact Prod.ext (by simp [mkS]) (by simp [mkS, h0])
  · intro h
    refine nil_of fun x hx => ?_
    have q := both_mem.mp hx
    rw [zero_in h0 q.2.1, h] at q
    cases q.2.2
theorem both_comm (a b : RT) : bothR a b = bothR b a := by
  unfold bothR
  congr 1
  funext n
  exact Bool.and_comm _ _
def steps : List RT := (rng 1 12).flatMap fun s => (rng 0 s.toNat).map fun r => (r, s)
theorem mem_steps {a : RT} (h : InR a) (h0 : a.2 ≠ 0) : a ∈ steps := by
  obtain ⟨r, s⟩ := a
  rcases h with ⟨h1, _⟩ | ⟨h1, h2, h3, h4⟩
  · exact absurd h1 h0
  · have h1 : 1 ≤ s := h1
    have h2 : s ≤ 12 := h2
    have h3 : 0 ≤ r := h3
    have h4 : r < s := h4
    exact List.mem_flatMap.mpr ⟨s, mem_rng.mpr ⟨h1, by omega⟩, List.mem_map.mpr ⟨r, mem_rng.mpr ⟨h3, by omega⟩, rfl⟩⟩
theorem crt_all : (steps.all fun a => steps.all fun b => (a.1 - b.1).emod (gcdI a.2 b.2) != 0 || (List.range 12).any fun k => (a.1 + a.2 * (k : Int) - b.1).emod b.2 == 0) = true := by decide +kernel
theorem lcm_all : ((List.range 13).all fun p => (List.range 13).all fun q => p / Nat.gcd p q * q == Nat.lcm p q && (p == 0 || q == 0 || (decide (Nat.lcm p q ≤ 132) && decide (0 < Nat.lcm p q)))) = true := by decide +kernel
theorem least_k {P : Nat → Bool} : ∀ n : Nat, P n = true → ∃ k, P k = true ∧ ∀ j, j < k → P j = false := by
  intro n
  induction n using Nat.strongRecOn with
  | _ n ih =>
    intro h
    by_cases q : ∃ j, j < n ∧ P j = true
    · obtain ⟨j, hj, hp⟩ := q
      exact ih j hj hp
    · refine ⟨n, h, fun j hj => ?_⟩
      cases e : P j with
      | false => rfl
      | true => exact absurd ⟨j, hj, e⟩ q
theorem InR.pos {a : RT} (h : InR a) (h0 : a.2 ≠ 0) : 1 ≤ a.2 ∧ a.2 ≤ 12 ∧ 0 ≤ a.1 ∧ a.1 < a.2 := by
  rcases h with h | h
  · exact absurd h.1 h0
  · exact h
theorem meet_pos {a b : RT} (ha : InR a) (hb : InR b) (a0 : a.2 ≠ 0) (b0 : b.2 ≠ 0) :
    ((a.1 - b.1).fmod (gcdI a.2 b.2) ≠ 0 → bothR a b = []) ∧ ((a.1 - b.1).fmod (gcdI a.2 b.2) = 0 → ∃ k, firstK a b k ∧ bothR a b ≠ [] ∧ leastR (bothR a b) = mkS (a.1 + a.2 * (k : Int)) (a.2.fdiv (gcdI a.2 b.2) * b.2)) := by
  have pa := ha.pos a0
  have pb := hb.pos b0
  have gd := dvd_gcdI.mp (Int.dvd_refl (gcdI a.2 b.2))
  constructor
  · intro h
    refine nil_of fun x hx => h ?_
    have q := (both_mem.mp hx).2
    rw [fmod_zero_iff]
    rw [show a.1 - b.1 = (x - b.1) - (x - a.1) by omega]
    exact Int.dvd_sub (Int.dvd_trans gd.2 ((in_iff b x).mp q.2)) (Int.dvd_trans gd.1 ((in_iff a x).mp q.1))
  · intro h
    have gp : 0 < gcdI a.2 b.2 := by
      rcases Int.lt_or_le 0 (gcdI a.2 b.2) with z | z
      · exact z
      · have e : gcdI a.2 b.2 = 0 := Int.le_antisymm z (gcdI_nn _ _)
        rw [e, Int.zero_dvd] at gd
        omega
    have ex : ∃ k : Nat, inB b (a.1 + a.2 * (k : Int)) = true := by
      have q := List.all_eq_true.mp (List.all_eq_true.mp crt_all a (mem_steps ha a0)) b (mem_steps hb b0)
      rw [Bool.or_eq_true] at q
      rcases q with q | q
      · rw [fmod_pos gp] at h
        exact absurd (show (a.1 - b.1).emod (gcdI a.2 b.2) = 0 from h) (by simpa using q)
      · obtain ⟨k, _, e⟩ := List.any_eq_true.mp q
        exact ⟨k, (in_iff b _).mpr (Int.dvd_iff_emod_eq_zero.mpr (eq_of_beq e))⟩
    obtain ⟨k0, hk0⟩ := ex
    obtain ⟨k, hk, hmin⟩ := least_k (P := fun k => inB b (a.1 + a.2 * (k : Int))) k0 hk0
    refine ⟨k, ⟨hk, hmin⟩, ?_⟩
    have hk' := (in_iff b _).mp hk
    -- the step
    have lq := List.all_eq_true.mp (List.all_eq_true.mp lcm_all a.2.toNat (List.mem_range.mpr (by omega))) b.2.toNat (List.mem_range.mpr (by omega))
    rw [Bool.and_eq_true] at lq
    have ea : ((a.2.toNat : Nat) : Int) = a.2 := by omega
    have eb : ((b.2.toNat : Nat) : Int) = b.2 := by omega
    have eg : gcdI a.2 b.2 = ((Nat.gcd a.2.toNat b.2.toNat : Nat) : Int) := by
      unfold gcdI Int.gcd
      rw [show a.2.natAbs = a.2.toNat by omega, show b.2.natAbs = b.2.toNat by omega]
    have eL : a.2.fdiv (gcdI a.2 b.2) * b.2 = ((Nat.lcm a.2.toNat b.2.toNat : Nat) : Int) := by
      rw [fdiv_pos gp, eg, ← eq_of_beq lq.1]
      rw [Int.natCast_mul, Int.natCast_ediv, ea, eb]
    have bnd : Nat.lcm a.2.toNat b.2.toNat ≤ 132 ∧ 0 < Nat.lcm a.2.toNat b.2.toNat := by
      have z := lq.2
      rw [Bool.or_eq_true, Bool.or_eq_true, Bool.and_eq_true, decide_eq_true_eq, decide_eq_true_eq] at z
      rcases z with (z | z) | z
      · have := eq_of_beq z; omega
      · have := eq_of_beq z; omega
      · exact z
    rw [eL]
    have d1 : a.2 ∣ ((Nat.lcm a.2.toNat b.2.toNat : Nat) : Int) := by
      rw [← ea]; exact Int.natCast_dvd_natCast.mpr (by rw [ea]; exact Nat.dvd_lcm_left _ _)
    have d2 : b.2 ∣ ((Nat.lcm a.2.toNat b.2.toNat : Nat) : Int) := by
      rw [← eb]; exact Int.natCast_dvd_natCast.mpr (by rw [eb]; exact Nat.dvd_lcm_right _ _)
    have dl : ∀ m : Int, a.2 ∣ m → b.2 ∣ m → ((Nat.lcm a.2.toNat b.2.toNat : Nat) : Int) ∣ m := by
      intro m h1 h2
      refine Int.ofNat_dvd_left.mpr (Nat.lcm_dvd ?_ ?_)
      · rw [← ea] at h1; exact Int.ofNat_dvd_left.mp h1
      · rw [← eb] at h2; exact Int.ofNat_dvd_left.mp h2
    generalize Nat.lcm a.2.toNat b.2.toNat = L at *
    have memN : ∀ n : Int, -200 ≤ n → n ≤ 200 → (L : Int) ∣ n - (a.1 + a.2 * (k : Int)) → n ∈ bothR a b := by
      intro n h1 h2 h3
      refine both_mem.mpr ⟨⟨h1, h2⟩, (in_iff a n).mpr ?_, (in_iff b n).mpr ?_⟩
      · rw [show n - a.1 = (n - (a.1 + a.2 * (k : Int))) + a.2 * (k : Int) by omega]
        exact Int.dvd_add (Int.dvd_trans d1 h3) (Int.dvd_mul_right _ _)
      · rw [show n - b.1 = (n - (a.1 + a.2 * (k : Int))) + (a.1 + a.2 * (k : Int) - b.1) by omega]
        exact Int.dvd_add (Int.dvd_trans d2 h3) hk'
    have hLp : (0 : Int) < L := by omega
    generalize hN : a.1 + a.2 * (k : Int) = N at *
    have u1 := Int.emod_nonneg (N + 200) (show (L : Int) ≠ 0 by omega)
    have u2 := Int.emod_lt_of_pos (N + 200) hLp
    have u3 := Int.emod_add_mul_ediv (N + 200) L
    have uu : (L : Int) ∣ (-200 + (N + 200) % L) - N := ⟨-((N + 200) / L), by rw [Int.mul_neg]; omega⟩
    have m1 := memN (-200 + (N + 200) % L) (by omega) (by omega) uu
    have m2 := memN (-200 + (N + 200) % L + L) (by omega) (by omega) (by
      rw [show (-200 + (N + 200) % L + L) - N = ((-200 + (N + 200) % L) - N) + L by omega]
      exact Int.dvd_add uu (Int.dvd_refl _))
    have ne : bothR a b ≠ [] := fun z => by rw [z] at m1; cases m1
    refine ⟨ne, least_some (by omega) ⟨ne, fun x hx => ?_, .inr ⟨_, _, m1, m2, by show _ = (L : Int); omega⟩⟩⟩
    have q := (both_mem.mp hx).2
    refine dl _ ?_ ?_
    · show a.2 ∣ x - N
      rw [← hN, show x - (a.1 + a.2 * (k : Int)) = (x - a.1) - a.2 * (k : Int) by omega]
      exact Int.dvd_sub ((in_iff a x).mp q.1) (Int.dvd_mul_right _ _)
    · show b.2 ∣ x - N
      rw [show x - N = (x - b.1) - (N - b.1) by omega]
      exact Int.dvd_sub ((in_iff b x).mp q.2) hk'
/-! first, last -/
theorem rng_lt (lo : Int) (n : Nat) : (rng lo n).Pairwise (· < ·) := by
  unfold rng
  rw [List.pairwise_map]
  exact List.pairwise_lt_range.imp fun h => by omega
theorem head_min {P : Int → Bool} {lo : Int} {n : Nat} {x : Int} (h1 : lo ≤ x) (h2 : x < lo + n) (h3 : P x = true) (h4 : ∀ y, y < x → P y = true → lo ≤ y → False) : ((rng lo n).filter P).head? = some x := by
  have m : x ∈ (rng lo n).filter P := List.mem_filter.mpr ⟨mem_rng.mpr ⟨h1, h2⟩, h3⟩
  have pw := (rng_lt lo n).filter P
  have mem := fun y => List.mem_filter (p := P) (as := rng lo n) (x := y)
  generalize (rng lo n).filter P = xs at m pw mem
  cases xs with
  | nil => cases m
  | cons h r =>
    have hh := (mem h).mp List.mem_cons_self
    have q := mem_rng.mp hh.1
    rcases List.mem_cons.mp m with e | e
    · rw [e]; rfl
    · have := (List.pairwise_cons.mp pw).1 x e
      exact (h4 h this hh.2 q.1).elim
theorem last_max {P : Int → Bool} {lo : Int} {n : Nat} {x : Int} (h1 : lo ≤ x) (h2 : x < lo + n) (h3 : P x = true) (h4 : ∀ y, x < y → P y = true → y < lo + n → False) : ((rng lo n).filter P).getLast? = some x := by
  have m : x ∈ (rng lo n).filter P := List.mem_filter.mpr ⟨mem_rng.mpr ⟨h1, h2⟩, h3⟩
  have pw := (rng_lt lo n).filter P
  have mem := fun y => List.mem_filter (p := P) (as := rng lo n) (x := y)
  generalize (rng lo n).filter P = xs at m pw mem
  rcases List.eq_nil_or_concat xs with rfl | ⟨ys, l, rfl⟩
  · cases m
  · rw [List.concat_eq_append] at *
    have hl := (mem l).mp (by simp)
    have q := mem_rng.mp hl.1
    rcases List.mem_append.mp m with e | e
    · have := (List.pairwise_append.mp pw).2.2 x e l (by simp)
      exact (h4 l this hl.2 q.2).elim
    · have e : x = l := by simpa using e
      rw [e]; simp
theorem no_between {s x y : Int} (hs : 0 < s) (h : s ∣ x - y) (h1 : y < x) (h2 : x < y + s) : False := by
  have := Int.le_of_dvd (by omega) h
  omega
def Fst (a : RT) (low : Int) : Int := low + (a.1 - low).fmod a.2
def Lst (a : RT) (high : Int) : Int := high - (high - a.1).fmod a.2
theorem fst_ok {a : RT} (h : InR a) (h0 : a.2 ≠ 0) (low : Int) : low ≤ Fst a low ∧ Fst a low < low + a.2 ∧ a.2 ∣ Fst a low - a.1 ∧ ∀ n, low ≤ n → a.2 ∣ n - a.1 → Fst a low ≤ n := by
  have p := h.pos h0
  unfold Fst
  rw [fmod_pos (by omega)]
  have e1 := Int.emod_nonneg (a.1 - low) (show a.2 ≠ 0 from h0)
  have e2 := Int.emod_lt_of_pos (a.1 - low) (show 0 < a.2 by omega)
  have e3 := Int.emod_add_mul_ediv (a.1 - low) a.2
  have d : a.2 ∣ low + (a.1 - low) % a.2 - a.1 := ⟨-((a.1 - low) / a.2), by rw [Int.mul_neg]; omega⟩
  refine ⟨by omega, by omega, d, fun n h1 h2 => ?_⟩
  rcases Int.lt_or_le n (low + (a.1 - low) % a.2) with z | z
  · exact (no_between (show 0 < a.2 by omega) (by
      rw [show low + (a.1 - low) % a.2 - n = (low + (a.1 - low) % a.2 - a.1) - (n - a.1) by omega]
      exact Int.dvd_sub d h2) z (by omega)).elim
  · exact z
theorem lst_ok {a : RT} (h : InR a) (h0 : a.2 ≠ 0) (high : Int) : Lst a high ≤ high ∧ high < Lst a high + a.2 ∧ a.2 ∣ Lst a high - a.1 ∧ ∀ n, n ≤ high → a.2 ∣ n - a.1 → n ≤ Lst a high := by
  have p := h.pos h0
  unfold Lst
  rw [fmod_pos (by omega)]
  have e1 := Int.emod_nonneg (high - a.1) (show a.2 ≠ 0 from h0)
  have e2 := Int.emod_lt_of_pos (high - a.1) (show 0 < a.2 by omega)
  have e3 := Int.emod_add_mul_ediv (high - a.1) a.2
  have d : a.2 ∣ high - (high - a.1) % a.2 - a.1 := ⟨(high - a.1) / a.2, by omega⟩
  refine ⟨by omega, by omega, d, fun n h1 h2 => ?_⟩
  rcases Int.lt_or_le (high - (high - a.1) % a.2) n with z | z
  · exact (no_between (show 0 < a.2 by omega) (by
      rw [show n - (high - (high - a.1) % a.2) = (n - a.1) - (high - (high - a.1) % a.2 - a.1) by omega]
      exact Int.dvd_sub h2 d) z (by omega)).elim
  · exact z
theorem InR.zr {a : RT} (h : InR a) (h0 : a.2 = 0) : -15 ≤ a.1 ∧ a.1 ≤ 15 := by
  rcases h with h | h <;> omega
theorem ahead_ok {a : RT} {p : Int} (h : InR a) (p1 : -30 ≤ p) (p2 : p ≤ 30) : ((rng (-60) 120).filter fun n => inB a n && decide (p ≤ n)).head? = ffE a p := by
  unfold ffE
  by_cases h0 : a.2 = 0
  · have z := h.zr h0
    rw [if_pos h0]
    by_cases q : p ≤ a.1
    · rw [if_pos q]
      refine head_min (by omega) (by omega) ?_ fun y hy hP _ => ?_
      · rw [Bool.and_eq_true, decide_eq_true_eq]; exact ⟨(in_iff a a.1).mpr (by simp), q⟩
      · rw [Bool.and_eq_true] at hP
        have := zero_in h0 hP.1
        omega
    · rw [if_neg q]
      rw [nil_of (xs := (rng (-60) 120).filter fun n => inB a n && decide (p ≤ n)) fun x hx => ?_]
      · rfl
      · have hP := (List.mem_filter.mp hx).2
        rw [Bool.and_eq_true, decide_eq_true_eq] at hP
        have := zero_in h0 hP.1
        omega
  · rw [if_neg h0]
    have pp := h.pos h0
    obtain ⟨f1, f2, f3, f4⟩ := fst_ok h h0 p
    refine head_min (x := Fst a p) (by omega) (by omega) ?_ fun y hy hP _ => ?_
    · rw [Bool.and_eq_true, decide_eq_true_eq]; exact ⟨(in_iff a _).mpr f3, f1⟩
    · rw [Bool.and_eq_true, decide_eq_true_eq] at hP
      have := f4 y hP.2 ((in_iff a y).mp hP.1)
      omega
theorem behind_ok {a : RT} {p : Int} (h : InR a) (p1 : -30 ≤ p) (p2 : p ≤ 30) : ((rng (-60) 120).filter fun n => inB a n && decide (n ≤ p)).getLast? = ltE a p := by
  unfold ltE
  by_cases h0 : a.2 = 0
  · have z := h.zr h0
    rw [if_pos h0]
    by_cases q : a.1 ≤ p
    · rw [if_pos q]
      refine last_max (by omega) (by omega) ?_ fun y hy hP _ => ?_
      · rw [Bool.and_eq_true, decide_eq_true_eq]; exact ⟨(in_iff a a.1).mpr (by simp), q⟩
      · rw [Bool.and_eq_true] at hP
        have := zero_in h0 hP.1
        omega
    · rw [if_neg q]
      rw [nil_of (xs := (rng (-60) 120).filter fun n => inB a n && decide (n ≤ p)) fun x hx => ?_]
      · rfl
      · have hP := (List.mem_filter.mp hx).2
        rw [Bool.and_eq_true, decide_eq_true_eq] at hP
        have := zero_in h0 hP.1
        omega
  · rw [if_neg h0]
    have pp := h.pos h0
    obtain ⟨f1, f2, f3, f4⟩ := lst_ok h h0 p
    refine last_max (x := Lst a p) (by omega) (by omega) ?_ fun y hy hP _ => ?_
    · rw [Bool.and_eq_true, decide_eq_true_eq]; exact ⟨(in_iff a _).mpr f3, f1⟩
    · rw [Bool.and_eq_true, decide_eq_true_eq] at hP
      have := f4 y hP.2 ((in_iff a y).mp hP.1)
      omega
end K41
namespace K41
open PySem PySem.Spec L2 DL
def geO : Option Int → Int → Bool
  | none, _ => true
  | some l, n => decide (l ≤ n)
def leO : Option Int → Int → Bool
  | none, _ => true
  | some h, n => decide (n ≤ h)
def ledL (lo hi : Option Int) (a : RT) : List Int := (rng (-80) 161).filter fun n => inB a n && (geO lo n && leO hi n)
def lowIs (lo : Option Int) (a : RT) : Bool := lo.isSome || decide (a.2 = 0)
structure LedOk (lo hi : Option Int) (a : RT) (l' h' : Option Int) (c : RT) : Prop where
  eq : ledR lo hi a = .tup [.tup [eD l', eD h'], rp c]
  is : isRestsB (rp c) = some true
  all : ∀ n ∈ ledL lo hi a, inB c n = true
  low : l' = if lowIs lo a = true then (ledL lo hi a).head? else none
  high : h' = if lowIs hi a = true then (ledL lo hi a).getLast? else none
theorem rests_of {a : RT} (h : InR a) : isRestsB (rp a) = some true := by
  obtain ⟨r, s⟩ := a
  show some (decide (s = 0) || (decide (0 < s) && (decide (0 ≤ r) && decide (r < s)))) = some true
  rcases h with ⟨h1, _⟩ | ⟨h1, h2, h3, h4⟩
  · have h1 : s = 0 := h1
    rw [decide_eq_true h1]; rfl
  · have h1 : 1 ≤ s := h1
    have h3 : 0 ≤ r := h3
    have h4 : r < s := h4
    rw [decide_eq_true (show 0 < s by omega), decide_eq_true h3, decide_eq_true h4]
    cases decide (s = 0) <;> rfl
theorem rests_z (n : Int) : isRestsB (rp (n, 0)) = some true := rfl
theorem led_mem {lo hi : Option Int} {a : RT} {n : Int} : n ∈ ledL lo hi a ↔ (-80 ≤ n ∧ n ≤ 80) ∧ inB a n = true ∧ geO lo n = true ∧ leO hi n = true := by
  unfold ledL
  rw [List.mem_filter, mem_rng, Bool.and_eq_true, Bool.and_eq_true]
  constructor
  · rintro ⟨h, k⟩; exact ⟨by omega, k⟩
  · rintro ⟨h, k⟩; exact ⟨by omega, k⟩
theorem led_head {lo hi : Option Int} {a : RT} {x : Int} (h : x ∈ ledL lo hi a) (m : ∀ y ∈ ledL lo hi a, x ≤ y) : (ledL lo hi a).head? = some x := by
  have q := led_mem.mp h
  refine head_min (by omega) (by omega) (by rw [Bool.and_eq_true, Bool.and_eq_true]; exact q.2) fun y hy hP hl => ?_
  rw [Bool.and_eq_true, Bool.and_eq_true] at hP
  have := m y (led_mem.mpr ⟨⟨hl, by omega⟩, hP⟩)
  omega
theorem led_last {lo hi : Option Int} {a : RT} {x : Int} (h : x ∈ ledL lo hi a) (m : ∀ y ∈ ledL lo hi a, y ≤ x) : (ledL lo hi a).getLast? = some x := by
  have q := led_mem.mp h
  refine last_max (by omega) (by omega) (by rw [Bool.and_eq_true, Bool.and_eq_true]; exact q.2) fun y hy hP hl => ?_
  rw [Bool.and_eq_true, Bool.and_eq_true] at hP
  have := m y (led_mem.mpr ⟨⟨by omega, by omega⟩, hP⟩)
  omega
theorem led_z {lo hi : Option Int} {a : RT} (h : InR a) (h0 : a.2 = 0) : (ledL lo hi a = [] → ledR lo hi a = .non) ∧ (ledL lo hi a ≠ [] → ∃ l' h' c, LedOk lo hi a l' h' c) := by
  have z := h.zr h0
  have outE : outB lo hi a = !(geO lo a.1 && leO hi a.1) := by
    unfold outB geO leO
    cases lo with
    | none =>
      cases hi with
      | none => rfl
      | some u => show (false || decide (u < a.1)) = !(true && decide (a.1 ≤ u)); rw [Bool.eq_iff_iff]; simp
    | some l =>
      cases hi with
      | none => show (decide (a.1 < l) || false) = !(decide (l ≤ a.1) && true); rw [Bool.eq_iff_iff]; simp
      | some u => show (decide (a.1 < l) || decide (u < a.1)) = !(decide (l ≤ a.1) && decide (a.1 ≤ u)); rw [Bool.eq_iff_iff]; simp
  have self : inB a a.1 = true := (in_iff a a.1).mpr (by simp)
  cases hin : (geO lo a.1 && leO hi a.1) with
  | false =>
    rw [hin] at outE
    have e : ledR lo hi a = .non := if_pos ⟨h0, outE⟩
    refine ⟨fun _ => e, fun ne => ?_⟩
    exfalso
    apply ne
    refine nil_of fun x hx => ?_
    have q := (led_mem.mp hx).2
    have e := zero_in h0 q.1
    subst e
    rw [q.2.1, q.2.2] at hin
    cases hin
  | true =>
    rw [hin] at outE
    rw [Bool.and_eq_true] at hin
    have m : a.1 ∈ ledL lo hi a := led_mem.mpr ⟨by omega, self, hin⟩
    have only : ∀ y ∈ ledL lo hi a, y = a.1 := fun y hy => zero_in h0 (led_mem.mp hy).2.1
    refine ⟨(fun e => by rw [e] at m; cases m), fun _ => ⟨some a.1, some a.1, (a.1, 0), ?_, rests_z _, fun n hn => ?_, ?_, ?_⟩⟩
    · have e1 : endE ffE a lo = some a.1 := by
        cases lo with
        | none => exact if_pos h0
        | some l => exact (if_pos h0).trans (if_pos (of_decide_eq_true hin.1))
      have e2 : endE ltE a hi = some a.1 := by
        cases hi with
        | none => exact if_pos h0
        | some l => exact (if_pos h0).trans (if_pos (of_decide_eq_true hin.2))
      unfold ledR
      rw [if_neg (fun z => by rw [outE] at z; cases z.2), e1, e2]
      show (if a.1 < a.1 then _ else _) = _
      rw [if_neg (by omega), if_pos rfl]
      rfl
    · rw [only n hn]
      exact (in_iff _ _).mpr (by simp)
    · rw [if_pos (by unfold lowIs; rw [decide_eq_true h0, Bool.or_true])]
      exact (led_head m fun y hy => by rw [only y hy]; exact Int.le_refl _).symm
    · rw [if_pos (by unfold lowIs; rw [decide_eq_true h0, Bool.or_true])]
      exact (led_last m fun y hy => by rw [only y hy]; exact Int.le_refl _).symm
theorem led_p {lo hi : Option Int} {a : RT} (h : InR a) (h0 : a.2 ≠ 0) (hl : ∀ l, lo = some l → -20 ≤ l ∧ l ≤ 20) (hh : ∀ u, hi = some u → -20 ≤ u ∧ u ≤ 40) : (ledL lo hi a = [] → ledR lo hi a = .non) ∧ (ledL lo hi a ≠ [] → ∃ l' h' c, LedOk lo hi a l' h' c) := by
  have p := h.pos h0
  have self : inB a a.1 = true := (in_iff a a.1).mpr (by simp)
  have nz : ¬ (a.2 = 0 ∧ outB lo hi a = true) := fun z => h0 z.1
  have ise : ∀ o : Option Int, lowIs o a = o.isSome := fun o => by unfold lowIs; rw [decide_eq_false h0, Bool.or_false]
  cases lo with
  | none =>
    cases hi with
    | none =>
      have m : a.1 ∈ ledL none none a := led_mem.mpr ⟨by omega, self, rfl, rfl⟩
      refine ⟨(fun e => by rw [e] at m; cases m), fun _ => ⟨none, none, a, ?_, rests_of h, fun n hn => (led_mem.mp hn).2.1, ?_, ?_⟩⟩
      · unfold ledR
        rw [if_neg nz, show endE ffE a none = none from if_neg h0, show endE ltE a none = none from if_neg h0]
      · rw [ise]; rfl
      · rw [ise]; rfl
    | some u =>
      have hu := hh u rfl
      obtain ⟨f1, f2, f3, f4⟩ := lst_ok h h0 u
      have m : Lst a u ∈ ledL none (some u) a := led_mem.mpr ⟨by omega, (in_iff a _).mpr f3, rfl, decide_eq_true f1⟩
      refine ⟨(fun e => by rw [e] at m; cases m), fun _ => ⟨none, some (Lst a u), a, ?_, rests_of h, fun n hn => (led_mem.mp hn).2.1, ?_, ?_⟩⟩
      · unfold ledR
        rw [if_neg nz, show endE ffE a none = none from if_neg h0, show endE ltE a (some u) = some (Lst a u) from if_neg h0]
      · rw [ise]; rfl
      · rw [ise]
        exact (led_last m fun y hy => f4 y (of_decide_eq_true (led_mem.mp hy).2.2.2) ((in_iff a y).mp (led_mem.mp hy).2.1)).symm
  | some l =>
    have hl' := hl l rfl
    obtain ⟨g1, g2, g3, g4⟩ := fst_ok h h0 l
    cases hi with
    | none =>
      have m : Fst a l ∈ ledL (some l) none a := led_mem.mpr ⟨by omega, (in_iff a _).mpr g3, decide_eq_true g1, rfl⟩
      refine ⟨(fun e => by rw [e] at m; cases m), fun _ => ⟨some (Fst a l), none, a, ?_, rests_of h, fun n hn => (led_mem.mp hn).2.1, ?_, ?_⟩⟩
      · unfold ledR
        rw [if_neg nz, show endE ffE a (some l) = some (Fst a l) from if_neg h0, show endE ltE a none = none from if_neg h0]
      · rw [ise]
        exact (led_head m fun y hy => g4 y (of_decide_eq_true (led_mem.mp hy).2.2.1) ((in_iff a y).mp (led_mem.mp hy).2.1)).symm
      · rw [ise]; rfl
    | some u =>
      have hu := hh u rfl
      obtain ⟨f1, f2, f3, f4⟩ := lst_ok h h0 u
      have lows : ∀ y ∈ ledL (some l) (some u) a, Fst a l ≤ y := fun y hy => g4 y (of_decide_eq_true (led_mem.mp hy).2.2.1) ((in_iff a y).mp (led_mem.mp hy).2.1)
      have highs : ∀ y ∈ ledL (some l) (some u) a, y ≤ Lst a u := fun y hy => f4 y (of_decide_eq_true (led_mem.mp hy).2.2.2) ((in_iff a y).mp (led_mem.mp hy).2.1)
      have eR : ledR (some l) (some u) a = if Lst a u < Fst a l then .non else .tup [.tup [.int (Fst a l), .int (Lst a u)], rp (if Fst a l = Lst a u then (Fst a l, 0) else a)] := by
        unfold ledR
        rw [if_neg nz, show endE ffE a (some l) = some (Fst a l) from if_neg h0, show endE ltE a (some u) = some (Lst a u) from if_neg h0]
      by_cases c : Lst a u < Fst a l
      · rw [if_pos c] at eR
        refine ⟨fun _ => eR, fun ne => ?_⟩
        exfalso
        apply ne
        refine nil_of fun x hx => ?_
        have := lows x hx
        have := highs x hx
        omega
      · rw [if_neg c] at eR
        have m1 : Fst a l ∈ ledL (some l) (some u) a := led_mem.mpr ⟨by omega, (in_iff a _).mpr g3, decide_eq_true g1, decide_eq_true (by omega)⟩
        have m2 : Lst a u ∈ ledL (some l) (some u) a := led_mem.mpr ⟨by omega, (in_iff a _).mpr f3, decide_eq_true (by omega), decide_eq_true f1⟩
        refine ⟨(fun e => by rw [e] at m1; cases m1), fun _ => ⟨some (Fst a l), some (Lst a u), _, eR, ?_, fun n hn => ?_, ?_, ?_⟩⟩
        · split
          · exact rests_z _
          · exact rests_of h
        · split
          · rename_i e
            have := lows n hn
            have := highs n hn
            exact (in_iff _ _).mpr (by show (0 : Int) ∣ n - Fst a l; rw [Int.zero_dvd]; omega)
          · exact (led_mem.mp hn).2.1
        · rw [ise]; exact (led_head m1 lows).symm
        · rw [ise]; exact (led_last m2 highs).symm
theorem led_ok {lo hi : Option Int} {a : RT} (h : InR a) (hl : ∀ l, lo = some l → -20 ≤ l ∧ l ≤ 20) (hh : ∀ u, hi = some u → -20 ≤ u ∧ u ≤ 40) : (ledL lo hi a = [] → ledR lo hi a = .non) ∧ (ledL lo hi a ≠ [] → ∃ l' h' c, LedOk lo hi a l' h' c) := by
  by_cases h0 : a.2 = 0
  · exact led_z h h0
  · exact led_p h h0 hl hh
end K41
namespace K41
open PySem PySem.Spec L2 DL
section
variable {ρ : Rho} {S : Store} {fe fa fb fc : WE} {a b : RT} {d : D} {i : Nat} {k : Bool} {m n : Int}
theorem e0 (h : lk ρ i = some (rp a)) : EvE (opW wIx (vW i) (cW (.int 0))) ρ S (.int a.1) := ev_tix (ev_v h) rfl
theorem e1 (h : lk ρ i = some (rp a)) : EvE (opW wIx (vW i) (cW (.int 1))) ρ S (.int a.2) := ev_tix (ev_v h) rfl
theorem ev_r1 {f : RT → D} (h : EvE fe ρ S (rp a)) : EvE (clW (r1 f) (consW fe nilW)) ρ S (f a) := fun Q q => h _ q
theorem ev_r2 {ok : RT → RT → Prop} {f : RT → RT → D} (c : ok a b) (h : EvE fa ρ S (rp a)) (h2 : EvE fb ρ S (rp b)) : EvE (clW (r2 ok f) (consW fa (consW fb nilW))) ρ S (f a b) := fun Q q => h _ (h2 _ ⟨c, q⟩)
theorem ev_rI {f : RT → Int → D} (h : EvE fa ρ S (rp a)) (h2 : EvE fb ρ S (.int n)) : EvE (clW (rI f) (consW fa (consW fb nilW))) ρ S (f a n) := fun Q q => h _ (h2 _ q)
theorem ev_ii {f : Int → Int → D} (h : EvE fa ρ S (.int m)) (h2 : EvE fb ρ S (.int n)) : EvE (clW (ii f) (consW fa (consW fb nilW))) ρ S (f m n) := fun Q q => h _ (h2 _ q)
theorem ev_of (h : EvE fa ρ S (.int n)) : EvE (clW m_of (consW fa nilW)) ρ S (rp (n, 0)) := fun Q q => h _ q
theorem ev_mk {x y : Int} (h : EvE fa ρ S (.int x)) (h2 : EvE fb ρ S (.int y)) : EvE (clW m_make (consW fa (consW fb nilW))) ρ S (rp (mkS x y)) := ev_ii h h2
theorem ev_gcd (h : EvE fa ρ S (.int m)) (h2 : EvE fb ρ S (.int n)) : EvE (clW m_divisor (consW fa (consW fb nilW))) ρ S (.int (gcdI m n)) := ev_ii h h2
theorem ev_com (h : EvE fa ρ S (.int m)) (h2 : EvE fb ρ S (.int n)) : EvE (clW m_law_common (consW fa (consW fb nilW))) ρ S (.int (gcdI m n)) := ev_ii h h2
theorem ev_holds (h : EvE fa ρ S (rp a)) (h2 : EvE fb ρ S (.int n)) : EvE (clW m_holds (consW fa (consW fb nilW))) ρ S (.bl (inB a n)) := ev_rI h h2
theorem ev_lin (h : EvE fa ρ S (rp a)) (h2 : EvE fb ρ S (.int n)) : EvE (clW m_law_in (consW fa (consW fb nilW))) ρ S (.bl (inB a n)) := ev_rI h h2
theorem par_of {x y : D} {i j : Nat} {Dd : DEnds} (ha : EvE fa ρ S x) (hb : EvE fb ρ S y) (q : Dd.nx ((ρ.set i (some x)).set j (some y)) S) : parW i j (consW fa (consW fb nilW)) Dd ρ S := ha _ (hb _ q)
end
theorem ev_dec {fe : WE} {ρ : Rho} {S : Store} {p q : Prop} [Decidable p] [Decidable q] (h : p ↔ q) (e : EvE fe ρ S (.bl (decide p))) : EvE fe ρ S (.bl (decide q)) := by
  rwa [show decide p = decide q from decide_eq_decide.mpr h] at e
theorem gcd_loop (ds : List D) (S : Store) (Q : DQ) (m n : Int) (q : Q (.int (gcdI m n)) S) : g_divisor (D0 S Q) [some (.int m), some (.int n)] S := by
  refine seq_par (ev_abs (ev_v rfl)) (ev_abs (ev_v rfl)) ?_
  have start : gcdI (absI m) (absI n) = gcdI m n := gcd_abs m n
  refine ⟨(absI n).toNat + 1, ?_⟩
  refine while_inv (fun k ρ S' => ∃ x y : Int, 0 ≤ x ∧ 0 ≤ y ∧ k = y.toNat ∧ ρ = [some (.int x), some (.int y)] ∧ S' = S ∧ gcdI x y = gcdI m n) ?_ _ _ _ ⟨absI m, absI n, by unfold absI; split <;> omega, by unfold absI; split <;> omega, rfl, rfl, rfl, start⟩
  rintro k ρ S' ⟨x, y, hx, hy, rfl, rfl, rfl, e⟩ De h1 _ _ _ Q' hT hF
  refine (evt_ts (ev_gt (ev_v rfl) ev_c)) _ ?_
  by_cases hp : 0 < y
  · rw [decide_eq_true hp]
    refine hT _ (par_of (ev_v rfl) (ev_mod (ev_v rfl) (ev_v rfl) (by omega)) ?_)
    have l1 : 0 ≤ x.fmod y := Int.fmod_nonneg_of_pos x hp
    have l2 : x.fmod y < y := Int.fmod_lt_of_pos x hp
    exact h1 (x.fmod y).toNat _ _ (by omega) ⟨y, x.fmod y, hy, l1, rfl, rfl, rfl, by rw [gcd_step hx hp, e]⟩
  · rw [decide_eq_false hp]
    have y0 : y = 0 := by omega
    subst y0
    rw [gcd_zero hx] at e
    refine hF _ ?_
    show retW (vW 0) (D0 S' Q) [some (.int x), some (.int 0)] S'
    rw [← e] at q
    exact ret_of (ev_v rfl) (.inl q)
theorem sp_divisor (ds : List D) (S : Store) (Q : DQ) (hS : S.all (Cell.blw S.length) = true) (h : m_divisor ds S Q) : g_divisor (D0 S Q) (startD ["one", "other"] ds) S := by
  obtain ⟨m, n, rfl, q⟩ := ii_inv h
  exact gcd_loop [] S Q m n q
theorem sp_law_common (ds : List D) (S : Store) (Q : DQ) (hS : S.all (Cell.blw S.length) = true) (h : m_law_common ds S Q) : g_law_common (D0 S Q) (startD ["one", "other"] ds) S := by
  obtain ⟨m, n, rfl, q⟩ := ii_inv h
  exact gcd_loop [] S Q m n q
theorem sp_of (ds : List D) (S : Store) (Q : DQ) (hS : S.all (Cell.blw S.length) = true) (h : m_of ds S Q) : g_of (D0 S Q) (startD ["number"] ds) S := by
  unfold m_of at h
  split at h
  · exact ⟨sz2, .inl h⟩
  · exact h.elim
theorem sp_make (ds : List D) (S : Store) (Q : DQ) (hS : S.all (Cell.blw S.length) = true) (h : m_make ds S Q) : g_make (D0 S Q) (startD ["rest", "step"] ds) S := by
  obtain ⟨r, s, rfl, q⟩ := ii_inv h
  refine ret_of (eve_if (evt_ts (ev_eq (ev_v rfl) ev_c)) (x := rp (mkS r s)) (fun e => ?_) (fun e => ?_)) (.inl q)
  · have e := of_decide_eq_true e
    rw [show mkS r s = (r, 0) from if_pos e]
    exact ev_tup2 (ev_v rfl) ev_c
  · have e := of_decide_eq_false e
    rw [show mkS r s = (r.fmod s, s) from if_neg e]
    exact ev_tup2 (ev_mod (ev_v rfl) (ev_v rfl) e) (ev_v rfl)
theorem sp_tamed (ds : List D) (S : Store) (Q : DQ) (hS : S.all (Cell.blw S.length) = true) (h : m_tamed ds S Q) : g_tamed (D0 S Q) (startD ["one"] ds) S := by
  obtain ⟨a, rfl, q⟩ := r1_inv h
  have t := evt_or (ρ := startD ["one"] [rp a]) (S := S) (evt_ts (ev_gt (e1 (i := 0) (a := a) rfl) (ev_c (d := .int 1000000)))) fun _ => evt_and (evt_ts (ev_eq (e1 (i := 0) (a := a) rfl) (ev_c (d := .int 0)))) fun _ => evt_ts (ev_gt (ev_abs (e0 (i := 0) (a := a) rfl)) (ev_c (d := .int (10 ^ 60))))
  refine ret_of (eve_if t (x := rp (tamR a)) (fun e => ?_) (fun e => ?_)) (.inl q)
  · have c : 1000000 < a.2 ∨ (a.2 = 0 ∧ 10 ^ 60 < absI a.1) := by simpa [absI] using e
    rw [show tamR a = (0, 1) from if_pos c]
    exact ev_c
  · have c : ¬ (1000000 < a.2 ∨ (a.2 = 0 ∧ 10 ^ 60 < absI a.1)) := by
      intro z
      rw [Bool.or_eq_false_iff, Bool.and_eq_false_iff, decide_eq_false_iff_not, decide_eq_false_iff_not, decide_eq_false_iff_not] at e
      rcases z with z | ⟨z1, z2⟩
      · exact e.1 z
      · rcases e.2 with w | w
        · exact w z1
        · exact w z2
    rw [show tamR a = a from if_neg c]
    exact ev_v rfl
theorem ev_inb {ρ : Rho} {S : Store} {i j : Nat} {a : RT} {n : Int} (h : lk ρ i = some (rp a)) (h2 : lk ρ j = some (.int n)) :
    EvE (ifW (tsW (opW wEq (opW wIx (vW i) (cW (.int 1))) (cW (.int 0)))) (opW wEq (vW j) (opW wIx (vW i) (cW (.int 0)))) (opW wEq (opW wMod (opW wSub (vW j) (opW wIx (vW i) (cW (.int 0)))) (opW wIx (vW i) (cW (.int 1)))) (cW (.int 0)))) ρ S (.bl (inB a n)) := by
  refine eve_if (evt_ts (ev_eq (e1 h) ev_c)) (fun e => ?_) (fun e => ?_)
  · rw [show inB a n = decide (n = a.1) from if_pos (of_decide_eq_true e)]
    exact ev_eq (ev_v h2) (e0 h)
  · have e := of_decide_eq_false e
    rw [show inB a n = decide ((n - a.1).fmod a.2 = 0) from if_neg e]
    exact ev_eq (ev_mod (ev_sub (ev_v h2) (e0 h)) (e1 h) e) ev_c
theorem sp_holds (ds : List D) (S : Store) (Q : DQ) (hS : S.all (Cell.blw S.length) = true) (h : m_holds ds S Q) : g_holds (D0 S Q) (startD ["one", "number"] ds) S := by
  obtain ⟨a, n, rfl, q⟩ := rI_inv h
  exact ret_of (ev_inb (i := 0) (j := 1) rfl rfl) (.inl q)
theorem sp_law_in (ds : List D) (S : Store) (Q : DQ) (hS : S.all (Cell.blw S.length) = true) (h : m_law_in ds S Q) : g_law_in (D0 S Q) (startD ["one", "number"] ds) S := by
  obtain ⟨a, n, rfl, q⟩ := rI_inv h
  exact ret_of (ev_inb (i := 0) (j := 1) rfl rfl) (.inl q)
theorem wEq_rp {a b : RT} {S : Store} {Q : DQ} (q : Q (.bl (decide (a = b))) S) : wEq (rp a) (rp b) S Q := by
  refine ⟨rfl, rfl, ?_⟩
  show Q (.bl ((a.1 == b.1) && ((a.2 == b.2) && true))) S
  have e : ((a.1 == b.1) && ((a.2 == b.2) && true)) = decide (a = b) := by
    rw [Bool.eq_iff_iff]
    simp [Prod.ext_iff]
  rw [e]; exact q
theorem sp_is_within (ds : List D) (S : Store) (Q : DQ) (hS : S.all (Cell.blw S.length) = true) (h : m_is_within ds S Q) : g_is_within (D0 S Q) (startD ["one", "other"] ds) S := by
  obtain ⟨a, b, rfl, _, q⟩ := r2_inv h
  refine seq_if (evt_ts (ev_eq (e1 (i := 1) (a := b) rfl) ev_c)) (fun e => ?_) (fun e => seq_nx ?_)
  · have e := of_decide_eq_true e
    rw [show wiB a b = decide (a = b) from if_pos e] at q
    exact seq_ret (ev_op (ev_v rfl) (ev_v rfl) fun Q q => wEq_rp q) (.inl q)
  · have e := of_decide_eq_false e
    rw [show wiB a b = (decide (a.2.fmod b.2 = 0) && inB b a.1) from if_neg e] at q
    exact ret_of (ev_and (ev_eq (ev_mod (e1 rfl) (e1 rfl) e) ev_c) fun _ => ev_holds (ev_v rfl) (e0 rfl)) (.inl q)
theorem sp_join (ds : List D) (S : Store) (Q : DQ) (hS : S.all (Cell.blw S.length) = true) (h : m_join ds S Q) : g_join (D0 S Q) (startD ["one", "other"] ds) S := by
  obtain ⟨a, b, rfl, _, q⟩ := r2_inv h
  exact ret_of (ev_mk (e0 (a := a) rfl) (ev_gcd (ev_gcd (e1 (a := a) rfl) (e1 (a := b) rfl)) (ev_sub (e0 (a := a) rfl) (e0 (a := b) rfl)))) (.inl q)
theorem sp_add (ds : List D) (S : Store) (Q : DQ) (hS : S.all (Cell.blw S.length) = true) (h : m_add ds S Q) : g_add (D0 S Q) (startD ["one", "other"] ds) S := by
  obtain ⟨a, b, rfl, _, q⟩ := r2_inv h
  exact ret_of (ev_mk (ev_add (e0 (a := a) rfl) (e0 (a := b) rfl)) (ev_gcd (e1 (a := a) rfl) (e1 (a := b) rfl))) (.inl q)
theorem sp_contrary (ds : List D) (S : Store) (Q : DQ) (hS : S.all (Cell.blw S.length) = true) (h : m_contrary ds S Q) : g_contrary (D0 S Q) (startD ["one"] ds) S := by
  obtain ⟨a, rfl, q⟩ := r1_inv h
  exact ret_of (ev_mk (ev_neg (e0 (a := a) rfl)) (e1 (a := a) rfl)) (.inl q)
theorem sp_subtract (ds : List D) (S : Store) (Q : DQ) (hS : S.all (Cell.blw S.length) = true) (h : m_subtract ds S Q) : g_subtract (D0 S Q) (startD ["one", "other"] ds) S := by
  obtain ⟨a, b, rfl, _, q⟩ := r2_inv h
  exact ret_of (ev_r2 (a := a) (b := conR b) (ok := any2) (f := fun a b => rp (addR a b)) trivial (ev_v rfl) (ev_r1 (f := fun a => rp (conR a)) (ev_v rfl))) (.inl q)
theorem cmul_s {x y : Int} (h : smallI x) : CMul x y := .inl ⟨by unfold smallI at h; omega, by unfold smallI at h; omega⟩
theorem sp_multiply (ds : List D) (S : Store) (Q : DQ) (hS : S.all (Cell.blw S.length) = true) (h : m_multiply ds S Q) : g_multiply (D0 S Q) (startD ["one", "other", "step"] ds) S := by
  obtain ⟨a, b, rfl, ⟨⟨a1, a2⟩, ⟨b1, b2⟩⟩, q⟩ := r2_inv h
  refine seq_asg (ev_gcd (ev_gcd (ev_mul (e1 (a := a) rfl) (e1 (a := b) rfl) (cmul_s a2)) (ev_mul (e1 (a := a) rfl) (e0 (a := b) rfl) (cmul_s a2))) (ev_mul (e1 (a := b) rfl) (e0 (a := a) rfl) (cmul_s b2))) ?_
  exact ret_of (ev_mk (ev_mul (e0 (a := a) rfl) (e0 (a := b) rfl) (cmul_s a1)) (ev_v rfl)) (.inl q)
theorem sp_remainder (ds : List D) (S : Store) (Q : DQ) (hS : S.all (Cell.blw S.length) = true) (h : m_remainder ds S Q) : g_remainder (D0 S Q) (startD ["one", "other"] ds) S := by
  obtain ⟨a, b, rfl, _, q⟩ := r2_inv h
  have t := evt_and (ρ := startD ["one", "other"] [rp a, rp b]) (S := S) (evt_ts (ev_eq (e1 (i := 0) (a := a) rfl) (ev_c (d := .int 0)))) fun _ => evt_and (evt_ts (ev_eq (e1 (i := 1) (a := b) rfl) (ev_c (d := .int 0)))) fun _ => evt_ts (ev_ne (e0 (i := 1) (a := b) rfl) (ev_c (d := .int 0)))
  refine seq_if t (fun e => ?_) (fun e => seq_nx ?_)
  · have c : a.2 = 0 ∧ b.2 = 0 ∧ b.1 ≠ 0 := by simpa using e
    rw [show remR a b = (a.1.fmod b.1, 0) from if_pos c] at q
    exact seq_ret (ev_of (ev_mod (e0 (a := a) rfl) (e0 (a := b) rfl) c.2.2)) (.inl q)
  · have c : ¬ (a.2 = 0 ∧ b.2 = 0 ∧ b.1 ≠ 0) := by
      intro z
      rw [decide_eq_true z.1, decide_eq_true z.2.1, decide_eq_false z.2.2] at e
      cases e
    unfold remR at q
    rw [if_neg c] at q
    refine seq_if (evt_ts (ev_ne (e1 (a := b) rfl) ev_c)) (fun e2 => ?_) (fun e2 => seq_nx ?_)
    · have c2 : b.2 ≠ 0 := by simpa using e2
      rw [if_pos c2] at q
      exact seq_ret (ev_mk (e0 (a := a) rfl) (ev_gcd (e1 (a := a) rfl) (ev_gcd (e0 (a := b) rfl) (e1 (a := b) rfl)))) (.inl q)
    · have c2 : ¬ b.2 ≠ 0 := by simpa using e2
      rw [if_neg c2] at q
      refine ret_of (ev_mk (eve_if (evt_ts (ev_ne (e0 (a := b) rfl) ev_c)) (x := .int (if b.1 ≠ 0 then a.1.fmod b.1 else 0)) (fun e3 => ?_) (fun e3 => ?_)) (ev_gcd (e1 (a := a) rfl) (e0 (a := b) rfl))) (.inl q)
      · have c3 : b.1 ≠ 0 := by simpa using e3
        rw [if_pos c3]; exact ev_mod (e0 (a := a) rfl) (e0 (a := b) rfl) c3
      · have c3 : ¬ b.1 ≠ 0 := by simpa using e3
        rw [if_neg c3]; exact ev_c
theorem cdiv_s {x y : Int} (h : smallI y) (h0 : y ≠ 0) : CDivN x y := ⟨h0, by unfold smallI at h; omega⟩
theorem sp_quotient (ds : List D) (S : Store) (Q : DQ) (hS : S.all (Cell.blw S.length) = true) (h : m_quotient ds S Q) : g_quotient (D0 S Q) (startD ["one", "other"] ds) S := by
  obtain ⟨a, b, rfl, ⟨⟨a1, a2⟩, ⟨b1, b2⟩⟩, q⟩ := r2_inv h
  have t := evt_or (ρ := startD ["one", "other"] [rp a, rp b]) (S := S) (evt_ts (ev_ne (e1 (i := 1) (a := b) rfl) (ev_c (d := .int 0)))) fun _ => evt_ts (ev_eq (e0 (i := 1) (a := b) rfl) (ev_c (d := .int 0)))
  unfold quoR at q
  refine seq_if t (fun e => ?_) (fun e => seq_nx ?_)
  · have c : b.2 ≠ 0 ∨ b.1 = 0 := by simpa using e
    rw [if_pos c] at q
    exact seq_ret ev_c (.inl q)
  · have c : ¬ (b.2 ≠ 0 ∨ b.1 = 0) := by
      intro z
      rw [Bool.or_eq_false_iff] at e
      rcases z with z | z
      · rw [decide_eq_false z] at e; cases e.1
      · rw [decide_eq_true z] at e; cases e.2
    rw [if_neg c] at q
    have b0 : b.1 ≠ 0 := fun z => c (.inr z)
    refine seq_if (evt_ts (ev_eq (e1 (a := a) rfl) ev_c)) (fun e2 => ?_) (fun e2 => seq_nx ?_)
    · rw [if_pos (of_decide_eq_true e2)] at q
      exact seq_ret (ev_of (ev_div (e0 (a := a) rfl) (e0 (a := b) rfl) (cdiv_s b1 b0))) (.inl q)
    · rw [if_neg (of_decide_eq_false e2)] at q
      have t2 := evt_and (ρ := startD ["one", "other"] [rp a, rp b]) (S := S) (evt_ts (ev_eq (ev_mod (e0 (i := 0) (a := a) rfl) (e0 (i := 1) (a := b) rfl) b0) (ev_c (d := .int 0)))) fun _ => evt_ts (ev_eq (ev_mod (e1 (i := 0) (a := a) rfl) (e0 (i := 1) (a := b) rfl) b0) (ev_c (d := .int 0)))
      refine seq_if t2 (fun e3 => ?_) (fun e3 => seq_nx ?_)
      · have c3 : a.1.fmod b.1 = 0 ∧ a.2.fmod b.1 = 0 := by simpa using e3
        rw [if_pos c3] at q
        exact seq_ret (ev_mk (ev_div (e0 (a := a) rfl) (e0 (a := b) rfl) (cdiv_s b1 b0)) (ev_abs (ev_div (e1 (a := a) rfl) (e0 (a := b) rfl) (cdiv_s b1 b0)))) (.inl q)
      · have c3 : ¬ (a.1.fmod b.1 = 0 ∧ a.2.fmod b.1 = 0) := by
          intro z
          rw [decide_eq_true z.1, decide_eq_true z.2] at e3
          cases e3
        rw [if_neg c3] at q
        exact ret_of ev_c (.inl q)
theorem sp_first_from (ds : List D) (S : Store) (Q : DQ) (hS : S.all (Cell.blw S.length) = true) (h : m_first_from ds S Q) : g_first_from (D0 S Q) (startD ["one", "low"] ds) S := by
  obtain ⟨a, n, rfl, q⟩ := rI_inv h
  unfold ffE at q
  refine seq_if (evt_ts (ev_eq (e1 (a := a) rfl) ev_c)) (fun e => ?_) (fun e => seq_nx ?_)
  · rw [if_pos (of_decide_eq_true e)] at q
    refine seq_ret (eve_if (evt_ts (ev_ge (e0 (a := a) rfl) (ev_v rfl))) (x := eD (if n ≤ a.1 then some a.1 else none)) (fun e2 => ?_) (fun e2 => ?_)) (.inl q)
    · rw [if_pos (of_decide_eq_true e2)]; exact e0 rfl
    · rw [if_neg (of_decide_eq_false e2)]; exact ev_c
  · have e := of_decide_eq_false e
    rw [if_neg e] at q
    exact ret_of (ev_add (ev_v rfl) (ev_mod (ev_sub (e0 (a := a) rfl) (ev_v rfl)) (e1 (a := a) rfl) e)) (.inl q)
theorem sp_last_to (ds : List D) (S : Store) (Q : DQ) (hS : S.all (Cell.blw S.length) = true) (h : m_last_to ds S Q) : g_last_to (D0 S Q) (startD ["one", "high"] ds) S := by
  obtain ⟨a, n, rfl, q⟩ := rI_inv h
  unfold ltE at q
  refine seq_if (evt_ts (ev_eq (e1 (a := a) rfl) ev_c)) (fun e => ?_) (fun e => seq_nx ?_)
  · rw [if_pos (of_decide_eq_true e)] at q
    refine seq_ret (eve_if (evt_ts (ev_le (e0 (a := a) rfl) (ev_v rfl))) (x := eD (if a.1 ≤ n then some a.1 else none)) (fun e2 => ?_) (fun e2 => ?_)) (.inl q)
    · rw [if_pos (of_decide_eq_true e2)]; exact e0 rfl
    · rw [if_neg (of_decide_eq_false e2)]; exact ev_c
  · have e := of_decide_eq_false e
    rw [if_neg e] at q
    exact ret_of (ev_sub (ev_v rfl) (ev_mod (ev_sub (ev_v rfl) (e0 (a := a) rfl)) (e1 (a := a) rfl) e)) (.inl q)
end K41
namespace K41
open PySem PySem.Spec L2 DL
theorem wEq_e {S : Store} {x y : Option Int} {Q : DQ} (q : Q (.bl (decide (x = y))) S) : wEq (eD x) (eD y) S Q := by
  cases x with
  | none =>
    cases y with
    | none => exact ⟨rfl, rfl, q⟩
    | some y =>
      have e : decide ((none : Option Int) = some y) = false := decide_eq_false (fun z => by cases z)
      rw [e] at q
      exact ⟨rfl, rfl, q⟩
  | some x =>
    cases y with
    | none =>
      have e : decide (some x = none) = false := decide_eq_false (fun z => by cases z)
      rw [e] at q
      exact ⟨rfl, rfl, q⟩
    | some y =>
      have e : decide (some x = some y) = (x == y) := by
        rw [Bool.eq_iff_iff]; simp
      rw [e] at q
      exact ⟨rfl, rfl, q⟩
def loOut : Option Int → Int → Bool
  | some l, r => decide (r < l)
  | none, _ => false
def hiOut : Option Int → Int → Bool
  | some h, r => decide (h < r)
  | none, _ => false
theorem out_eq (lo hi : Option Int) (a : RT) : outB lo hi a = (loOut lo a.1 || hiOut hi a.1) := by cases lo <;> cases hi <;> rfl
section
variable {ρ : Rho} {S : Store} {a : RT} {o : Option Int} {i j : Nat}
theorem ev_some (h : lk ρ i = some (eD o)) : EvE (opW wIsnt (vW i) (cW .non)) ρ S (.bl o.isSome) := fun Q q => by
  refine (ev_v h) _ ?_
  cases o <;> exact q
theorem evt_lt (h : lk ρ i = some (eD o)) (h2 : lk ρ j = some (rp a)) : EvT (andW (tsW (opW wIsnt (vW i) (cW .non))) (tsW (opW wLt (opW wIx (vW j) (cW (.int 0))) (vW i)))) ρ S (loOut o a.1) := by
  cases o with
  | none => exact evt_and (k := false) (j := false) (evt_ts (ev_some h)) fun z => by cases z
  | some l => exact evt_and (k := true) (evt_ts (ev_some h)) fun _ => evt_ts (ev_lt (e0 h2) (ev_v h))
theorem evt_gt (h : lk ρ i = some (eD o)) (h2 : lk ρ j = some (rp a)) : EvT (andW (tsW (opW wIsnt (vW i) (cW .non))) (tsW (opW wGt (opW wIx (vW j) (cW (.int 0))) (vW i)))) ρ S (hiOut o a.1) := by
  cases o with
  | none => exact evt_and (k := false) (j := false) (evt_ts (ev_some h)) fun z => by cases z
  | some l => exact evt_and (k := true) (evt_ts (ev_some h)) fun _ => evt_ts (ev_gt (e0 h2) (ev_v h))
theorem ev_first {f : RT → Int → Option Int} (h : lk ρ i = some (eD o)) (h2 : lk ρ j = some (rp a)) : EvE (ifW (tsW (opW wIsnt (vW i) (cW .non))) (clW (rI fun a n => eD (f a n)) (consW (vW j) (consW (vW i) nilW))) (ifW (tsW (opW wEq (opW wIx (vW j) (cW (.int 1))) (cW (.int 0)))) (opW wIx (vW j) (cW (.int 0))) (cW .non))) ρ S (eD (endE f a o)) := by
  cases o with
  | some l => exact eve_if (k := true) (evt_ts (ev_some h)) (fun _ => ev_rI (f := fun a n => eD (f a n)) (ev_v h2) (ev_v h)) fun z => by cases z
  | none =>
    refine eve_if (k := false) (evt_ts (ev_some h)) (fun z => by cases z) fun _ => ?_
    refine eve_if (evt_ts (ev_eq (e1 h2) ev_c)) (fun e => ?_) (fun e => ?_)
    · rw [show endE f a none = some a.1 from if_pos (of_decide_eq_true e)]; exact e0 h2
    · rw [show endE f a none = none from if_neg (of_decide_eq_false e)]; exact ev_c
end
theorem sp_led (ds : List D) (S : Store) (Q : DQ) (hS : S.all (Cell.blw S.length) = true) (h : m_led ds S Q) : g_led (D0 S Q) (startD ["span", "one", "low", "high"] ds) S := by
  unfold m_led at h
  split at h
  · split at h
    · rename_i x y z lo hi a e1' e2' e3'
      obtain rfl := of_eOf e1'
      obtain rfl := of_eOf e2'
      obtain rfl := of_rpOf e3'
      refine seq_tup (ds := [eD lo, eD hi]) (ev_v rfl) rfl ?_
      show seqW _ _ (D0 S Q) [some (.tup [eD lo, eD hi]), some (rp a), some (eD lo), some (eD hi)] S
      have t := evt_and (evt_ts (ev_eq (e1 (i := 1) (a := a) (ρ := [some (.tup [eD lo, eD hi]), some (rp a), some (eD lo), some (eD hi)]) (S := S) rfl) (ev_c (d := .int 0)))) fun _ => evt_or (evt_lt (i := 2) (j := 1) (o := lo) (a := a) rfl rfl) fun _ => evt_gt (i := 3) (j := 1) (o := hi) (a := a) rfl rfl
      unfold ledR at h
      refine seq_if t (fun e => ?_) (fun e => seq_nx ?_)
      · have c : a.2 = 0 ∧ outB lo hi a = true := by
          rw [Bool.and_eq_true, ← out_eq] at e
          exact ⟨of_decide_eq_true e.1, e.2⟩
        rw [if_pos c] at h
        exact seq_ret ev_c (.inl h)
      · have c : ¬ (a.2 = 0 ∧ outB lo hi a = true) := by
          intro z
          rw [decide_eq_true z.1, Bool.true_and, ← out_eq, z.2] at e
          cases e
        rw [if_neg c] at h
        refine seq_asg (i := 2) (ev_first (f := ffE) (i := 2) (j := 1) (o := lo) (a := a) rfl rfl) ?_
        refine seq_asg (i := 3) (ev_first (f := ltE) (i := 3) (j := 1) (o := hi) (a := a) rfl rfl) ?_
        generalize endE ffE a lo = l' at h
        generalize endE ltE a hi = h' at h
        show seqW _ _ (D0 S Q) [some (.tup [eD lo, eD hi]), some (rp a), some (eD l'), some (eD h')] S
        have last : ∀ c : RT, (EvE (ifW (andW (tsW (opW wIsnt (vW 2) (cW .non))) (tsW (opW wEq (vW 2) (vW 3)))) (clW m_of (consW (vW 2) nilW)) (vW 1)) [some (.tup [eD lo, eD hi]), some (rp a), some (eD l'), some (eD h')] S (rp c)) → Q (.tup [.tup [eD l', eD h'], rp c]) S →
            retW (tupW (consW (tupW (consW (vW 2) (consW (vW 3) nilW))) (consW (ifW (andW (tsW (opW wIsnt (vW 2) (cW .non))) (tsW (opW wEq (vW 2) (vW 3)))) (clW m_of (consW (vW 2) nilW)) (vW 1)) nilW))) (D0 S Q) [some (.tup [eD lo, eD hi]), some (rp a), some (eD l'), some (eD h')] S := fun c ev q =>
          ret_of (ev_tup2 (ev_tup2 (ev_v rfl) (ev_v rfl)) ev) (.inl q)
        cases l' with
        | none =>
          refine seq_if (k := false) (evt_and (k := false) (j := false) (evt_ts (ev_some (o := none) rfl)) fun z => by cases z) (fun z => by cases z) fun _ => seq_nx ?_
          exact last a (eve_if (k := false) (evt_and (k := false) (j := false) (evt_ts (ev_some (o := none) rfl)) fun z => by cases z) (fun z => by cases z) fun _ => ev_v rfl) h
        | some l =>
          cases h' with
          | none =>
            refine seq_if (k := false) (evt_and (k := true) (j := false) (evt_ts (ev_some (o := some l) rfl)) fun _ => evt_and (k := false) (j := false) (evt_ts (ev_some (o := none) rfl)) fun z => by cases z) (fun z => by cases z) fun _ => seq_nx ?_
            refine last a (eve_if (k := false) (evt_and (k := true) (j := false) (evt_ts (ev_some (o := some l) rfl)) fun _ => evt_ts ?_) (fun z => by cases z) fun _ => ev_v rfl) h
            have q := ev_op (w := wEq) (ev_v (i := 2) (d := eD (some l)) (ρ := [some (.tup [eD lo, eD hi]), some (rp a), some (eD (some l)), some (eD none)]) (S := S) rfl) (ev_v (i := 3) (d := eD none) rfl) fun Q q => wEq_e q
            have e : decide (some l = (none : Option Int)) = false := decide_eq_false fun z => by cases z
            rw [e] at q
            exact q
          | some u =>
            have t2 := evt_and (k := true) (evt_ts (ev_some (i := 2) (o := some l) (ρ := [some (.tup [eD lo, eD hi]), some (rp a), some (eD (some l)), some (eD (some u))]) (S := S) rfl)) fun _ => evt_and (k := true) (evt_ts (ev_some (i := 3) (o := some u) rfl)) fun _ => evt_ts (ev_gt (ev_v (i := 2) (d := .int l) rfl) (ev_v (i := 3) (d := .int u) rfl))
            refine seq_if t2 (fun e => ?_) (fun e => seq_nx ?_)
            · have c : u < l := of_decide_eq_true (by simpa using e)
              have h : Q .non S := by
                have z : (if u < l then D.non else .tup [.tup [.int l, .int u], rp (if l = u then (l, 0) else a)]) = .non := if_pos c
                rw [← z]; exact h
              exact seq_ret ev_c (.inl h)
            · have c : ¬ u < l := by simpa using e
              have h : Q (.tup [.tup [.int l, .int u], rp (if l = u then (l, 0) else a)]) S := by
                have z : (if u < l then D.non else .tup [.tup [.int l, .int u], rp (if l = u then (l, 0) else a)]) = .tup [.tup [.int l, .int u], rp (if l = u then (l, 0) else a)] := if_neg c
                rw [← z]; exact h
              refine last _ ?_ h
              refine eve_if (evt_and (k := true) (evt_ts (ev_some (o := some l) rfl)) fun _ => evt_ts (ev_eq (ev_v (d := .int l) rfl) (ev_v (d := .int u) rfl))) (fun e3 => ?_) (fun e3 => ?_)
              · have c3 : l = u := by simpa using e3
                rw [if_pos c3]; exact ev_of (ev_v rfl)
              · have c3 : ¬ l = u := by simpa using e3
                rw [if_neg c3]; exact ev_v rfl
    · exact h.elim
  · exact h.elim
theorem sp_is_rests (ds : List D) (S : Store) (Q : DQ) (hS : S.all (Cell.blw S.length) = true) (h : m_is_rests ds S Q) : g_is_rests (D0 S Q) (startD ["value", "item"] ds) S := by
  unfold m_is_rests at h
  split at h
  · rename_i d
    split at h
    · rename_i b e
      have pairI : ∀ r s : Int, Q (.bl (decide (s = 0) || (decide (0 < s) && (decide (0 ≤ r) && decide (r < s))))) S → g_is_rests (D0 S Q) (startD ["value", "item"] [.tup [.int r, .int s]]) S := by
        intro r s q
        refine ⟨rfl, rfl, ?_⟩
        refine ⟨szl (show (2 : Nat) < 100000 by decide), trivial, trivial, trivial, ?_⟩
        have g := ev_or (ev_eq (e1 (i := 0) (a := (r, s)) (ρ := startD ["value", "item"] [.tup [.int r, .int s]]) (S := S) rfl) (ev_c (d := .int 0))) fun _ => ev_and (ev_gt (e1 (i := 0) (a := (r, s)) rfl) (ev_c (d := .int 0))) fun _ => (show EvE (chW wLe wLt (cW (.int 0)) (opW wIx (vW 0) (cW (.int 0))) (opW wIx (vW 0) (cW (.int 1)))) (startD ["value", "item"] [.tup [.int r, .int s]]) S (.bl (decide (0 ≤ r) && decide (r < s))) from fun Q q => by
          show (if decide (0 ≤ r) = true then _ else _)
          cases e2 : decide (0 ≤ r) with
          | true => rw [e2] at q; exact q
          | false => rw [e2] at q; exact q)
        exact g _ (.inl q)
      cases d with
      | tup ds =>
        by_cases hl : ds.length = 2
        · match ds, hl with
          | [x, y], _ =>
            cases x <;> cases y <;> first
              | (cases e; done)
              | (cases e; exact ⟨rfl, rfl, szl (show (2 : Nat) < 100000 by decide), trivial, trivial, trivial, .inl h⟩)
              | (cases e; exact pairI _ _ h)
        · have e2 : isRestsB (.tup ds) = some false := by
            match ds, hl with
            | [], _ => rfl
            | [_], _ => rfl
            | _ :: _ :: _ :: _, _ => rfl
            | [_, _], z => exact absurd rfl z
          rw [e2] at e
          cases e
          refine ⟨rfl, rfl, ?_⟩
          have e3 : ((ds.length : Int) == 2) = false := beq_eq_false_iff_ne.mpr (by omega)
          show (if (!((ds.length : Int) == 2)) = true then _ else _)
          rw [e3]
          exact .inl h
      | ty _ => cases e
      | loc _ => cases e
      | rol _ => cases e
      | _ => cases e; exact .inl h
    · exact h.elim
  · exact h.elim
theorem sp_meet (ds : List D) (S : Store) (Q : DQ) (hS : S.all (Cell.blw S.length) = true) (h : m_meet ds S Q) : g_meet (D0 S Q) (startD ["one", "other", "first", "last", "shared", "step", "number"] ds) S := by
  unfold m_meet at h
  split at h
  · split at h
    · rename_i x y a b e1' e2'
      obtain rfl := of_rpOf e1'
      obtain rfl := of_rpOf e2'
      obtain ⟨⟨⟨sa1, sa2⟩, ⟨sb1, sb2⟩⟩, pa, pb, h⟩ := h
      have t := evt_or (ρ := startD ["one", "other", "first", "last", "shared", "step", "number"] [rp a, rp b]) (S := S) (evt_ts (ev_eq (e1 (i := 0) (a := a) rfl) (ev_c (d := .int 0)))) fun _ => evt_ts (ev_eq (e1 (i := 1) (a := b) rfl) (ev_c (d := .int 0)))
      refine seq_if t (fun e => seq_seq ?_) (fun e => seq_nx ?_)
      · by_cases a0 : a.2 = 0
        · rw [if_pos a0] at h
          refine seq_tup (ds := [rp a, rp b]) (eve_if (evt_ts (ev_eq (e1 (a := a) rfl) ev_c)) (fun _ => ev_tup2 (ev_v rfl) (ev_v rfl)) (fun z => absurd a0 (of_decide_eq_false z))) rfl ?_
          refine seq_ret (d := if inB b a.1 = true then rp a else .non) (eve_if (evt_tru (ev_holds (ev_v (d := rp b) rfl) (e0 (a := a) rfl))) (fun z => ?_) (fun z => ?_)) (.inl ?_)
          · rw [if_pos z]; exact ev_v rfl
          · rw [if_neg (by rw [z]; decide)]; exact ev_c
          · split at h
            · rename_i z; rw [if_pos z]; exact h
            · rename_i z; rw [if_neg z]; exact h
        · rw [if_neg a0] at h
          have b0 : b.2 = 0 := by
            rw [decide_eq_false a0, Bool.false_or] at e
            exact of_decide_eq_true e
          rw [if_pos b0] at h
          refine seq_tup (ds := [rp b, rp a]) (eve_if (evt_ts (ev_eq (e1 (a := a) rfl) ev_c)) (fun z => absurd (of_decide_eq_true z) a0) (fun _ => ev_tup2 (ev_v rfl) (ev_v rfl))) rfl ?_
          refine seq_ret (d := if inB a b.1 = true then rp b else .non) (eve_if (evt_tru (ev_holds (ev_v (d := rp a) rfl) (e0 (a := b) rfl))) (fun z => ?_) (fun z => ?_)) (.inl ?_)
          · rw [if_pos z]; exact ev_v rfl
          · rw [if_neg (by rw [z]; decide)]; exact ev_c
          · split at h
            · rename_i z; rw [if_pos z]; exact h
            · rename_i z; rw [if_neg z]; exact h
      · rw [Bool.or_eq_false_iff] at e
        have a0 := of_decide_eq_false e.1
        have b0 := of_decide_eq_false e.2
        rw [if_neg a0, if_neg b0] at h
        have gd := dvd_gcdI.mp (Int.dvd_refl (gcdI a.2 b.2))
        have g0 : gcdI a.2 b.2 ≠ 0 := fun z => by
          rw [z, Int.zero_dvd] at gd
          exact a0 gd.1
        have gle : gcdI a.2 b.2 ≤ a.2 := Int.le_of_dvd (by omega) gd.1
        have gnn := gcdI_nn a.2 b.2
        have gs : smallI (gcdI a.2 b.2) := by
          unfold smallI at sa2 ⊢
          omega
        refine seq_asg (ev_gcd (e1 (a := a) rfl) (e1 (a := b) rfl)) ?_
        refine seq_if (evt_ts (ev_ne (ev_mod (ev_sub (e0 (a := a) rfl) (e0 (a := b) rfl)) (ev_v rfl) g0) ev_c)) (fun e2 => ?_) (fun e2 => seq_nx ?_)
        · have c : (a.1 - b.1).fmod (gcdI a.2 b.2) ≠ 0 := by simpa using e2
          rw [if_pos c] at h
          exact seq_ret ev_c (.inl h)
        · have c : ¬ (a.1 - b.1).fmod (gcdI a.2 b.2) ≠ 0 := by simpa using e2
          rw [if_neg c] at h
          obtain ⟨k, ⟨hk1, hk2⟩, q⟩ := h
          refine seq_asg (ev_mul (ev_div (e1 (a := a) rfl) (ev_v rfl) (cdiv_s gs g0)) (e1 (a := b) rfl) (.inr ⟨by unfold smallI at sb2; omega, by unfold smallI at sb2; omega⟩)) ?_
          refine seq_asg (e0 (a := a) rfl) ?_
          refine ⟨k + 1, ?_⟩
          refine while_inv (fun m ρ S' => ∃ i : Nat, i + m = k ∧ S' = S ∧ ρ = [some (rp a), some (rp b), none, none, some (.int (gcdI a.2 b.2)), some (.int (a.2.fdiv (gcdI a.2 b.2) * b.2)), some (.int (a.1 + a.2 * (i : Int)))]) ?_ _ _ _ ⟨0, by omega, rfl, by simp [startD]⟩
          rintro m ρ S' ⟨i, hi, rfl, rfl⟩ De h1 _ _ _ Q' hT hF
          refine (evt_not (evt_tru (ev_holds (a := b) (n := a.1 + a.2 * (i : Int)) (ev_v rfl) (ev_v rfl)))) _ ?_
          by_cases hm : m = 0
          · have ei : i = k := by omega
            subst ei
            rw [hk1]
            refine hF _ ?_
            show retW (clW m_make (consW (vW 6) (consW (vW 5) nilW))) (D0 S' Q) [some (rp a), some (rp b), none, none, some (.int (gcdI a.2 b.2)), some (.int (a.2.fdiv (gcdI a.2 b.2) * b.2)), some (.int (a.1 + a.2 * (i : Int)))] S'
            exact ret_of (ev_mk (ev_v rfl) (ev_v rfl)) (.inl q)
          · rw [hk2 i (by omega)]
            refine hT _ ?_
            have nx := h1 (m - 1) [some (rp a), some (rp b), none, none, some (.int (gcdI a.2 b.2)), some (.int (a.2.fdiv (gcdI a.2 b.2) * b.2)), some (.int (a.1 + a.2 * (i : Int) + a.2))] S' (by omega) ⟨i + 1, by omega, rfl, by
              rw [show a.1 + a.2 * ((i + 1 : Nat) : Int) = a.1 + a.2 * (i : Int) + a.2 by rw [Int.natCast_add, Int.mul_add]; simp; omega]⟩
            exact (e1 (i := 0) (a := a) rfl) _ nx
    · exact h.elim
  · exact h.elim
end K41
namespace K41
open PySem PySem.Spec L2 DL
section
variable {ρ : Rho} {S : Store} {fe fa fb : WE} {ft : WT} {i : Nat} {many c s : Int} {J : Store} {ns : List Int} {Q : DQ} {k : Bool} {a : RT}
theorem q_draw (h : EvE fa ρ (tst ns s ++ J) (.int many)) (hl : lk ρ i = some (.loc 1)) (h0 : 0 < many) (h1 : many < 1000000) (k : Tk ns s) (q : ∀ r ns s, 0 ≤ r → r < many → Tk ns s → Q (.int r) (tst ns s ++ J)) :
    clW m_law_draw (consW (vW i) (consW fa nilW)) ρ (tst ns s ++ J) Q := by
  have z : fa ρ (tst ns s ++ J) fun d2 S2 => m_draw [.loc 1, d2] S2 Q := h _ ⟨h0, h1, ns, s, J, rfl, k, q⟩
  exact (ev_v hl) (fun d S1 => fa ρ S1 fun d2 S2 => m_draw [d, d2] S2 Q) z
theorem q_drawsub (hl : lk ρ i = some (.loc 1)) (h0 : 0 < many) (h1 : many < 1000000) (k : Tk ns s) (q : ∀ r ns s, 0 ≤ r → r < many → Tk ns s → Q (.int (r - c)) (tst ns s ++ J)) :
    opW wSub (clW m_law_draw (consW (vW i) (consW (cW (.int many)) nilW))) (cW (.int c)) ρ (tst ns s ++ J) Q := by
  refine (ev_v hl) _ ?_
  exact ⟨h0, h1, ns, s, J, rfl, k, fun r ns s r0 r1 k => q r ns s r0 r1 k⟩
theorem q_if (ht : EvT ft ρ S k) (h1 : k = true → fa ρ S Q) (h2 : k = false → fb ρ S Q) : ifW ft fa fb ρ S Q := ht _ (by
  cases k with
  | true => exact h1 rfl
  | false => exact h2 rfl)
theorem q_tup2 (q : fa ρ S fun d S1 => fb ρ S1 fun e S2 => [d, e].length ≤ sizeLine ∧ Q (.tup [d, e]) S2) : tupW (consW fa (consW fb nilW)) ρ S Q := q
theorem ev_numbers (h : EvE fe ρ S (rp a)) : EvE (clW m_law_numbers (consW fe nilW)) ρ S (.lst ((numsR a).map .int)) := ev_r1 h
theorem ev_least (ne : ns ≠ []) (hl : ns.length < 100000) (h : EvE fe ρ S (.lst (ns.map .int))) : EvE (clW m_law_least (consW fe nilW)) ρ S (rp (leastR ns)) := fun Q q => h _ (by
  show m_law_least [.lst (ns.map .int)] S Q
  simp only [m_law_least, intsOf_map]
  exact ⟨ne, hl, q⟩)
theorem cut_take (xs : List D) (n : Nat) : cutD xs none (some (n : Int)) = xs.take n := by
  unfold cutD
  rw [show HT.sIx xs.length 0 none = 0 from rfl, show HT.sIx xs.length xs.length (some (n : Int)) = min n xs.length from HT.sIx_nat _ _ _, List.drop_zero, Nat.sub_zero]
  exact (List.take_eq_take_min).symm
theorem ev_take {n : Nat} (h : EvE fe ρ S (.lst (ns.map .int))) : EvE (slW fe noP (soP (cW (.int (n : Int))))) ρ S (.lst ((ns.take n).map .int)) := fun Q q => h _ (by
  show Q (.lst (cutD (ns.map D.int) none (some (n : Int)))) S
  rw [cut_take, ← List.map_take]
  exact q)
theorem ev_cat {xs ys : List Int} (hl : xs.length + ys.length ≤ 100000) (h1 : EvE fa ρ S (.lst (xs.map .int))) (h2 : EvE fb ρ S (.lst (ys.map .int))) : EvE (opW wAdd fa fb) ρ S (.lst ((xs ++ ys).map .int)) := fun Q q => h1 _ (h2 _ (by
  rw [List.map_append] at q
  exact ⟨sze (by rw [List.length_map, List.length_map]; exact hl), q⟩))
theorem ev_same {n : Nat} {x : D} (hp : plD n x = true) (h : EvE fa ρ S x) (h2 : EvE fb ρ S x) : EvE (clW (m_law_same n) (consW fa (consW fb nilW))) ρ S (.bl true) := fun Q q => h _ (h2 _ ⟨hp, rfl, q⟩)
theorem ev_tup3 {fc : WE} {x y z : D} (h1 : EvE fa ρ S x) (h2 : EvE fb ρ S y) (h3 : EvE fc ρ S z) : EvE (tupW (consW fa (consW fb (consW fc nilW)))) ρ S (.tup [x, y, z]) := fun Q q => h1 _ (h2 _ (h3 _ ⟨sz3, q⟩))
end
theorem pl_rp (n : Nat) (a : RT) : plD (n + 1) (rp a) = true := by cases n <;> rfl
theorem pl_e (n : Nat) (o : Option Int) : plD n (eD o) = true := by cases o <;> cases n <;> rfl
theorem sp_law_tape (ds : List D) (S : Store) (Q : DQ) (hS : S.all (Cell.blw S.length) = true) (h : m_law_tape ds S Q) : g_law_tape (D0 S Q) (startD ["script", "seed", "cell"] ds) S := sp_tape ds S Q hS h
theorem sp_law_draw (ds : List D) (S : Store) (Q : DQ) (hS : S.all (Cell.blw S.length) = true) (h : m_law_draw ds S Q) : g_law_draw (D0 S Q) (startD ["tape", "many", "cells", "number"] ds) S := sp_draw ds S Q hS h
theorem sp_law_pick (ds : List D) (S : Store) (Q : DQ) (hS : S.all (Cell.blw S.length) = true) (h : m_law_pick ds S Q) : g_law_pick (D0 S Q) (startD ["tape", "row"] ds) S := sp_pick ds S Q hS h
theorem sp_law_same (n : Nat) (ds : List D) (S : Store) (Q : DQ) (hS : S.all (Cell.blw S.length) = true) (h : m_law_same n ds S Q) : g_law_same n (D0 S Q) (startD ["actual", "due", "k"] ds) S := sp_same n ds S Q hS h
theorem sp_law_rests (ds : List D) (S : Store) (Q : DQ) (hS : S.all (Cell.blw S.length) = true) (h : m_law_rests ds S Q) : g_law_rests (D0 S Q) (startD ["tape", "step"] ds) S := by
  unfold m_law_rests at h
  split at h
  · obtain ⟨ns, s, J, rfl, k, q⟩ := h
    generalize hD : D0 (tst ns s ++ J) Q = Dd
    have hrt : ∀ a ns' s', InR a → Tk ns' s' → Dd.rt (rp a) (tst ns' s' ++ J) := fun a ns' s' ha k' => by subst hD; exact .inl (q a ns' s' ha k')
    clear hD q
    refine seq_asgQ ?_
    refine q_draw ev_c rfl (by decide) (by decide) k fun r ns s r0 r1 k => ?_
    refine ret_Q (q_if (evt_ts (ev_eq (ev_v (d := .int r) rfl) ev_c)) (fun e => ?_) (fun e => ?_))
    · refine q_tup2 (q_drawsub rfl (by decide) (by decide) k fun t ns s t0 t1 k => ⟨sz2, ?_⟩)
      exact hrt (t - 15, 0) ns s (.inl ⟨rfl, by show -15 ≤ t - 15; omega, by show t - 15 ≤ 15; omega⟩) k
    · have hr : r ≠ 0 := of_decide_eq_false e
      refine q_tup2 (q_draw (many := r) (ev_v rfl) rfl (by omega) (by omega) k fun t ns s t0 t1 k => ⟨sz2, ?_⟩)
      exact hrt (t, r) ns s (.inr ⟨by show 1 ≤ r; omega, by show r ≤ 12; omega, t0, t1⟩) k
  · exact h.elim
theorem sp_law_numbers (ds : List D) (S : Store) (Q : DQ) (hS : S.all (Cell.blw S.length) = true) (h : m_law_numbers ds S Q) : g_law_numbers (D0 S Q) (startD ["one", "number"] ds) S := by
  obtain ⟨a, rfl, q⟩ := r1_inv h
  refine ret_of (ev_lcI (ns := rng (-40) 81) (inB a) (fun n => .int n) ?_ (by rw [rng_len]; decide) fun n hn => ⟨evt_tru (ev_lin (ev_v rfl) (ev_v rfl)), fun _ => ev_v rfl⟩) (.inl q)
  have g := wiv_r2 (ρ := startD ["one", "number"] [rp a]) (S := S) (ev_neg (ev_c (d := .int 40))) (ev_c (d := .int 41)) (by decide) (by decide) (by decide) (by decide)
  rw [rngD_eq] at g
  exact g
theorem sp_law_least (ds : List D) (S : Store) (Q : DQ) (hS : S.all (Cell.blw S.length) = true) (h : m_law_least ds S Q) : g_law_least (D0 S Q) (startD ["numbers", "step", "number"] ds) S := by
  unfold m_law_least at h
  split at h
  · split at h
    · rename_i ns e
      obtain rfl := of_intsOf e
      obtain ⟨ne, hl, q⟩ := h
      obtain ⟨n0, r, rfl⟩ := cons_of ne
      refine seq_asg (d := .int 0) ev_c ?_
      refine seq_for (wiv_l (ev_v (d := .lst ((n0 :: r).map .int)) rfl)) ?_
      refine for_inv (fun xs ρ S' => ∃ ms g c, xs = List.map D.int ms ∧ S' = S ∧ ρ = [some (.lst ((n0 :: r).map .int)), some (.int g), c] ∧ ms.foldl (fun g n => gcdI g (n - n0)) g = gcdL n0 (n0 :: r)) ?_ _ _ _ ⟨n0 :: r, 0, none, rfl, rfl, rfl, rfl⟩ ?_
      · rintro x xs ρ S' ⟨ms, g, c, e, rfl, rfl, hg⟩
        cases ms with
        | nil => cases e
        | cons m ms =>
          cases e
          refine ⟨trivial, _, rfl, fun De h1 _ _ _ => ?_⟩
          have ev := ev_com (ev_v (i := 1) (d := .int g) (ρ := [some (.lst ((n0 :: r).map .int)), some (.int g), some (.int m)]) (S := S') rfl) (ev_sub (ev_v (i := 2) (d := .int m) rfl) (ev_lix (ev_v (i := 0) rfl) (ev_c (d := .int 0)) (d := .int n0) rfl))
          exact ev _ (h1 _ _ ⟨ms, _, _, rfl, rfl, rfl, hg⟩)
      · rintro ρ S' ⟨ms, g, c, e, rfl, rfl, hg⟩
        have e0 : ms = [] := List.map_eq_nil_iff.mp e.symm
        subst e0
        have hg : g = gcdL n0 (n0 :: r) := hg
        refine ⟨trivial, ?_⟩
        dsimp only
        refine ret_of (eve_if (evt_ts (ev_eq (ev_v (d := .int g) rfl) ev_c)) (x := rp (leastR (n0 :: r))) (fun e => ?_) (fun e => ?_)) (.inl q)
        · have e := of_decide_eq_true e
          rw [show leastR (n0 :: r) = (n0, 0) from if_pos (by rw [← hg]; exact e)]
          exact ev_tup2 (ev_lix (ev_v (i := 0) rfl) (ev_c (d := .int 0)) rfl) ev_c
        · have e := of_decide_eq_false e
          rw [show leastR (n0 :: r) = (n0.fmod (gcdL n0 (n0 :: r)), gcdL n0 (n0 :: r)) from if_neg (by rw [← hg]; exact e), ← hg]
          exact ev_tup2 (ev_mod (ev_lix (ev_v (i := 0) rfl) (ev_c (d := .int 0)) rfl) (ev_v rfl) e) (ev_v rfl)
    · exact h.elim
  · exact h.elim
end K41
namespace K41
open PySem PySem.Spec L2 DL
theorem sums_len (xs ys : List Int) : (sums xs ys).length = xs.length * ys.length := by
  unfold sums
  induction xs with
  | nil => simp
  | cons x xs ih => rw [List.flatMap_cons, List.length_append, ih, List.length_map, List.length_cons, Nat.succ_mul, Nat.add_comm]
theorem gaps_len (xs ys : List Int) : (gaps xs ys).length = xs.length * ys.length := by
  unfold gaps
  induction xs with
  | nil => simp
  | cons x xs ih => rw [List.flatMap_cons, List.length_append, ih, List.length_map, List.length_cons, Nat.succ_mul, Nat.add_comm]
theorem sums_snoc (xs ys : List Int) (x : Int) : sums (xs ++ [x]) ys = sums xs ys ++ ys.map fun y => x + y := by
  unfold sums
  rw [List.flatMap_append]
  simp
theorem gaps_snoc (xs ys : List Int) (x : Int) : gaps (xs ++ [x]) ys = gaps xs ys ++ ys.map fun y => x - y := by
  unfold gaps
  rw [List.flatMap_append]
  simp
theorem take_len (a : RT) (k : Nat) : ((numsR a).take k).length ≤ k := by rw [List.length_take]; omega
theorem flat_ne {xs ys : List Int} (hx : xs ≠ []) (hy : ys ≠ []) : sums xs ys ≠ [] ∧ gaps xs ys ≠ [] := by
  obtain ⟨x, r, rfl⟩ := cons_of hx
  obtain ⟨y, t, rfl⟩ := cons_of hy
  exact ⟨(fun z => by cases z), (fun z => by cases z)⟩
def b_sum : WS :=
    (seqW (asgW (.nm 4) (opW wAdd (vW 4) (lcW (sqI (vW 3)) (.nm 8) yesW (opW wAdd (vW 6) (vW 8)) [8])))
    (asgW (.nm 5) (opW wAdd (vW 5) (lcW (sqI (vW 3)) (.nm 8) yesW (opW wSub (vW 6) (vW 8)) [8]))))
def b_in : WS :=
    (seqW (ifS (notW (truW (clW m_law_in (consW (clW m_multiply (consW (vW 0) (consW (vW 1) nilW))) (consW (opW wMul (vW 6) (vW 8)) nilW))))) (retW (cW (.bl false))) nxW)
    (ifS (andW (tsW (opW wNe (vW 8) (cW (.int 0)))) (notW (andW (truW (clW m_law_in (consW (clW m_quotient (consW (vW 0) (consW (vW 1) nilW))) (consW (opW wDiv (vW 6) (vW 8)) nilW)))) (truW (clW m_law_in (consW (clW m_remainder (consW (vW 0) (consW (vW 1) nilW))) (consW (opW wMod (vW 6) (vW 8)) nilW))))))) (retW (cW (.bl false))) nxW))
section
variable {a b : RT} {S : Store}
theorem sum_step {xs ys done : List Int} {x : Int} {c7 c8 : Option D} {De : DEnds} (hd : done.length ≤ 9) (hy : ys.length ≤ 9)
    (q : De.nx [some (rp a), some (rp b), some (.lst (xs.map .int)), some (.lst (ys.map .int)), some (.lst ((sums (done ++ [x]) ys).map .int)), some (.lst ((gaps (done ++ [x]) ys).map .int)), some (.int x), c7, c8] S) :
    b_sum De [some (rp a), some (rp b), some (.lst (xs.map .int)), some (.lst (ys.map .int)), some (.lst ((sums done ys).map .int)), some (.lst ((gaps done ys).map .int)), some (.int x), c7, c8] S := by
  have m : done.length * ys.length ≤ 81 := Nat.le_trans (Nat.mul_le_mul hd hy) (by decide)
  unfold b_sum
  refine seq_asg (i := 4) (d := .lst ((sums (done ++ [x]) ys).map .int)) ?_ ?_
  · rw [sums_snoc]
    refine ev_cat (by rw [sums_len, List.length_map]; omega) (ev_v rfl) ?_
    have g := ev_lcIy (wi := sqI (vW 3)) (ρ := [some (rp a), some (rp b), some (.lst (xs.map .int)), some (.lst (ys.map .int)), some (.lst ((sums done ys).map .int)), some (.lst ((gaps done ys).map .int)), some (.int x), c7, c8]) (S := S) (i := 8) (vs := [8]) (fe := opW wAdd (vW 6) (vW 8)) (ns := ys) (fun y => .int (x + y)) (wiv_l (ev_v rfl)) (by omega) fun n hn => ev_add (ev_v rfl) (ev_v rfl)
    rw [List.map_map]
    exact g
  · have ev : EvE (opW wAdd (vW 5) (lcW (sqI (vW 3)) (.nm 8) yesW (opW wSub (vW 6) (vW 8)) [8])) [some (rp a), some (rp b), some (.lst (xs.map .int)), some (.lst (ys.map .int)), some (.lst ((sums (done ++ [x]) ys).map .int)), some (.lst ((gaps done ys).map .int)), some (.int x), c7, c8] S (.lst ((gaps (done ++ [x]) ys).map .int)) := by
      rw [gaps_snoc]
      refine ev_cat (by rw [gaps_len, List.length_map]; omega) (ev_v rfl) ?_
      have g := ev_lcIy (wi := sqI (vW 3)) (ρ := [some (rp a), some (rp b), some (.lst (xs.map .int)), some (.lst (ys.map .int)), some (.lst ((sums (done ++ [x]) ys).map .int)), some (.lst ((gaps done ys).map .int)), some (.int x), c7, c8]) (S := S) (i := 8) (vs := [8]) (fe := opW wSub (vW 6) (vW 8)) (ns := ys) (fun y => .int (x - y)) (wiv_l (ev_v rfl)) (by omega) fun n hn => ev_sub (ev_v rfl) (ev_v rfl)
      rw [List.map_map]
      exact g
    exact ev _ q
theorem in_step (sa : smallR a) (sb : smallR b) {x y : Int} {xs ys : List Int} {c4 c5 c7 : Option D} {De : DEnds} (hx : -40 ≤ x ∧ x ≤ 40) (hy : -40 ≤ y ∧ y ≤ 40) (h1 : inB a x = true) (h2 : inB b y = true)
    (q : De.nx [some (rp a), some (rp b), some (.lst (xs.map .int)), some (.lst (ys.map .int)), c4, c5, some (.int x), c7, some (.int y)] S) :
    b_in De [some (rp a), some (rp b), some (.lst (xs.map .int)), some (.lst (ys.map .int)), c4, c5, some (.int x), c7, some (.int y)] S := by
  unfold b_in
  have t1 := evt_not (evt_tru (ev_lin (a := mulR a b) (n := x * y) (ρ := [some (rp a), some (rp b), some (.lst (xs.map .int)), some (.lst (ys.map .int)), c4, c5, some (.int x), c7, some (.int y)]) (S := S) (fa := clW m_multiply (consW (vW 0) (consW (vW 1) nilW))) (fb := opW wMul (vW 6) (vW 8)) (ev_r2 (ok := small2) (f := fun a b => rp (mulR a b)) ⟨sa, sb⟩ (ev_v rfl) (ev_v rfl)) (ev_mul (ev_v rfl) (ev_v rfl) (.inl ⟨by omega, by omega⟩))))
  rw [mul_in h1 h2] at t1
  refine seq_if t1 (fun z => by cases z) fun _ => seq_nx ?_
  have t2 : EvT (andW (tsW (opW wNe (vW 8) (cW (.int 0)))) (notW (andW (truW (clW m_law_in (consW (clW m_quotient (consW (vW 0) (consW (vW 1) nilW))) (consW (opW wDiv (vW 6) (vW 8)) nilW)))) (truW (clW m_law_in (consW (clW m_remainder (consW (vW 0) (consW (vW 1) nilW))) (consW (opW wMod (vW 6) (vW 8)) nilW))))))) [some (rp a), some (rp b), some (.lst (xs.map .int)), some (.lst (ys.map .int)), c4, c5, some (.int x), c7, some (.int y)] S false := by
    by_cases y0 : y = 0
    · refine evt_and (k := false) (j := false) (evt_ts ?_) fun z => by cases z
      have g := ev_ne (ev_v (i := 8) (d := .int y) (ρ := [some (rp a), some (rp b), some (.lst (xs.map .int)), some (.lst (ys.map .int)), c4, c5, some (.int x), c7, some (.int y)]) (S := S) rfl) (ev_c (d := .int 0))
      rw [decide_eq_true y0] at g
      exact g
    · refine evt_and (k := true) (j := false) (evt_ts ?_) fun _ => evt_not (k := true) (evt_and (k := true) (j := true) (evt_tru ?_) fun _ => evt_tru ?_)
      · have g := ev_ne (ev_v (i := 8) (d := .int y) (ρ := [some (rp a), some (rp b), some (.lst (xs.map .int)), some (.lst (ys.map .int)), c4, c5, some (.int x), c7, some (.int y)]) (S := S) rfl) (ev_c (d := .int 0))
        rw [decide_eq_false y0] at g
        exact g
      · have g := ev_lin (a := quoR a b) (n := x.fdiv y) (ρ := [some (rp a), some (rp b), some (.lst (xs.map .int)), some (.lst (ys.map .int)), c4, c5, some (.int x), c7, some (.int y)]) (S := S) (fa := clW m_quotient (consW (vW 0) (consW (vW 1) nilW))) (fb := opW wDiv (vW 6) (vW 8)) (ev_r2 (ok := small2) (f := fun a b => rp (quoR a b)) ⟨sa, sb⟩ (ev_v rfl) (ev_v rfl)) (ev_div (ev_v rfl) (ev_v rfl) ⟨y0, by omega⟩)
        rw [quo_in h1 h2 y0] at g
        exact g
      · have g := ev_lin (a := remR a b) (n := x.fmod y) (ρ := [some (rp a), some (rp b), some (.lst (xs.map .int)), some (.lst (ys.map .int)), c4, c5, some (.int x), c7, some (.int y)]) (S := S) (fa := clW m_remainder (consW (vW 0) (consW (vW 1) nilW))) (fb := opW wMod (vW 6) (vW 8)) (ev_r2 (ok := any2) (f := fun a b => rp (remR a b)) trivial (ev_v rfl) (ev_v rfl)) (ev_mod (ev_v rfl) (ev_v rfl) y0)
        rw [rem_in h1 h2 y0] at g
        exact g
  exact t2 _ q
end
def b_same : WS := (ifS (notW (truW (clW (m_law_same 4) (consW (tupW (consW (clW m_add (consW (vW 0) (consW (vW 1) nilW))) (consW (clW m_subtract (consW (vW 0) (consW (vW 1) nilW))) (consW (clW m_contrary (consW (vW 0) nilW)) nilW)))) (consW (vW 7) nilW))))) (retW (cW (.bl false))) nxW)
theorem reck_eq : g_law_reckoned =
    (seqW (parW 2 3 (consW (slW (clW m_law_numbers (consW (vW 0) nilW)) noP (soP (cW (.int 9)))) (consW (slW (clW m_law_numbers (consW (vW 1) nilW)) noP (soP (cW (.int 9)))) nilW)))
    (seqW (parW 4 5 (consW (lstW nilW) (consW (lstW nilW) nilW)))
    (seqW (forW (sqI (vW 2)) (.nm 6) b_sum)
    (seqW (asgW (.nm 7) (tupW (consW (clW m_law_least (consW (vW 4) nilW)) (consW (clW m_law_least (consW (vW 5) nilW)) (consW (clW m_law_least (consW (lcW (sqI (vW 2)) (.nm 6) yesW (unW wNeg (vW 6)) [6]) nilW)) nilW)))))
    (seqW b_same
    (seqW (forW (sqI (vW 2)) (.nm 6) (forW (sqI (vW 3)) (.nm 8) b_in))
    (retW (cW (.bl true))))))))) := rfl
theorem sp_law_reckoned (ds : List D) (S : Store) (Q : DQ) (hS : S.all (Cell.blw S.length) = true) (h : m_law_reckoned ds S Q) : g_law_reckoned (D0 S Q) (startD ["one", "other", "some", "more", "sums", "gaps", "left", "due", "right"] ds) S := by
  obtain ⟨a, b, rfl, ⟨ha, hb⟩, q⟩ := r2_inv h
  rw [reck_eq]
  have A := some9 ha
  have B := some9 hb
  have inA : ∀ x ∈ (numsR a).take 9, inB a x = true ∧ -40 ≤ x ∧ x ≤ 40 := fun x hx => ⟨nums_in (List.mem_of_mem_take hx), (nums_mem.mp (List.mem_of_mem_take hx)).1⟩
  have inB' : ∀ x ∈ (numsR b).take 9, inB b x = true ∧ -40 ≤ x ∧ x ≤ 40 := fun x hx => ⟨nums_in (List.mem_of_mem_take hx), (nums_mem.mp (List.mem_of_mem_take hx)).1⟩
  refine seq_par (ev_take (n := 9) (ev_numbers (ev_v rfl))) (ev_take (n := 9) (ev_numbers (ev_v rfl))) ?_
  have lA := take_len a 9
  have lB := take_len b 9
  generalize (numsR a).take 9 = xs at *
  generalize (numsR b).take 9 = ys at *
  refine seq_par (x := .lst ((sums [] ys).map .int)) (y := .lst ((gaps [] ys).map .int)) (fun Q q => ⟨sz0, q⟩) (fun Q q => ⟨sz0, q⟩) ?_
  refine seq_for (wiv_l (ev_v (d := .lst (xs.map .int)) rfl)) ?_
  refine for_inv (fun rest ρ S' => ∃ done todo c6, done ++ todo = xs ∧ rest = todo.map D.int ∧ S' = S ∧ ρ = [some (rp a), some (rp b), some (.lst (xs.map .int)), some (.lst (ys.map .int)), some (.lst ((sums done ys).map .int)), some (.lst ((gaps done ys).map .int)), c6, none, none]) ?_ _ _ _ ⟨[], xs, none, rfl, rfl, rfl, rfl⟩ ?_
  · rintro x rest ρ S' ⟨done, todo, c6, e, er, rfl, rfl⟩
    cases todo with
    | nil => cases er
    | cons m todo =>
      cases er
      have ld : done.length ≤ 9 := by
        have := congrArg List.length e
        rw [List.length_append] at this
        omega
      exact ⟨trivial, _, rfl, fun De h1 _ _ _ => sum_step ld lB (h1 _ _ ⟨done ++ [m], todo, _, by rw [List.append_assoc]; exact e, rfl, rfl, rfl⟩)⟩
  · rintro ρ S' ⟨done, todo, c6, e, er, rfl, rfl⟩
    have e0 : todo = [] := List.map_eq_nil_iff.mp er.symm
    subst e0
    rw [List.append_nil] at e
    subst e
    refine ⟨trivial, ?_⟩
    dsimp only
    have ne := flat_ne A.ne B.ne
    have m : done.length * ys.length ≤ 81 := Nat.le_trans (Nat.mul_le_mul lA lB) (by decide)
    refine seq_asg (i := 7) (d := .tup [rp (addR a b), rp (subR a b), rp (conR a)]) ?_ ?_
    · rw [← sums_ok A B, ← gaps_ok hb A B, ← negs_ok ha A]
      refine ev_tup3 (ev_least ne.1 (by rw [sums_len]; omega) (ev_v rfl)) (ev_least ne.2 (by rw [gaps_len]; omega) (ev_v rfl)) (ev_least (fun z => A.ne (List.map_eq_nil_iff.mp z)) (by rw [List.length_map]; omega) ?_)
      rw [List.map_map]
      exact ev_lcIy (fun x => .int (-x)) (wiv_l (ev_v rfl)) (by omega) fun n hn => ev_neg (ev_v rfl)
    · have t := evt_not (k := true) (evt_tru (ev_same (n := 4) (x := .tup [rp (addR a b), rp (subR a b), rp (conR a)]) (ρ := [some (rp a), some (rp b), some (.lst (done.map .int)), some (.lst (ys.map .int)), some (.lst ((sums done ys).map .int)), some (.lst ((gaps done ys).map .int)), c6, some (.tup [rp (addR a b), rp (subR a b), rp (conR a)]), none]) (S := S')
        (fa := tupW (consW (clW m_add (consW (vW 0) (consW (vW 1) nilW))) (consW (clW m_subtract (consW (vW 0) (consW (vW 1) nilW))) (consW (clW m_contrary (consW (vW 0) nilW)) nilW)))) (fb := vW 7) rfl
        (ev_tup3 (ev_r2 (ok := any2) (f := fun a b => rp (addR a b)) trivial (ev_v rfl) (ev_v rfl)) (ev_r2 (ok := any2) (f := fun a b => rp (subR a b)) trivial (ev_v rfl) (ev_v rfl)) (ev_r1 (f := fun a => rp (conR a)) (ev_v rfl))) (ev_v rfl)))
      unfold b_same
      refine seq_if t (fun z => by cases z) fun _ => seq_nx ?_
      refine seq_for (wiv_l (ev_v (d := .lst (done.map .int)) rfl)) ?_
      refine for_inv (fun rest ρ S2 => (∀ x ∈ rest, ∃ n, x = D.int n ∧ n ∈ done) ∧ S2 = S' ∧ ∃ c4 c5 c6 c7 c8, ρ = [some (rp a), some (rp b), some (.lst (done.map .int)), some (.lst (ys.map .int)), c4, c5, c6, c7, c8]) ?_ _ _ _ ⟨fun x hx => ?_, rfl, _, _, _, _, _, rfl⟩ ?_
      · rintro x rest ρ S2 ⟨hx, rfl, c4, c5, c6, c7, c8, rfl⟩
        obtain ⟨n, rfl, hn⟩ := hx x List.mem_cons_self
        refine ⟨trivial, _, rfl, fun De h1 _ _ _ => ?_⟩
        refine (wiv_l (ev_v (i := 3) (d := .lst (ys.map .int)) (ρ := [some (rp a), some (rp b), some (.lst (done.map .int)), some (.lst (ys.map .int)), c4, c5, some (.int n), c7, c8]) (S := S2) rfl)) _ ?_
        refine for_inv (fun rest2 ρ S3 => (∀ y ∈ rest2, ∃ n, y = D.int n ∧ n ∈ ys) ∧ S3 = S2 ∧ ∃ c8, ρ = [some (rp a), some (rp b), some (.lst (done.map .int)), some (.lst (ys.map .int)), c4, c5, some (.int n), c7, c8]) ?_ _ _ _ ⟨fun y hy => ?_, rfl, _, rfl⟩ ?_
        · rintro y rest2 ρ S3 ⟨hy, rfl, c8, rfl⟩
          obtain ⟨m, rfl, hm⟩ := hy y List.mem_cons_self
          refine ⟨trivial, _, rfl, fun De2 h2 _ _ _ => ?_⟩
          have i1 := inA n hn
          have i2 := inB' m hm
          exact in_step ha.small hb.small i1.2 i2.2 i1.1 i2.1 (h2 _ _ ⟨fun z hz => hy z (List.mem_cons_of_mem _ hz), rfl, _, rfl⟩)
        · obtain ⟨m, hm, rfl⟩ := List.mem_map.mp hy
          exact ⟨m, rfl, hm⟩
        · rintro ρ S3 ⟨_, rfl, c8, rfl⟩
          exact ⟨trivial, h1 _ _ ⟨fun z hz => hx z (List.mem_cons_of_mem _ hz), rfl, _, _, _, _, _, rfl⟩⟩
      · obtain ⟨n, hn, rfl⟩ := List.mem_map.mp hx
        exact ⟨n, rfl, hn⟩
      · rintro ρ S2 ⟨_, rfl, c4, c5, c6, c7, c8, rfl⟩
        exact ⟨trivial, .inl q⟩
end K41
namespace K41
open PySem PySem.Spec L2 DL
def b_led : WS :=
    (seqW (asgW (.nm 4) (lcW (rgI2 (consW (unW wNeg (cW (.int 80))) (consW (cW (.int 81)) nilW))) (.nm 8) (andW (truW (clW m_law_in (consW (vW 1) (consW (vW 8) nilW)))) (andW (orW (tsW (opW wIs (opW wIx (vW 3) (cW (.int 0))) (cW .non))) (tsW (opW wGe (vW 8) (opW wIx (vW 3) (cW (.int 0)))))) (orW (tsW (opW wIs (opW wIx (vW 3) (cW (.int 1))) (cW .non))) (tsW (opW wLe (vW 8) (opW wIx (vW 3) (cW (.int 1)))))))) (vW 8) [8]))
    (seqW (asgW (.nm 5) (clW m_led (consW (vW 3) (consW (vW 1) nilW))))
    (seqW (ifS (tsW (opW wEq (vW 4) (lstW nilW))) (retW (opW wIs (vW 5) (cW .non))) nxW)
    (seqW (ifS (orW (tsW (opW wIs (vW 5) (cW .non))) (orW (notW (truW (clW m_is_rests (consW (opW wIx (vW 5) (cW (.int 1))) nilW)))) (truW (clW wAny (consW (lcW (sqI (vW 4)) (.nm 8) yesW (notV (clW m_law_in (consW (opW wIx (vW 5) (cW (.int 1))) (consW (vW 8) nilW)))) [8]) nilW))))) (retW (cW (.bl false))) nxW)
    (seqW (parW 6 7 (consW (orV (opW wIsnt (opW wIx (vW 3) (cW (.int 0))) (cW .non)) (opW wEq (opW wIx (vW 1) (cW (.int 1))) (cW (.int 0)))) (consW (orV (opW wIsnt (opW wIx (vW 3) (cW (.int 1))) (cW .non)) (opW wEq (opW wIx (vW 1) (cW (.int 1))) (cW (.int 0)))) nilW)))
    (retW (clW (m_law_same 4) (consW (opW wIx (vW 5) (cW (.int 0))) (consW (tupW (consW (ifW (truW (vW 6)) (opW wIx (vW 4) (cW (.int 0))) (cW .non)) (consW (ifW (truW (vW 7)) (opW wIx (vW 4) (unW wNeg (cW (.int 1)))) (cW .non)) nilW))) nilW)))))))))
theorem ev_led {ρ : Rho} {S : Store} {fa fb : WE} {lo hi : Option Int} {a : RT} (h : EvE fa ρ S (.tup [eD lo, eD hi])) (h2 : EvE fb ρ S (rp a)) : EvE (clW m_led (consW fa (consW fb nilW))) ρ S (ledR lo hi a) := fun Q q => h _ (h2 _ (by
  show m_led [.tup [eD lo, eD hi], rp a] S Q
  simp only [m_led, eOf_eD, rpOf_rp]; exact q))
theorem ev_isr {ρ : Rho} {S : Store} {fa : WE} {d : D} {k : Bool} (e : isRestsB d = some k) (h : EvE fa ρ S d) : EvE (clW m_is_rests (consW fa nilW)) ρ S (.bl k) := fun Q q => h _ (by
  show m_is_rests [d] S Q
  simp only [m_is_rests, e]; exact q)
theorem ev_lowIs {ρ : Rho} {S : Store} {i j : Nat} {n : Int} {o : Option Int} {a : RT} (h : EvE (opW wIx (vW i) (cW (.int n))) ρ S (eD o)) (h2 : lk ρ j = some (rp a)) : EvE (orV (opW wIsnt (opW wIx (vW i) (cW (.int n))) (cW .non)) (opW wEq (opW wIx (vW j) (cW (.int 1))) (cW (.int 0)))) ρ S (.bl (lowIs o a)) := by
  have g : EvE (opW wIsnt (opW wIx (vW i) (cW (.int n))) (cW .non)) ρ S (.bl o.isSome) := fun Q q => h _ (by cases o <;> exact q)
  exact ev_or g fun _ => ev_eq (e1 h2) ev_c
theorem led_spec {a : RT} {lo hi : Option Int} {t low : D} {S : Store} {c4 c5 c6 c7 c8 : Option D} {De : DEnds} (ha : InR a) (hl : ∀ l, lo = some l → -20 ≤ l ∧ l ≤ 20) (hh : ∀ u, hi = some u → -20 ≤ u ∧ u ≤ 40) (q : De.rt (.bl true) S) :
    b_led De [some t, some (rp a), some low, some (.tup [eD lo, eD hi]), c4, c5, c6, c7, c8] S := by
  unfold b_led
  refine seq_asg (i := 4) (d := .lst ((ledL lo hi a).map .int)) ?_ ?_
  · refine ev_lcI (ns := rng (-80) 161) (fun n => inB a n && (geO lo n && leO hi n)) (fun n => .int n) ?_ (by rw [rng_len]; decide) fun n hn => ⟨evt_and (evt_tru (ev_lin (ev_v rfl) (ev_v rfl))) fun _ => evt_and ?_ fun _ => ?_, fun _ => ev_v rfl⟩
    · have g := wiv_r2 (ρ := [some t, some (rp a), some low, some (.tup [eD lo, eD hi]), c4, c5, c6, c7, c8]) (S := S) (ev_neg (ev_c (d := .int 80))) (ev_c (d := .int 81)) (by decide) (by decide) (by decide) (by decide)
      rw [rngD_eq] at g
      exact g
    · cases lo with
      | none => exact fun Q q => q
      | some l => exact evt_or (k := false) (j := decide (l ≤ n)) (fun Q q => q) fun _ => fun Q q => q
    · cases hi with
      | none => exact fun Q q => q
      | some l => exact evt_or (k := false) (j := decide (n ≤ l)) (fun Q q => q) fun _ => fun Q q => q
  refine seq_asg (i := 5) (ev_led (ev_v rfl) (ev_v rfl)) ?_
  obtain ⟨k1, k2⟩ := led_ok ha hl hh
  have len : (ledL lo hi a).length < 100000 := by
    have z := List.length_filter_le (fun n => inB a n && (geO lo n && leO hi n)) (rng (-80) 161)
    rw [rng_len] at z
    unfold ledL
    omega
  have lm : LedOk lo hi a = LedOk lo hi a := rfl
  generalize hL : ledL lo hi a = L at k1 k2 len
  refine seq_if (evt_ts (ev_eqnil (ns := L) (ev_v (d := .lst (L.map .int)) rfl))) (fun e => ?_) (fun e => seq_nx ?_)
  · rw [k1 (List.isEmpty_iff.mp e)]
    exact seq_ret (ev_isn (ev_v rfl)) q
  · have ne : L ≠ [] := fun z => by rw [z] at e; cases e
    obtain ⟨l', h', c, ok⟩ := k2 ne
    have okall := ok.all
    have oklow := ok.low
    have okhigh := ok.high
    rw [hL] at okall oklow okhigh
    rw [ok.eq]
    have t1 := evt_or (k := false) (j := false) (ρ := [some t, some (rp a), some low, some (.tup [eD lo, eD hi]), some (.lst (L.map .int)), some (.tup [.tup [eD l', eD h'], rp c]), c6, c7, c8]) (S := S)
      (ft := tsW (opW wIs (vW 5) (cW .non))) (fu := orW (notW (truW (clW m_is_rests (consW (opW wIx (vW 5) (cW (.int 1))) nilW)))) (truW (clW wAny (consW (lcW (sqI (vW 4)) (.nm 8) yesW (notV (clW m_law_in (consW (opW wIx (vW 5) (cW (.int 1))) (consW (vW 8) nilW)))) [8]) nilW))))
      (evt_ts (ev_isn (ev_v (d := .tup [.tup [eD l', eD h'], rp c]) rfl)))
      fun _ => evt_or (k := false) (j := false) (evt_not (k := true) (evt_tru (ev_isr ok.is (ev_tix (ev_v rfl) rfl)))) fun _ => evt_tru (by
        have g := ev_any (ρ := [some t, some (rp a), some low, some (.tup [eD lo, eD hi]), some (.lst (L.map .int)), some (.tup [.tup [eD l', eD h'], rp c]), c6, c7, c8]) (S := S) (bs := L.map fun _ => false) (by
          have g := ev_lcIy (wi := sqI (vW 4)) (ρ := [some t, some (rp a), some low, some (.tup [eD lo, eD hi]), some (.lst (L.map .int)), some (.tup [.tup [eD l', eD h'], rp c]), c6, c7, c8]) (S := S) (i := 8) (vs := [8]) (fe := notV (clW m_law_in (consW (opW wIx (vW 5) (cW (.int 1))) (consW (vW 8) nilW)))) (ns := L) (fun _ => .bl false) (wiv_l (ev_v rfl)) len fun n hn => by
            have g := ev_not (ev_lin (a := c) (n := n) (ρ := [some t, some (rp a), some low, some (.tup [eD lo, eD hi]), some (.lst (L.map .int)), some (.tup [.tup [eD l', eD h'], rp c]), c6, c7, some (.int n)]) (S := S) (fa := opW wIx (vW 5) (cW (.int 1))) (fb := vW 8) (ev_tix (ev_v rfl) rfl) (ev_v rfl))
            rw [okall n hn] at g
            exact g
          rw [List.map_map]
          exact g)
        have e : (L.map fun _ => false).any id = false := by simp
        rw [e] at g
        exact g)
    refine seq_if t1 (fun z => by cases z) fun _ => seq_nx ?_
    refine seq_par (ev_lowIs (o := lo) (a := a) (ev_tix (ev_v rfl) rfl) rfl) (ev_lowIs (o := hi) (a := a) (ev_tix (ev_v rfl) rfl) rfl) ?_
    show retW _ De [some t, some (rp a), some low, some (.tup [eD lo, eD hi]), some (.lst (L.map .int)), some (.tup [.tup [eD l', eD h'], rp c]), some (.bl (lowIs lo a)), some (.bl (lowIs hi a)), c8] S
    refine ret_of (ev_same (n := 4) (x := .tup [eD l', eD h']) ?_ (ev_tix (ev_v rfl) rfl) (ev_tup2 (x := eD l') (y := eD h') ?_ ?_)) q
    · show ([eD l', eD h'].all (plD 3) && decide _) = true
      simp only [List.all_cons, List.all_nil, pl_e 3, Bool.and_true, Bool.true_and]
      rfl
    · refine eve_if (evt_tru (ev_v rfl)) (fun z => ?_) (fun z => ?_)
      · rw [oklow, if_pos z]
        obtain ⟨x, r, rfl⟩ := cons_of ne
        exact ev_lix (ev_v rfl) ev_c rfl
      · rw [oklow, if_neg (by rw [z]; decide)]
        exact ev_c
    · refine eve_if (evt_tru (ev_v rfl)) (fun z => ?_) (fun z => ?_)
      · rw [okhigh, if_pos z]
        rcases List.eq_nil_or_concat L with rfl | ⟨ys, l, rfl⟩
        · exact absurd rfl ne
        · rw [List.concat_eq_append]
          have e : (ys ++ [l]).getLast? = some l := by simp
          rw [e]
          refine ev_lix (xs := (ys ++ [l]).map .int) (ev_v rfl) (ev_neg ev_c) ?_
          rw [List.map_append]
          exact ixD_last
      · rw [okhigh, if_neg (by rw [z]; decide)]
        exact ev_c
def row4 : WE := (lstW (consW (tupW (consW (vW 2) (consW (opW wAdd (vW 2) (clW m_law_draw (consW (vW 0) (consW (cW (.int 20)) nilW)))) nilW))) (consW (tupW (consW (vW 2) (consW (cW .non) nilW))) (consW (tupW (consW (cW .non) (consW (vW 2) nilW))) (consW (tupW (consW (cW .non) (consW (cW .non) nilW))) nilW)))))
theorem ledg_eq : g_law_led = (seqW (asgW (.nm 2) (opW wSub (clW m_law_draw (consW (vW 0) (consW (cW (.int 41)) nilW))) (cW (.int 20))))
    (seqW (asgW (.nm 3) (clW m_law_pick (consW (vW 0) (consW row4 nilW)))) b_led)) := rfl
theorem q_pickQ {ρ : Rho} {i : Nat} {S0 : Store} {Q : DQ} {fa : WE} (hl : lk ρ i = some (.loc 1)) (z : fa ρ S0 fun d2 S2 => m_pick [.loc 1, d2] S2 Q) : clW m_law_pick (consW (vW i) (consW fa nilW)) ρ S0 Q :=
  (ev_v hl) (fun d S1 => fa ρ S1 fun d2 S2 => m_pick [d, d2] S2 Q) z
theorem sp_law_led (ds : List D) (S : Store) (Q : DQ) (hS : S.all (Cell.blw S.length) = true) (h : m_law_led ds S Q) : g_law_led (D0 S Q) (startD ["tape", "one", "low", "span", "numbers", "told", "is_low", "is_high", "number"] ds) S := by
  unfold m_law_led at h
  split at h
  · split at h
    · rename_i x a e
      obtain rfl := of_rpOf e
      obtain ⟨ha, ns, s, J, rfl, k, q⟩ := h
      generalize hD : D0 (tst ns s ++ J) Q = Dd
      have hrt : ∀ ns' s', Tk ns' s' → Dd.rt (.bl true) (tst ns' s' ++ J) := fun ns' s' k' => by subst hD; exact .inl (q ns' s' k')
      clear hD q
      rw [ledg_eq]
      refine seq_asgQ ?_
      refine q_drawsub rfl (by decide) (by decide) k fun r ns s r0 r1 k => ?_
      have hl : -20 ≤ r - 20 ∧ r - 20 ≤ 20 := ⟨by omega, by omega⟩
      show seqW (asgW (.nm 3) (clW m_law_pick (consW (vW 0) (consW row4 nilW)))) b_led Dd [some (.loc 1), some (rp a), some (.int (r - 20)), none, none, none, none, none, none] (tst ns s ++ J)
      clear r0 r1
      generalize r - 20 = low at *
      refine seq_asgQ ?_
      have fin : ∀ (lo hi : Option Int) ns s, (∀ l, lo = some l → -20 ≤ l ∧ l ≤ 20) → (∀ u, hi = some u → -20 ≤ u ∧ u ≤ 40) → Tk ns s → b_led Dd ([some (.loc 1), some (rp a), some (.int low), none, none, none, none, none, none].set 3 (some (.tup [eD lo, eD hi]))) (tst ns s ++ J) :=
        fun lo hi ns s h1 h2 k => led_spec ha h1 h2 (hrt ns s k)
      have one : ∀ d : Int, 0 ≤ d → d < 20 → ∀ x ∈ [D.tup [.int low, .int (low + d)], .tup [.int low, .non], .tup [.non, .int low], .tup [.non, .non]], ∀ ns s, Tk ns s → b_led Dd ([some (.loc 1), some (rp a), some (.int low), none, none, none, none, none, none].set 3 (some x)) (tst ns s ++ J) := by
        intro d d0 d1 x hx ns s k
        simp only [List.mem_cons, List.not_mem_nil, or_false] at hx
        rcases hx with rfl | rfl | rfl | rfl
        · exact fin (some low) (some (low + d)) ns s (by intro l e; cases e; exact hl) (by intro l e; cases e; omega) k
        · exact fin (some low) none ns s (by intro l e; cases e; exact hl) (by intro l e; cases e) k
        · exact fin none (some low) ns s (by intro l e; cases e) (by intro l e; cases e; omega) k
        · exact fin none none ns s (by intro l e; cases e) (by intro l e; cases e) k
      clear fin
      -- the row holds a drawn number
      have row : ∀ P : DQ, (∀ d ns s, 0 ≤ d → d < 20 → Tk ns s → P (.lst [D.tup [.int low, .int (low + d)], .tup [.int low, .non], .tup [.non, .int low], .tup [.non, .non]]) (tst ns s ++ J)) → row4 [some (.loc 1), some (rp a), some (.int low), none, none, none, none, none, none] (tst ns s ++ J) P := by
        intro P hP
        unfold row4
        have z : clW m_law_draw (consW (vW 0) (consW (cW (.int 20)) nilW)) [some (.loc 1), some (rp a), some (.int low), none, none, none, none, none, none] (tst ns s ++ J) fun d S1 => wAdd (.int low) d S1 fun e S2 => [D.int low, e].length ≤ sizeLine ∧ ([D.int low, D.non].length ≤ sizeLine ∧ ([D.non, D.int low].length ≤ sizeLine ∧ ([D.non, D.non].length ≤ sizeLine ∧ ([D.tup [.int low, e], .tup [.int low, .non], .tup [.non, .int low], .tup [.non, .non]].length ≤ sizeLine ∧ P (.lst [D.tup [.int low, e], .tup [.int low, .non], .tup [.non, .int low], .tup [.non, .non]]) S2)))) :=
          q_draw ev_c rfl (by decide) (by decide) k fun d ns s d0 d1 k => ⟨sz2, sz2, sz2, sz2, sz4, hP d ns s d0 d1 k⟩
        exact z
      have z : row4 [some (.loc 1), some (rp a), some (.int low), none, none, none, none, none, none] (tst ns s ++ J) fun d2 S2 => m_pick [.loc 1, d2] S2 fun d S' => b_led Dd ([some (.loc 1), some (rp a), some (.int low), none, none, none, none, none, none].set 3 (some d)) S' := row _ fun d ns s d0 d1 k => by
        show m_pick [.loc 1, .lst [D.tup [.int low, .int (low + d)], .tup [.int low, .non], .tup [.non, .int low], .tup [.non, .non]]] (tst ns s ++ J) _
        simp only [m_pick, rowOf]
        exact ⟨Nat.zero_lt_succ _, (show (4 : Nat) < 1000000 by decide), ns, s, J, rfl, k, fun x ns s hx k => one d d0 d1 x hx ns s k⟩
      exact q_pickQ rfl z
    · exact h.elim
  · exact h.elim
end K41
namespace K41
open PySem PySem.Spec L2 DL
/-- what is told of both -/
def Told (d : D) (L : List Int) : Prop := (d = .non ∧ L = []) ∨ ∃ c, d = rp c ∧ L ≠ [] ∧ leastR L = c
theorem meet_ev {a b : RT} {S : Store} (ha : InR a) (hb : InR b) : ∃ d, Told d (bothR a b) ∧ ∀ Q : DQ, Q d S → m_meet [rp a, rp b] S Q := by
  have start : ∀ Q : DQ, (if a.2 = 0 then (if inB b a.1 = true then Q (rp a) S else Q .non S)
      else if b.2 = 0 then (if inB a b.1 = true then Q (rp b) S else Q .non S)
      else if (a.1 - b.1).fmod (gcdI a.2 b.2) ≠ 0 then Q .non S
      else ∃ k : Nat, firstK a b k ∧ Q (rp (mkS (a.1 + a.2 * (k : Int)) (a.2.fdiv (gcdI a.2 b.2) * b.2))) S) → m_meet [rp a, rp b] S Q := fun Q h => ⟨⟨ha.small, hb.small⟩, ha.nn, hb.nn, h⟩
  by_cases a0 : a.2 = 0
  · have m := meet_l (b := b) ha a0
    cases e : inB b a.1 with
    | true => exact ⟨rp a, .inr ⟨a, rfl, (m.1 e).1, (m.1 e).2⟩, fun Q q => start Q (by rw [if_pos a0, if_pos e]; exact q)⟩
    | false => exact ⟨.non, .inl ⟨rfl, m.2 e⟩, fun Q q => start Q (by rw [if_pos a0, if_neg (by rw [e]; decide)]; exact q)⟩
  · by_cases b0 : b.2 = 0
    · have m := meet_l (b := a) hb b0
      rw [both_comm] at m
      cases e : inB a b.1 with
      | true => exact ⟨rp b, .inr ⟨b, rfl, (m.1 e).1, (m.1 e).2⟩, fun Q q => start Q (by rw [if_neg a0, if_pos b0, if_pos e]; exact q)⟩
      | false => exact ⟨.non, .inl ⟨rfl, m.2 e⟩, fun Q q => start Q (by rw [if_neg a0, if_pos b0, if_neg (by rw [e]; decide)]; exact q)⟩
    · have m := meet_pos ha hb a0 b0
      by_cases c : (a.1 - b.1).fmod (gcdI a.2 b.2) = 0
      · obtain ⟨k, k1, k2, k3⟩ := m.2 c
        exact ⟨_, .inr ⟨_, rfl, k2, k3⟩, fun Q q => start Q (by rw [if_neg a0, if_neg b0, if_neg (fun z => z c)]; exact ⟨k, k1, q⟩)⟩
      · exact ⟨.non, .inl ⟨rfl, m.1 c⟩, fun Q q => start Q (by rw [if_neg a0, if_neg b0, if_pos c]; exact q)⟩
def b_pair : WS := (asgW (.tp [3, 4]) (tupW (consW (clW m_law_rests (consW (vW 1) nilW)) (consW (clW m_law_rests (consW (vW 1) nilW)) nilW))))
def b_one : WS :=
    (seqW (asgW (.tp [5, 6]) (tupW (consW (clW m_law_numbers (consW (vW 3) nilW)) (consW (clW m_law_numbers (consW (vW 4) nilW)) nilW))))
    (seqW (ifS (notW (truW (clW wAll (consW (lcW (rgI2 (consW (unW wNeg (cW (.int 40))) (consW (cW (.int 41)) nilW))) (.nm 16) yesW (clW (m_law_same 4) (consW (clW m_holds (consW (vW 3) (consW (vW 16) nilW))) (consW (clW m_law_in (consW (vW 3) (consW (vW 16) nilW))) nilW))) [16]) nilW)))) (retW (cW (.bl false))) nxW)
    (ifS (notW (truW (clW (m_law_same 4) (consW (clW m_is_within (consW (vW 3) (consW (vW 4) nilW))) (consW (andV (clW wAll (consW (lcW (sqI (vW 5)) (.nm 16) yesW (opW (wIn false) (vW 16) (vW 6)) [16]) nilW)) (orV (opW wGt (opW wIx (vW 4) (cW (.int 1))) (cW (.int 0))) (opW wEq (opW wIx (vW 3) (cW (.int 1))) (cW (.int 0))))) nilW))))) (retW (cW (.bl false))) nxW)))
def b_reck : WS := (ifS (orW (notW (truW (clW (m_law_same 4) (consW (clW m_join (consW (vW 3) (consW (vW 4) nilW))) (consW (clW m_law_least (consW (opW wAdd (slW (vW 5) noP (soP (cW (.int 8)))) (slW (vW 6) noP (soP (cW (.int 8))))) nilW)) nilW))))) (orW (notW (truW (clW m_law_reckoned (consW (vW 3) (consW (vW 4) nilW))))) (notW (truW (clW m_law_led (consW (vW 1) (consW (vW 3) nilW))))))) (retW (cW (.bl false))) nxW)
def b_meet : WS :=
    (seqW (parW 7 8 (consW (lcW (rgI2 (consW (unW wNeg (cW (.int 200))) (consW (cW (.int 201)) nilW))) (.nm 16) (andW (truW (clW m_law_in (consW (vW 3) (consW (vW 16) nilW)))) (truW (clW m_law_in (consW (vW 4) (consW (vW 16) nilW))))) (vW 16) [16]) (consW (clW m_meet (consW (vW 3) (consW (vW 4) nilW))) nilW)))
    (ifS (orW (andW (tsW (opW wEq (vW 7) (lstW nilW))) (tsW (opW wIsnt (vW 8) (cW .non)))) (andW (tsW (opW wNe (vW 7) (lstW nilW))) (orW (tsW (opW wIs (vW 8) (cW .non))) (notW (truW (clW (m_law_same 4) (consW (vW 8) (consW (clW m_law_least (consW (vW 7) nilW)) nilW)))))))) (retW (cW (.bl false))) nxW))
def b_place : WS := (asgW (.nm 9) (opW wSub (clW m_law_draw (consW (vW 1) (consW (cW (.int 61)) nilW))) (cW (.int 30))))
def b_fl : WS :=
    (seqW (asgW (.nm 10) (lcW (rgI2 (consW (unW wNeg (cW (.int 60))) (consW (cW (.int 60)) nilW))) (.nm 16) (andW (truW (clW m_law_in (consW (vW 3) (consW (vW 16) nilW)))) (tsW (opW wGe (vW 16) (vW 9)))) (vW 16) [16]))
    (seqW (asgW (.nm 11) (lcW (rgI2 (consW (unW wNeg (cW (.int 60))) (consW (cW (.int 60)) nilW))) (.nm 16) (andW (truW (clW m_law_in (consW (vW 3) (consW (vW 16) nilW)))) (tsW (opW wLe (vW 16) (vW 9)))) (vW 16) [16]))
    (ifS (notW (truW (clW (m_law_same 4) (consW (tupW (consW (clW m_first_from (consW (vW 3) (consW (vW 9) nilW))) (consW (clW m_last_to (consW (vW 3) (consW (vW 9) nilW))) nilW))) (consW (tupW (consW (ifW (tsW (opW wNe (vW 10) (lstW nilW))) (opW wIx (vW 10) (cW (.int 0))) (cW .non)) (consW (ifW (tsW (opW wNe (vW 11) (lstW nilW))) (opW wIx (vW 11) (unW wNeg (cW (.int 1)))) (cW .non)) nilW))) nilW))))) (retW (cW (.bl false))) nxW)))
def b_rs : WS := (parW 12 13 (consW (opW wSub (clW m_law_draw (consW (vW 1) (consW (cW (.int 99)) nilW))) (cW (.int 49))) (consW (clW m_law_draw (consW (vW 1) (consW (cW (.int 20)) nilW))) nilW)))
def b_mk : WS := (ifS (notW (truW (clW (m_law_same 4) (consW (tupW (consW (clW m_make (consW (vW 12) (consW (vW 13) nilW))) (consW (clW m_of (consW (vW 12) nilW)) nilW))) (consW (tupW (consW (ifW (tsW (opW wGt (vW 13) (cW (.int 0)))) (tupW (consW (opW wMod (vW 12) (vW 13)) (consW (vW 13) nilW))) (tupW (consW (vW 12) (consW (cW (.int 0)) nilW)))) (consW (tupW (consW (vW 12) (consW (cW (.int 0)) nilW))) nilW))) nilW))))) (retW (cW (.bl false))) nxW)
def b_great : WS := (asgW (.nm 14) (opW wSub (opW wAdd (opW wPow (cW (.int 10)) (cW (.int 6))) (clW m_law_draw (consW (vW 1) (consW (cW (.int 3)) nilW)))) (cW (.int 1))))
def b_tam : WS := (ifS (notW (truW (clW (m_law_same 4) (consW (tupW (consW (clW m_tamed (consW (tupW (consW (cW (.int 1)) (consW (vW 14) nilW))) nilW)) (consW (cW (.tup [.int 0, .int 1])) nilW))) (consW (tupW (consW (ifW (tsW (opW wLe (vW 14) (opW wPow (cW (.int 10)) (cW (.int 6))))) (tupW (consW (cW (.int 1)) (consW (vW 14) nilW))) (tupW (consW (cW (.int 0)) (consW (cW (.int 1)) nilW)))) (consW (tupW (consW (cW (.int 0)) (consW (cW (.int 1)) nilW))) nilW))) nilW))))) (retW (cW (.bl false))) nxW)
def b_wrong : WS := (asgW (.nm 15) (lstW (consW (tupW (consW (cW (.int 2)) (consW (cW (.int 2)) nilW))) (consW (tupW (consW (unW wNeg (cW (.int 1))) (consW (cW (.int 3)) nilW))) (consW (tupW (consW (cW (.int 1)) (consW (unW wNeg (cW (.int 1))) nilW))) (consW (tupW (consW (cW (.int 0)) nilW)) (consW (lstW (consW (cW (.int 0)) (consW (cW (.int 1)) nilW))) (consW (cW .non) (consW (tupW (consW (cW (.bl true)) (consW (cW (.int 3)) nilW))) (consW (tupW (consW (cW (.int 0)) (consW (cW (.bl true)) nilW))) (consW (tupW (consW (cW (.int 1)) (consW (cW (.int 2)) (consW (cW (.int 3)) nilW)))) (consW (cW (.str "ab")) (consW (tupW (consW (cW (.int 3)) (consW (cW (.int 1)) nilW))) (consW (cW (.int 7)) nilW))))))))))))))
def b_ret : WS := (retW (andV (notV (clW wAny (consW (lcW (sqI (vW 15)) (.nm 17) yesW (clW m_is_rests (consW (vW 17) nilW)) [17]) nilW))) (clW wAll (consW (lcW (sqI (lstW (consW (tupW (consW (cW (.int 0)) (consW (cW (.int 1)) nilW))) (consW (tupW (consW (cW (.int 5)) (consW (cW (.int 0)) nilW))) (consW (tupW (consW (unW wNeg (cW (.int 5))) (consW (cW (.int 0)) nilW))) (consW (tupW (consW (cW (.int 2)) (consW (cW (.int 3)) nilW))) (consW (tupW (consW (cW (.int 0)) (consW (cW (.int 7)) nilW))) nilW))))))) (.nm 17) yesW (clW m_is_rests (consW (vW 17) nilW)) [17]) nilW))))
def b_turn : WS := seqW b_pair (seqW b_one (seqW b_reck (seqW b_meet (seqW b_place (seqW b_fl (seqW b_rs b_mk))))))
theorem seqW_assoc (a b c : WS) : seqW (seqW a b) c = seqW a (seqW b c) := rfl
theorem law_eq : g_law = seqW (asgW (.nm 1) (clW m_law_tape (consW (vW 0) nilW))) (seqW (forW (rgI1 (consW (cW (.int 3)) nilW)) (.nm 2) b_turn) (seqW b_great (seqW b_tam (seqW b_wrong b_ret)))) := by
  unfold g_law b_turn b_pair b_one b_reck b_meet b_place b_fl b_rs b_mk b_great b_tam b_wrong b_ret
  simp only [seqW_assoc]
end K41
namespace K41
open PySem PySem.Spec L2 DL
abbrev rho (scr : D) (c2 c3 c4 c5 c6 c7 c8 c9 c10 c11 c12 c13 c14 c15 c16 c17 : Option D) : Rho := [some scr, some (.loc 1), c2, c3, c4, c5, c6, c7, c8, c9, c10, c11, c12, c13, c14, c15, c16, c17]
section
variable {scr : D} {a b : RT} {S : Store} {De : DEnds} {rest : WS} {t c3 c4 c5 c6 c7 c8 c9 c10 c11 c12 c13 c14 c15 c16 c17 : Option D} {ns : List Int} {s : Int}
theorem pair_ok (k : Tk ns s) (h : ∀ a b ns s, InR a → InR b → Tk ns s → rest De (rho scr t (some (rp a)) (some (rp b)) c5 c6 c7 c8 c9 c10 c11 c12 c13 c14 c15 c16 c17) (tst ns s ++ [])) :
    seqW b_pair rest De (rho scr t c3 c4 c5 c6 c7 c8 c9 c10 c11 c12 c13 c14 c15 c16 c17) (tst ns s ++ []) := by
  unfold b_pair
  exact ⟨ns, s, [], rfl, k, fun a ns s ha k => ⟨ns, s, [], rfl, k, fun b ns s hb k => ⟨sz2, h a b ns s ha hb k⟩⟩⟩
theorem ev_allT {ρ : Rho} {S : Store} {wi : WI} {i : Nat} {vs : List Nat} {fe : WE} {us : List Int} (hw : WIv wi ρ S (us.map .int)) (hl : us.length < 100000) (h : ∀ n ∈ us, EvE fe ((wipeD ρ vs).set i (some (.int n))) S (.bl true)) : EvE (clW wAll (consW (lcW wi (.nm i) yesW fe vs) nilW)) ρ S (.bl true) := by
  have g := ev_all (ρ := ρ) (S := S) (fa := lcW wi (.nm i) yesW fe vs) (bs := us.map fun _ => true) (by
    have g := ev_lcIy (fun _ => .bl true) hw hl h
    rw [List.map_map]
    exact g)
  have e : (us.map fun _ => true).all id = true := by simp
  rw [e] at g
  exact g
theorem wiv_rr {ρ : Rho} {S : Store} {fa fb : WE} {m n : Int} (h : EvE fa ρ S (.int m)) (h' : EvE fb ρ S (.int n)) (h1 : -(2 ^ 62) ≤ m := by decide) (h2 : m < 2 ^ 62 := by decide) (h3 : -(2 ^ 62) ≤ n := by decide) (h4 : n < 2 ^ 62 := by decide) : WIv (rgI2 (consW fa (consW fb nilW))) ρ S ((rng m (n - m).toNat).map .int) := by
  have g := wiv_r2 h h' h1 h2 h3 h4
  rwa [rngD_eq] at g
theorem nums_len (a : RT) : (numsR a).length ≤ 81 := by
  have q := List.length_filter_le (inB a) (rng (-40) 81)
  rw [rng_len] at q
  exact q
theorem one_ok (ha : InR a) (hb : InR b) (h : rest De (rho scr t (some (rp a)) (some (rp b)) (some (.lst ((numsR a).map .int))) (some (.lst ((numsR b).map .int))) c7 c8 c9 c10 c11 c12 c13 c14 c15 c16 c17) S) :
    seqW b_one rest De (rho scr t (some (rp a)) (some (rp b)) c5 c6 c7 c8 c9 c10 c11 c12 c13 c14 c15 c16 c17) S := by
  have l1 := nums_len a
  unfold b_one
  refine seq_seq (seq_tup (ds := [.lst ((numsR a).map .int), .lst ((numsR b).map .int)]) (ev_tup2 (ev_numbers (ev_v rfl)) (ev_numbers (ev_v rfl))) rfl ?_)
  refine seq_seq (seq_if (k := false) (evt_not (k := true) (evt_tru (ev_allT (us := rng (-40) 81) (wiv_rr (m := -40) (n := 41) (ev_neg ev_c) ev_c) (by rw [rng_len]; decide) fun n hn => ?_))) (fun z => by cases z) fun _ => seq_nx ?_)
  · exact ev_same (n := 4) (x := .bl (inB a n)) rfl (ev_holds (a := a) (n := n) (ev_v rfl) (ev_v rfl)) (ev_lin (a := a) (n := n) (ev_v rfl) (ev_v rfl))
  refine seq_if (k := false) (evt_not (k := true) (evt_tru (ev_same (n := 4) (x := .bl (wiB a b)) rfl (ev_r2 (a := a) (b := b) (ok := any2) (f := fun a b => .bl (wiB a b)) trivial (ev_v rfl) (ev_v rfl)) ?_))) (fun z => by cases z) fun _ => seq_nx h
  rw [← within_ok ha hb]
  refine ev_and (ev_all ?_) fun _ => ev_or (ev_gt (e1 (a := b) rfl) ev_c) fun _ => ev_eq (e1 (a := a) rfl) ev_c
  rw [List.map_map]
  exact ev_lcIy (fun n => .bl ((numsR b).any fun k => k == n)) (wiv_l (ev_v rfl)) (by omega) fun n hn => ev_in (ev_v rfl) (ev_v rfl)
theorem reck_ok (ha : InR a) (hb : InR b) (k : Tk ns s) (h : ∀ ns s, Tk ns s → rest De (rho scr t (some (rp a)) (some (rp b)) (some (.lst ((numsR a).map .int))) (some (.lst ((numsR b).map .int))) c7 c8 c9 c10 c11 c12 c13 c14 c15 c16 c17) (tst ns s ++ [])) :
    seqW b_reck rest De (rho scr t (some (rp a)) (some (rp b)) (some (.lst ((numsR a).map .int))) (some (.lst ((numsR b).map .int))) c7 c8 c9 c10 c11 c12 c13 c14 c15 c16 c17) (tst ns s ++ []) := by
  have A := some8 ha
  have t1 := take_len a 8
  have t2 := take_len b 8
  unfold b_reck
  have j : EvT (notW (truW (clW (m_law_same 4) (consW (clW m_join (consW (vW 3) (consW (vW 4) nilW))) (consW (clW m_law_least (consW (opW wAdd (slW (vW 5) noP (soP (cW (.int 8)))) (slW (vW 6) noP (soP (cW (.int 8))))) nilW)) nilW)))))
      (rho scr t (some (rp a)) (some (rp b)) (some (.lst ((numsR a).map .int))) (some (.lst ((numsR b).map .int))) c7 c8 c9 c10 c11 c12 c13 c14 c15 c16 c17) (tst ns s ++ []) false := by
    refine evt_not (k := true) (evt_tru (ev_same (n := 4) (x := rp (joinR a b)) (pl_rp 3 _) (ev_r2 (a := a) (b := b) (ok := any2) (f := fun a b => rp (joinR a b)) trivial (ev_v rfl) (ev_v rfl)) ?_))
    rw [← join_ok ha hb]
    refine ev_least (fun z => A.ne (List.append_eq_nil_iff.mp z).1) (by rw [List.length_append]; omega) (ev_cat (by omega) (ev_take (n := 8) (ev_v rfl)) (ev_take (n := 8) (ev_v rfl)))
  have r : EvT (notW (truW (clW m_law_reckoned (consW (vW 3) (consW (vW 4) nilW))))) (rho scr t (some (rp a)) (some (rp b)) (some (.lst ((numsR a).map .int))) (some (.lst ((numsR b).map .int))) c7 c8 c9 c10 c11 c12 c13 c14 c15 c16 c17) (tst ns s ++ []) false :=
    evt_not (k := true) (evt_tru (ev_r2 (a := a) (b := b) (ok := fun a b => InR a ∧ InR b) (f := fun _ _ => .bl true) ⟨ha, hb⟩ (ev_v rfl) (ev_v rfl)))
  refine seq_ifQ (q_or j (q_or r (q_nottru (q_call2 (ev_v rfl) (ev_v rfl) ?_))))
  show m_law_led [.loc 1, rp a] (tst ns s ++ []) _
  simp only [m_law_led, rpOf_rp]
  exact ⟨ha, ns, s, [], rfl, k, fun ns s k => h ns s k⟩
theorem meet_ok2 (ha : InR a) (hb : InR b) (h : ∀ c7 c8, rest De (rho scr t (some (rp a)) (some (rp b)) c5 c6 c7 c8 c9 c10 c11 c12 c13 c14 c15 c16 c17) S) :
    seqW b_meet rest De (rho scr t (some (rp a)) (some (rp b)) c5 c6 c7 c8 c9 c10 c11 c12 c13 c14 c15 c16 c17) S := by
  unfold b_meet
  obtain ⟨d, told, ev⟩ := meet_ev (S := S) ha hb
  have len : (bothR a b).length < 100000 := by
    have z := List.length_filter_le (fun n => inB a n && inB b n) (rng (-200) 401)
    rw [rng_len] at z
    unfold bothR
    omega
  refine seq_seq (seq_par (x := .lst ((bothR a b).map .int)) (y := d) (ev_lcI (ns := rng (-200) 401) (fun n => inB a n && inB b n) (fun n => .int n) (wiv_rr (m := -200) (n := 201) (ev_neg ev_c) ev_c) (by rw [rng_len]; decide) fun n hn => ⟨evt_and (evt_tru (ev_lin (ev_v rfl) (ev_v rfl))) fun _ => evt_tru (ev_lin (ev_v rfl) (ev_v rfl)), fun _ => ev_v rfl⟩) (fun Q q => ev Q q) ?_)
  generalize bothR a b = L at told len
  have fin := h (some (.lst (L.map .int))) (some d)
  rcases told with ⟨rfl, rfl⟩ | ⟨c, rfl, ne, e⟩
  · refine seq_if (k := false) (evt_or (k := false) (j := false) (evt_and (k := true) (j := false) (evt_ts (ev_eqnil (ns := []) (ev_v rfl))) fun _ => evt_ts (ev_isnn (ev_v (d := .non) rfl))) fun _ => evt_and (k := false) (j := false) (evt_ts (ev_nenil (ns := []) (ev_v rfl))) fun z => by cases z) (fun z => by cases z) fun _ => seq_nx fin
  · obtain ⟨x, r, rfl⟩ := cons_of ne
    refine seq_if (k := false) (evt_or (k := false) (j := false) (evt_and (k := false) (j := false) (evt_ts (ev_eqnil (ns := x :: r) (ev_v rfl))) fun z => by cases z) fun _ => evt_and (k := true) (j := false) (evt_ts (ev_nenil (ns := x :: r) (ev_v rfl))) fun _ => evt_or (k := false) (j := false) (evt_ts (ev_isn (ev_v (d := rp c) rfl))) fun _ => evt_not (k := true) (evt_tru (ev_same (n := 4) (x := rp c) (pl_rp 3 _) (ev_v rfl) ?_))) (fun z => by cases z) fun _ => seq_nx fin
    rw [← e]
    exact ev_least ne len (ev_v rfl)
theorem place_ok (k : Tk ns s) (h : ∀ p ns s, -30 ≤ p → p ≤ 30 → Tk ns s → rest De (rho scr t c3 c4 c5 c6 c7 c8 (some (.int p)) c10 c11 c12 c13 c14 c15 c16 c17) (tst ns s ++ [])) :
    seqW b_place rest De (rho scr t c3 c4 c5 c6 c7 c8 c9 c10 c11 c12 c13 c14 c15 c16 c17) (tst ns s ++ []) := by
  unfold b_place
  refine seq_asgQ (q_drawsub rfl (by decide) (by decide) k fun r ns s r0 r1 k => ?_)
  exact h (r - 30) ns s (by omega) (by omega) k
theorem ev_head {ρ : Rho} {S : Store} {i : Nat} {L : List Int} (h : lk ρ i = some (.lst (L.map .int))) : EvE (ifW (tsW (opW wNe (vW i) (lstW nilW))) (opW wIx (vW i) (cW (.int 0))) (cW .non)) ρ S (eD L.head?) := by
  cases L with
  | nil => exact eve_if (k := false) (evt_ts (ev_nenil (ns := []) (ev_v h))) (fun z => by cases z) fun _ => ev_c
  | cons x r => exact eve_if (k := true) (evt_ts (ev_nenil (ns := x :: r) (ev_v h))) (fun _ => ev_lix (ev_v h) ev_c rfl) fun z => by cases z
theorem ev_last {ρ : Rho} {S : Store} {i : Nat} {L : List Int} (h : lk ρ i = some (.lst (L.map .int))) : EvE (ifW (tsW (opW wNe (vW i) (lstW nilW))) (opW wIx (vW i) (unW wNeg (cW (.int 1)))) (cW .non)) ρ S (eD L.getLast?) := by
  rcases List.eq_nil_or_concat L with rfl | ⟨ys, l, rfl⟩
  · exact eve_if (k := false) (evt_ts (ev_nenil (ns := []) (ev_v h))) (fun z => by cases z) fun _ => ev_c
  · rw [List.concat_eq_append] at h ⊢
    have e : (ys ++ [l]).getLast? = some l := by simp
    have ne : (!(ys ++ [l]).isEmpty) = true := by simp
    rw [e]
    refine eve_if (k := !(ys ++ [l]).isEmpty) (evt_ts (ev_nenil (ev_v h))) (fun _ => ev_lix (xs := (ys ++ [l]).map .int) (ev_v h) (ev_neg ev_c) ?_) fun z => by rw [ne] at z; cases z
    rw [List.map_append]
    exact ixD_last
theorem fl_ok {p : Int} (ha : InR a) (p1 : -30 ≤ p) (p2 : p ≤ 30) (h : ∀ c10 c11, rest De (rho scr t (some (rp a)) c4 c5 c6 c7 c8 (some (.int p)) c10 c11 c12 c13 c14 c15 c16 c17) S) :
    seqW b_fl rest De (rho scr t (some (rp a)) c4 c5 c6 c7 c8 (some (.int p)) c10 c11 c12 c13 c14 c15 c16 c17) S := by
  unfold b_fl
  refine seq_seq (seq_asg (i := 10) (d := .lst (((rng (-60) 120).filter fun n => inB a n && decide (p ≤ n)).map .int)) (ev_lcI (ns := rng (-60) 120) (fun n => inB a n && decide (p ≤ n)) (fun n => .int n) (wiv_rr (m := -60) (n := 60) (ev_neg ev_c) ev_c) (by rw [rng_len]; decide) fun n hn => ⟨evt_and (evt_tru (ev_lin (ev_v rfl) (ev_v rfl))) fun _ => evt_ts (ev_ge (ev_v rfl) (ev_v rfl)), fun _ => ev_v rfl⟩) ?_)
  refine seq_seq (seq_asg (i := 11) (d := .lst (((rng (-60) 120).filter fun n => inB a n && decide (n ≤ p)).map .int)) (ev_lcI (ns := rng (-60) 120) (fun n => inB a n && decide (n ≤ p)) (fun n => .int n) (wiv_rr (m := -60) (n := 60) (ev_neg ev_c) ev_c) (by rw [rng_len]; decide) fun n hn => ⟨evt_and (evt_tru (ev_lin (ev_v rfl) (ev_v rfl))) fun _ => evt_ts (ev_le (ev_v rfl) (ev_v rfl)), fun _ => ev_v rfl⟩) ?_)
  refine seq_if (k := false) (evt_not (k := true) (evt_tru (ev_same (n := 4) (x := .tup [eD (ffE a p), eD (ltE a p)]) ?_ (ev_tup2 (ev_rI (a := a) (n := p) (f := fun a n => eD (ffE a n)) (ev_v rfl) (ev_v rfl)) (ev_rI (a := a) (n := p) (f := fun a n => eD (ltE a n)) (ev_v rfl) (ev_v rfl))) ?_))) (fun z => by cases z) fun _ => seq_nx (h _ _)
  · show ([eD _, eD _].all (plD 3) && decide _) = true
    simp only [List.all_cons, List.all_nil, pl_e 3, Bool.and_true, Bool.true_and]
    rfl
  · rw [← ahead_ok ha p1 p2, ← behind_ok ha p1 p2]
    exact ev_tup2 (ev_head rfl) (ev_last rfl)
theorem rs_ok (k : Tk ns s) (h : ∀ r u ns s, 0 ≤ u → Tk ns s → rest De (rho scr t c3 c4 c5 c6 c7 c8 c9 c10 c11 (some (.int r)) (some (.int u)) c14 c15 c16 c17) (tst ns s ++ [])) :
    seqW b_rs rest De (rho scr t c3 c4 c5 c6 c7 c8 c9 c10 c11 c12 c13 c14 c15 c16 c17) (tst ns s ++ []) := by
  unfold b_rs
  exact ⟨by decide, by decide, ns, s, [], rfl, k, fun r ns s r0 r1 k => ⟨by decide, by decide, ns, s, [], rfl, k, fun u ns s u0 u1 k => h (r - 49) u ns s u0 k⟩⟩
theorem mk_ok {r u : Int} (u0 : 0 ≤ u) (h : De.nx (rho scr t c3 c4 c5 c6 c7 c8 c9 c10 c11 (some (.int r)) (some (.int u)) c14 c15 c16 c17) S) :
    b_mk De (rho scr t c3 c4 c5 c6 c7 c8 c9 c10 c11 (some (.int r)) (some (.int u)) c14 c15 c16 c17) S := by
  unfold b_mk
  have t1 := evt_not (k := true) (evt_tru (ev_same (n := 4) (x := .tup [rp (mkS r u), rp (r, 0)]) (ρ := rho scr t c3 c4 c5 c6 c7 c8 c9 c10 c11 (some (.int r)) (some (.int u)) c14 c15 c16 c17) (S := S)
    (fa := tupW (consW (clW m_make (consW (vW 12) (consW (vW 13) nilW))) (consW (clW m_of (consW (vW 12) nilW)) nilW)))
    (fb := tupW (consW (ifW (tsW (opW wGt (vW 13) (cW (.int 0)))) (tupW (consW (opW wMod (vW 12) (vW 13)) (consW (vW 13) nilW))) (tupW (consW (vW 12) (consW (cW (.int 0)) nilW)))) (consW (tupW (consW (vW 12) (consW (cW (.int 0)) nilW))) nilW)))
    rfl (ev_tup2 (ev_mk (ev_v rfl) (ev_v rfl)) (ev_of (ev_v rfl))) (ev_tup2 (by
      refine eve_if (evt_ts (ev_gt (ev_v rfl) ev_c)) (fun e => ?_) (fun e => ?_)
      · have e := of_decide_eq_true e
        rw [show mkS r u = (r.fmod u, u) from if_neg (by omega)]
        exact ev_tup2 (ev_mod (ev_v rfl) (ev_v rfl) (by omega)) (ev_v rfl)
      · have e := of_decide_eq_false e
        rw [show mkS r u = (r, 0) from if_pos (by omega)]
        exact ev_tup2 (ev_v rfl) ev_c) (ev_tup2 (ev_v rfl) ev_c))))
  exact t1 _ h
end
end K41
namespace K41
open PySem PySem.Spec L2 DL
def RhoOk (scr : D) (ρ : Rho) : Prop := ∃ (c2 c3 c4 c5 c6 c7 c8 c9 c10 c11 c12 c13 c14 c15 c16 c17 : Option D), ρ = rho scr c2 c3 c4 c5 c6 c7 c8 c9 c10 c11 c12 c13 c14 c15 c16 c17
theorem turn_ok {scr : D} {t c3 c4 c5 c6 c7 c8 c9 c10 c11 c12 c13 c14 c15 c16 c17 : Option D} {De : DEnds} {ns : List Int} {s : Int} (k : Tk ns s) (h : ∀ ρ ns s, RhoOk scr ρ → Tk ns s → De.nx ρ (tst ns s ++ [])) :
    b_turn De (rho scr t c3 c4 c5 c6 c7 c8 c9 c10 c11 c12 c13 c14 c15 c16 c17) (tst ns s ++ []) := by
  unfold b_turn
  exact pair_ok k fun a b ns s ha hb k => one_ok ha hb (reck_ok ha hb k fun ns s k => meet_ok2 ha hb fun c7 c8 => place_ok k fun p ns s p1 p2 k => fl_ok ha p1 p2 fun c10 c11 => rs_ok k fun r u ns s u0 k => mk_ok u0 (h _ ns s ⟨_, _, _, _, _, _, _, _, _, _, _, _, _, _, _, _, rfl⟩ k))
theorem turn_all {scr : D} {De : DEnds} {ns : List Int} {s : Int} {ρ : Rho} {x : D} (k : Tk ns s) (hr : RhoOk scr ρ) (h : ∀ ρ ns s, RhoOk scr ρ → Tk ns s → De.nx ρ (tst ns s ++ [])) : b_turn De (ρ.set 2 (some x)) (tst ns s ++ []) := by
  obtain ⟨c2, c3, c4, c5, c6, c7, c8, c9, c10, c11, c12, c13, c14, c15, c16, c17, rfl⟩ := hr
  exact turn_ok (t := some x) k h
def wrongs : List D := [.tup [.int 2, .int 2], .tup [.int (-1), .int 3], .tup [.int 1, .int (-1)], .tup [.int 0], .lst [.int 0, .int 1], .non, .tup [.bl true, .int 3], .tup [.int 0, .bl true], .tup [.int 1, .int 2, .int 3], .str "ab", .tup [.int 3, .int 1], .int 7]
def rights : List D := [.tup [.int 0, .int 1], .tup [.int 5, .int 0], .tup [.int (-5), .int 0], .tup [.int 2, .int 3], .tup [.int 0, .int 7]]
theorem wrongs_b : ∀ x ∈ wrongs, isRestsB x = some false := by
  intro x hx
  simp only [wrongs, List.mem_cons, List.not_mem_nil, or_false] at hx
  rcases hx with rfl | rfl | rfl | rfl | rfl | rfl | rfl | rfl | rfl | rfl | rfl | rfl <;> rfl
theorem rights_b : ∀ x ∈ rights, isRestsB x = some true := by
  intro x hx
  simp only [rights, List.mem_cons, List.not_mem_nil, or_false] at hx
  rcases hx with rfl | rfl | rfl | rfl | rfl <;> rfl
theorem ev_row {ρ : Rho} {S : Store} {j : Nat} {fe : WE} {xs : List D} {k : Bool} (hj : ∀ x, lk ((wipeD ρ [j]).set j (some x)) j = some x) (h : EvE fe ρ S (.lst xs)) (hx : ∀ x ∈ xs, isRestsB x = some k) (hl : xs.length < 100000) :
    EvE (lcW (sqI fe) (.nm j) yesW (clW m_is_rests (consW (vW j) nilW)) [j]) ρ S (.lst ((xs.map fun _ => k).map .bl)) := by
  intro Q q
  refine (wiv_l h) _ ⟨szl hl, ?_⟩
  refine comp_yes (fun _ => .bl k) trivial (fun x hm => ⟨_, rfl, ev_isr (hx x hm) (ev_v (hj x))⟩) ?_
  rw [List.map_map] at q
  exact q
theorem great_ok {scr : D} {rest : WS} {De : DEnds} {ns : List Int} {s : Int} {ρ : Rho} (k : Tk ns s) (hr : RhoOk scr ρ) (h : ∀ ρ g ns s, RhoOk scr ρ → lk ρ 14 = some (.int g) → Tk ns s → rest De ρ (tst ns s ++ [])) : seqW b_great rest De ρ (tst ns s ++ []) := by
  obtain ⟨c2, c3, c4, c5, c6, c7, c8, c9, c10, c11, c12, c13, c14, c15, c16, c17, rfl⟩ := hr
  unfold b_great
  have c : CPow 10 6 := ⟨by decide, by decide, by decide⟩
  refine seq_asgQ ?_
  have z : clW m_law_draw (consW (vW 1) (consW (cW (.int 3)) nilW)) (rho scr c2 c3 c4 c5 c6 c7 c8 c9 c10 c11 c12 c13 c14 c15 c16 c17) (tst ns s ++ []) fun d S1 => wAdd (.int (10 ^ (6 : Int).toNat)) d S1 fun e S2 => wSub e (.int 1) S2 fun g S3 => rest De ((rho scr c2 c3 c4 c5 c6 c7 c8 c9 c10 c11 c12 c13 c14 c15 c16 c17).set 14 (some g)) S3 :=
    q_draw ev_c rfl (by decide) (by decide) k fun r ns s r0 r1 k => h _ _ ns s ⟨_, _, _, _, _, _, _, _, _, _, _, _, _, _, _, _, rfl⟩ rfl k
  exact ⟨c, z⟩
theorem tam_ok {ρ : Rho} {S : Store} {De : DEnds} {rest : WS} {g : Int} (hg : lk ρ 14 = some (.int g)) (h : rest De ρ S) : seqW b_tam rest De ρ S := by
  have c : CPow 10 6 := ⟨by decide, by decide, by decide⟩
  unfold b_tam
  refine seq_if (k := false) (evt_not (k := true) (evt_tru (ev_same (n := 4) (x := .tup [rp (tamR (1, g)), rp (0, 1)]) rfl (ev_tup2 (ev_r1 (a := (1, g)) (f := fun a => rp (tamR a)) (ev_tup2 ev_c (ev_v hg))) ev_c) (ev_tup2 ?_ (ev_tup2 ev_c ev_c))))) (fun z => by cases z) fun _ => seq_nx h
  refine eve_if (evt_ts (ev_le (ev_v hg) (n := 1000000) fun Q q => ⟨c, q⟩)) (fun e => ?_) (fun e => ?_)
  · have e := of_decide_eq_true e
    have t : tamR (1, g) = (1, g) := if_neg (by
      rintro (z | ⟨z1, z2⟩)
      · have z : 1000000 < g := z
        omega
      · have z2 : (10 : Int) ^ 60 < absI 1 := z2
        revert z2
        decide)
    rw [t]
    exact ev_tup2 ev_c (ev_v hg)
  · have e := of_decide_eq_false e
    have t : tamR (1, g) = (0, 1) := if_pos (.inl (by show 1000000 < g; omega))
    rw [t]
    exact ev_tup2 ev_c ev_c
theorem wrong_ok {scr : D} {De : DEnds} {S : Store} {ρ : Rho} (hr : RhoOk scr ρ) (h : De.rt (.bl true) S) : seqW b_wrong b_ret De ρ S := by
  obtain ⟨c2, c3, c4, c5, c6, c7, c8, c9, c10, c11, c12, c13, c14, c15, c16, c17, rfl⟩ := hr
  unfold b_wrong
  refine seq_asg (i := 15) (d := .lst wrongs) (fun Q q => ?_) ?_
  · exact ⟨sz2, sz2, sz2, sz1, sz2, sz2, sz2, sz3, sz2, sze (show (12 : Nat) ≤ 100000 by decide), q⟩
  unfold b_ret
  have g := ev_and (k := true) (j := true) (ρ := rho scr c2 c3 c4 c5 c6 c7 c8 c9 c10 c11 c12 c13 c14 (some (.lst wrongs)) c16 c17) (S := S)
    (ev_not (ev_any (ev_row (ρ := rho scr c2 c3 c4 c5 c6 c7 c8 c9 c10 c11 c12 c13 c14 (some (.lst wrongs)) c16 c17) (S := S) (j := 17) (fe := vW 15) (fun x => rfl) (ev_v rfl) wrongs_b (show (12 : Nat) < 100000 by decide))))
    (fun _ => ev_all (ev_row (ρ := rho scr c2 c3 c4 c5 c6 c7 c8 c9 c10 c11 c12 c13 c14 (some (.lst wrongs)) c16 c17) (S := S) (j := 17) (fe := lstW (consW (tupW (consW (cW (.int 0)) (consW (cW (.int 1)) nilW))) (consW (tupW (consW (cW (.int 5)) (consW (cW (.int 0)) nilW))) (consW (tupW (consW (unW wNeg (cW (.int 5))) (consW (cW (.int 0)) nilW))) (consW (tupW (consW (cW (.int 2)) (consW (cW (.int 3)) nilW))) (consW (tupW (consW (cW (.int 0)) (consW (cW (.int 7)) nilW))) nilW)))))) (fun x => rfl) (xs := rights) (fun Q q => ⟨sz2, sz2, sz2, sz2, sz2, sze (show (5 : Nat) ≤ 100000 by decide), q⟩) rights_b (show (5 : Nat) < 100000 by decide)))
  exact ret_of g h
theorem end_all {scr : D} {De : DEnds} {ns : List Int} {s : Int} {ρ : Rho} (k : Tk ns s) (hr : RhoOk scr ρ) (h : ∀ S, De.rt (.bl true) S) : seqW b_great (seqW b_tam (seqW b_wrong b_ret)) De ρ (tst ns s ++ []) :=
  great_ok k hr fun ρ g ns s hr hg k => tam_ok hg (wrong_ok hr (h _))
theorem loop_all {scr : D} {Dd : DEnds} {ns : List Int} {s : Int} {ρ : Rho} (k : Tk ns s) (hr : RhoOk scr ρ) (h : ∀ S, Dd.rt (.bl true) S) :
    seqW (forW (rgI1 (consW (cW (.int 3)) nilW)) (.nm 2) b_turn) (seqW b_great (seqW b_tam (seqW b_wrong b_ret))) Dd ρ (tst ns s ++ []) := by
  have w : WIv (rgI1 (consW (cW (.int 3)) nilW)) ρ (tst ns s ++ []) (rngD 0 3) := wiv_r1 (n := 3) ev_c (by decide) (by decide)
  refine seq_for w ?_
  refine for_inv (fun xs ρ S => RhoOk scr ρ ∧ ∃ ns s, S = tst ns s ++ [] ∧ Tk ns s) ?_ _ _ _ ⟨hr, ns, s, rfl, k⟩ ?_
  · rintro x xs ρ S ⟨hr, ns, s, rfl, k⟩
    exact ⟨trivial, _, rfl, fun De h1 _ _ _ => turn_all k hr fun ρ ns s hr k => h1 _ _ ⟨hr, ns, s, rfl, k⟩⟩
  · rintro ρ S ⟨hr, ns, s, rfl, k⟩
    exact ⟨trivial, end_all k hr h⟩
theorem sp_law (ds : List D) (S : Store) (Q : DQ) (hS : S.all (Cell.blw S.length) = true) (h : m_law ds S Q) : g_law (D0 S Q) (startD ["script", "tape", "turn", "one", "other", "some", "more", "both", "told", "place", "ahead", "behind", "rest", "step", "great", "wrong", "number", "value"] ds) S := by
  unfold m_law at h
  split at h
  · split at h
    · rename_i xs ns e
      obtain rfl := of_intsOf e
      obtain ⟨hl, rfl, q⟩ := h
      generalize hD : D0 [] Q = Dd
      have hrt : ∀ S', Dd.rt (.bl true) S' := fun S' => by subst hD; exact .inl (q S')
      clear hD q
      rw [law_eq]
      refine seq_asgQ ?_
      refine q_call1 (ev_v (d := .rol (ns.map .int)) rfl) ?_
      simp only [m_law_tape, m_tape, intsOf_map]
      refine ⟨hl, trivial, fun ns0 s0 k0 => ?_⟩
      exact loop_all (scr := D.rol (ns.map D.int)) k0 ⟨_, _, _, _, _, _, _, _, _, _, _, _, _, _, _, _, rfl⟩ hrt
    · exact h.elim
  · exact h.elim
end K41
namespace K41
open PySem PySem.Spec PyProof.Rows L2 DL
theorem l_tamed (ds : List D) (S : Store) (Q : DQ) (h : m_tamed ds S Q) : ds.length = 1 := by
  obtain ⟨_, rfl, _⟩ := r1_inv h; rfl
theorem l_contrary (ds : List D) (S : Store) (Q : DQ) (h : m_contrary ds S Q) : ds.length = 1 := by
  obtain ⟨_, rfl, _⟩ := r1_inv h; rfl
theorem l_law_numbers (ds : List D) (S : Store) (Q : DQ) (h : m_law_numbers ds S Q) : ds.length = 1 := by
  obtain ⟨_, rfl, _⟩ := r1_inv h; rfl
theorem l_is_within (ds : List D) (S : Store) (Q : DQ) (h : m_is_within ds S Q) : ds.length = 2 := by
  obtain ⟨_, _, rfl, _⟩ := r2_inv h; rfl
theorem l_join (ds : List D) (S : Store) (Q : DQ) (h : m_join ds S Q) : ds.length = 2 := by
  obtain ⟨_, _, rfl, _⟩ := r2_inv h; rfl
theorem l_add (ds : List D) (S : Store) (Q : DQ) (h : m_add ds S Q) : ds.length = 2 := by
  obtain ⟨_, _, rfl, _⟩ := r2_inv h; rfl
theorem l_subtract (ds : List D) (S : Store) (Q : DQ) (h : m_subtract ds S Q) : ds.length = 2 := by
  obtain ⟨_, _, rfl, _⟩ := r2_inv h; rfl
theorem l_multiply (ds : List D) (S : Store) (Q : DQ) (h : m_multiply ds S Q) : ds.length = 2 := by
  obtain ⟨_, _, rfl, _⟩ := r2_inv h; rfl
theorem l_remainder (ds : List D) (S : Store) (Q : DQ) (h : m_remainder ds S Q) : ds.length = 2 := by
  obtain ⟨_, _, rfl, _⟩ := r2_inv h; rfl
theorem l_quotient (ds : List D) (S : Store) (Q : DQ) (h : m_quotient ds S Q) : ds.length = 2 := by
  obtain ⟨_, _, rfl, _⟩ := r2_inv h; rfl
theorem l_law_reckoned (ds : List D) (S : Store) (Q : DQ) (h : m_law_reckoned ds S Q) : ds.length = 2 := by
  obtain ⟨_, _, rfl, _⟩ := r2_inv h; rfl
theorem l_holds (ds : List D) (S : Store) (Q : DQ) (h : m_holds ds S Q) : ds.length = 2 := by
  obtain ⟨_, _, rfl, _⟩ := rI_inv h; rfl
theorem l_law_in (ds : List D) (S : Store) (Q : DQ) (h : m_law_in ds S Q) : ds.length = 2 := by
  obtain ⟨_, _, rfl, _⟩ := rI_inv h; rfl
theorem l_first_from (ds : List D) (S : Store) (Q : DQ) (h : m_first_from ds S Q) : ds.length = 2 := by
  obtain ⟨_, _, rfl, _⟩ := rI_inv h; rfl
theorem l_last_to (ds : List D) (S : Store) (Q : DQ) (h : m_last_to ds S Q) : ds.length = 2 := by
  obtain ⟨_, _, rfl, _⟩ := rI_inv h; rfl
theorem l_divisor (ds : List D) (S : Store) (Q : DQ) (h : m_divisor ds S Q) : ds.length = 2 := by
  obtain ⟨_, _, rfl, _⟩ := ii_inv h; rfl
theorem l_law_common (ds : List D) (S : Store) (Q : DQ) (h : m_law_common ds S Q) : ds.length = 2 := by
  obtain ⟨_, _, rfl, _⟩ := ii_inv h; rfl
theorem l_make (ds : List D) (S : Store) (Q : DQ) (h : m_make ds S Q) : ds.length = 2 := by
  obtain ⟨_, _, rfl, _⟩ := ii_inv h; rfl
theorem l_of (ds : List D) (S : Store) (Q : DQ) (h : m_of ds S Q) : ds.length = 1 := by
  unfold m_of at h
  split at h
  · rfl
  · exact h.elim
theorem l_led (ds : List D) (S : Store) (Q : DQ) (h : m_led ds S Q) : ds.length = 2 := by
  unfold m_led at h
  split at h
  · rfl
  · exact h.elim
theorem l_meet (ds : List D) (S : Store) (Q : DQ) (h : m_meet ds S Q) : ds.length = 2 := by
  unfold m_meet at h
  split at h
  · rfl
  · exact h.elim
theorem l_is_rests (ds : List D) (S : Store) (Q : DQ) (h : m_is_rests ds S Q) : ds.length = 1 := by
  unfold m_is_rests at h
  split at h
  · rfl
  · exact h.elim
theorem l_law_rests (ds : List D) (S : Store) (Q : DQ) (h : m_law_rests ds S Q) : ds.length = 1 := by
  unfold m_law_rests at h
  split at h
  · rfl
  · exact h.elim
theorem l_law_least (ds : List D) (S : Store) (Q : DQ) (h : m_law_least ds S Q) : ds.length = 1 := by
  unfold m_law_least at h
  split at h
  · rfl
  · exact h.elim
theorem l_law_led (ds : List D) (S : Store) (Q : DQ) (h : m_law_led ds S Q) : ds.length = 2 := by
  unfold m_law_led at h
  split at h
  · rfl
  · exact h.elim
theorem l_law (ds : List D) (S : Store) (Q : DQ) (h : m_law ds S Q) : ds.length = 1 := by
  unfold m_law at h
  split at h
  · rfl
  · exact h.elim
theorem l_law_tape (ds : List D) (S : Store) (Q : DQ) (h : m_law_tape ds S Q) : ds.length = 1 := l_tape ds S Q h
theorem l_law_draw (ds : List D) (S : Store) (Q : DQ) (h : m_law_draw ds S Q) : ds.length = 2 := l_draw ds S Q h
theorem l_law_pick (ds : List D) (S : Store) (Q : DQ) (h : m_law_pick ds S Q) : ds.length = 2 := l_pick ds S Q h
theorem l_law_same (n : Nat) (ds : List D) (S : Store) (Q : DQ) (h : m_law_same n ds S Q) : ds.length = 2 := l_same n ds S Q h
section
variable {P : Program} {w : World} {K : PySem.W.Frag} {mg : Str → Option Value} {base : Heap}
theorem ok_is_rests (T : Txt K mg) : FnOk P w K mg base (L2.CX P w) 1 T.f_is_rests T.fd_is_rests ["value"] (spD K mg m_is_rests) :=
  fn_data T.F_is_rests sc_is_rests l_is_rests (fun cdv A outer s H E b hr =>
    (dss_cons (ds_if (DW.pt (dw_or (dt_not (dt_tru (de_isi (by rfl) T.n_isinstance (da_cons (de_v 0) (da_cons (de_ty (x := "tuple") (n := "tuple") (by rfl) T.n_tuple (by decide +kernel)) da_nil))))) (dw_or1 (dt_ne hr (de_len (by rfl) T.n_len (da_cons (de_v 0) da_nil)) de_int)))) (dss_one (ds_ret de_bl)) dss_nil)
    (dss_cons (ds_if (dt_tru (de_any rfl (by rfl) T.n_any (da_cons (de_lc rfl sc_is_rests.nd (by decide) (di_seq (de_v 0)) (blkOk_by (own := [("item", 1)]) rfl) (fun _ _ _ _ _ => (dg_nm (i := 1) sc_is_rests.nd rfl (.inl rfl))) (fun _ _ _ _ _ => dts_nil) (fun _ _ _ _ _ => (de_or (de_isi (by rfl) T.n_isinstance (da_cons (de_v 1) (da_cons (de_ty (x := "bool") (n := "bool") (by rfl) T.n_bool (by decide +kernel)) da_nil))) (de_one (de_not (de_isi (by rfl) T.n_isinstance (da_cons (de_v 1) (da_cons (de_ty (x := "int") (n := "int") (by rfl) T.n_int (by decide +kernel)) da_nil)))))))) da_nil))) (dss_one (ds_ret de_bl)) dss_nil)
    (dss_one (ds_ret (de_or (de_eq hr (de_ix (de_v 0) de_int) de_int) (de_one (de_and (de_gt (de_ix (de_v 0) de_int) de_int) (de_one (de_ch op_le (s_I0 fun _ _ _ _ => .bl _) op_lt (s_I0 fun _ _ _ _ => .bl _) de_int (de_ix (de_v 0) de_int) (de_ix (de_v 0) de_int))))))))))) sp_is_rests

theorem ok_divisor (T : Txt K mg) : FnOk P w K mg base (L2.CX P w) 1 T.f_divisor T.fd_divisor ["one", "other"] (spD K mg m_divisor) :=
  fn_data T.F_divisor sc_divisor l_divisor (fun cdv A outer s H E b hr =>
    (dss_cons (ds_par (i := 0) (j := 1) rfl sc_divisor.nd rfl rfl (by decide) rfl rfl (da_cons (de_abs (by rfl) T.n_abs (da_cons (de_v 0) da_nil)) (da_cons (de_abs (by rfl) T.n_abs (da_cons (de_v 1) da_nil)) da_nil)) (by rfl))
    (dss_cons (ds_while PassesOwn.never (dt_gt (de_v 1) de_int) (dss_one (ds_par (i := 0) (j := 1) rfl sc_divisor.nd rfl rfl (by decide) rfl rfl (da_cons (de_v 1) (da_cons (de_mod (de_v 0) (de_v 1)) da_nil)) (by rfl))))
    (dss_one (ds_ret (de_v 0)))))) sp_divisor

theorem ok_of (T : Txt K mg) : FnOk P w K mg base (L2.CX P w) 1 T.f_of T.fd_of ["number"] (spD K mg m_of) :=
  fn_data T.F_of sc_of l_of (fun cdv A outer s H E b hr =>
    (dss_one (ds_ret (de_tup (da_cons (de_v 0) (da_cons de_int da_nil)))))) sp_of

theorem ok_make (T : Txt K mg) : FnOk P w K mg base (L2.CX P w) 1 T.f_make T.fd_make ["rest", "step"] (spD K mg m_make) :=
  fn_data T.F_make sc_make l_make (fun cdv A outer s H E b hr =>
    (dss_one (ds_ret (de_if (dt_eq hr (de_v 1) de_int) (de_tup (da_cons (de_v 0) (da_cons de_int da_nil))) (de_tup (da_cons (de_mod (de_v 0) (de_v 1)) (da_cons (de_v 1) da_nil))))))) sp_make

theorem ok_tamed (T : Txt K mg) : FnOk P w K mg base (L2.CX P w) 1 T.f_tamed T.fd_tamed ["one"] (spD K mg m_tamed) :=
  fn_data T.F_tamed sc_tamed l_tamed (fun cdv A outer s H E b hr =>
    (dss_one (ds_ret (de_if (DW.pt (dw_or (dt_gt (de_ix (de_v 0) de_int) (T.c_MOST_STEP rfl rfl (by rfl))) (dw_or1 (DW.pt (dw_and (dt_eq hr (de_ix (de_v 0) de_int) de_int) (dw_and1 (dt_gt (de_abs (by rfl) T.n_abs (da_cons (de_ix (de_v 0) de_int) da_nil)) (T.c_MOST rfl rfl (by rfl))))))))) (T.c_ALL rfl rfl (by rfl)) (de_v 0))))) sp_tamed

theorem ok_holds (T : Txt K mg) : FnOk P w K mg base (L2.CX P w) 1 T.f_holds T.fd_holds ["one", "number"] (spD K mg m_holds) :=
  fn_data T.F_holds sc_holds l_holds (fun cdv A outer s H E b hr =>
    (dss_one (ds_ret (de_if (dt_eq hr (de_ix (de_v 0) de_int) de_int) (de_eq hr (de_v 1) (de_ix (de_v 0) de_int)) (de_eq hr (de_mod (de_sub (de_v 1) (de_ix (de_v 0) de_int)) (de_ix (de_v 0) de_int)) de_int))))) sp_holds

theorem ok_first_from (T : Txt K mg) : FnOk P w K mg base (L2.CX P w) 1 T.f_first_from T.fd_first_from ["one", "low"] (spD K mg m_first_from) :=
  fn_data T.F_first_from sc_first_from l_first_from (fun cdv A outer s H E b hr =>
    (dss_cons (ds_if (dt_eq hr (de_ix (de_v 0) de_int) de_int) (dss_one (ds_ret (de_if (dt_ge (de_ix (de_v 0) de_int) (de_v 1)) (de_ix (de_v 0) de_int) de_non))) dss_nil)
    (dss_one (ds_ret (de_add (de_v 1) (de_mod (de_sub (de_ix (de_v 0) de_int) (de_v 1)) (de_ix (de_v 0) de_int))))))) sp_first_from

theorem ok_last_to (T : Txt K mg) : FnOk P w K mg base (L2.CX P w) 1 T.f_last_to T.fd_last_to ["one", "high"] (spD K mg m_last_to) :=
  fn_data T.F_last_to sc_last_to l_last_to (fun cdv A outer s H E b hr =>
    (dss_cons (ds_if (dt_eq hr (de_ix (de_v 0) de_int) de_int) (dss_one (ds_ret (de_if (dt_le (de_ix (de_v 0) de_int) (de_v 1)) (de_ix (de_v 0) de_int) de_non))) dss_nil)
    (dss_one (ds_ret (de_sub (de_v 1) (de_mod (de_sub (de_v 1) (de_ix (de_v 0) de_int)) (de_ix (de_v 0) de_int))))))) sp_last_to

theorem ok_law_tape (T : Txt K mg) : FnOk P w K mg base (L2.CX P w) 1 T.f_law_tape T.fd_law_tape ["script"] (spD K mg m_law_tape) :=
  fn_data T.F_law_tape sc_law_tape l_law_tape (fun cdv A outer s H E b hr =>
    (dss_cons (ds_set 1 sc_law_tape.nd rfl (.inl rfl) de_int)
    (dss_cons (ds_for PassesOwn.never rfl (di_seq (de_v 0)) (dg_nm (i := 2) sc_law_tape.nd rfl (.inl rfl)) (dss_one (ds_set 1 sc_law_tape.nd rfl (.inl rfl) (de_mod (de_int1 (by rfl) T.n_int (da_cons (de_add (de_mul (de_v 1) de_int) (de_v 2)) da_nil)) de_int))))
    (dss_one (ds_ret (de_lstN (da_cons (de_lcN rfl sc_law_tape.nd (by decide) (di_seq (de_v 0)) (blkOk_by (own := [("cell", 2)]) rfl) (fun _ _ _ _ _ => (dg_nm (i := 2) sc_law_tape.nd rfl (.inl rfl))) (fun _ _ _ _ _ => dts_nil) (fun _ _ _ _ _ => (de_abs (by rfl) T.n_abs (da_cons (de_int1 (by rfl) T.n_int (da_cons (de_v 2) da_nil)) da_nil)))) (da_cons (de_add (de_v 1) de_int) da_nil)))))))) sp_law_tape

theorem ok_law_draw (T : Txt K mg) : FnOk P w K mg base (L2.CX P w) 1 T.f_law_draw T.fd_law_draw ["tape", "many"] (spD K mg m_law_draw) :=
  fn_data T.F_law_draw sc_law_draw l_law_draw (fun cdv A outer s H E b hr =>
    (dss_cons (ds_set 2 sc_law_draw.nd rfl (.inl rfl) (de_ix (de_v 0) de_int))
    (dss_cons (ds_while PassesOwn.never (DW.pt (dw_and (dt_gt (de_len (by rfl) T.n_len (da_cons (de_v 2) da_nil)) de_int) (dw_and1 (dt_eq hr (de_ix (de_v 2) de_int) de_int)))) (dss_one (ds_expr (de_popAt (de_v 2) de_int))))
    (dss_cons (ds_if (dt_gt (de_len (by rfl) T.n_len (da_cons (de_v 2) da_nil)) de_int) (dss_cons (ds_set 3 sc_law_draw.nd rfl (.inl rfl) (de_ix (de_v 2) de_int))
    (dss_cons (ds_put (de_div (de_v 3) (de_v 1)) (de_v 2) de_int)
    (dss_one (ds_ret (de_mod (de_int1 (by rfl) T.n_int (da_cons (de_v 3) da_nil)) (de_v 1)))))) dss_nil)
    (dss_cons (ds_put (de_mod (de_int1 (by rfl) T.n_int (da_cons (de_add (de_mul (de_ix (de_v 0) de_int) de_int) de_int) da_nil)) de_int) (de_v 0) de_int)
    (dss_one (ds_ret (de_mod (de_int1 (by rfl) T.n_int (da_cons (de_div (de_ix (de_v 0) de_int) de_int) da_nil)) (de_v 1))))))))) sp_law_draw

theorem ok_law_in (T : Txt K mg) : FnOk P w K mg base (L2.CX P w) 1 T.f_law_in T.fd_law_in ["one", "number"] (spD K mg m_law_in) :=
  fn_data T.F_law_in sc_law_in l_law_in (fun cdv A outer s H E b hr =>
    (dss_one (ds_ret (de_if (dt_eq hr (de_ix (de_v 0) de_int) de_int) (de_eq hr (de_v 1) (de_ix (de_v 0) de_int)) (de_eq hr (de_mod (de_sub (de_v 1) (de_ix (de_v 0) de_int)) (de_ix (de_v 0) de_int)) de_int))))) sp_law_in

theorem ok_law_common (T : Txt K mg) : FnOk P w K mg base (L2.CX P w) 1 T.f_law_common T.fd_law_common ["one", "other"] (spD K mg m_law_common) :=
  fn_data T.F_law_common sc_law_common l_law_common (fun cdv A outer s H E b hr =>
    (dss_cons (ds_par (i := 0) (j := 1) rfl sc_law_common.nd rfl rfl (by decide) rfl rfl (da_cons (de_abs (by rfl) T.n_abs (da_cons (de_v 0) da_nil)) (da_cons (de_abs (by rfl) T.n_abs (da_cons (de_v 1) da_nil)) da_nil)) (by rfl))
    (dss_cons (ds_while PassesOwn.never (dt_gt (de_v 1) de_int) (dss_one (ds_par (i := 0) (j := 1) rfl sc_law_common.nd rfl rfl (by decide) rfl rfl (da_cons (de_v 1) (da_cons (de_mod (de_v 0) (de_v 1)) da_nil)) (by rfl))))
    (dss_one (ds_ret (de_v 0)))))) sp_law_common

theorem ok_is_within (T : Txt K mg) : FnOk P w K mg base (L2.CX P w) 2 T.f_is_within T.fd_is_within ["one", "other"] (spD K mg m_is_within) :=
  fn_data T.F_is_within sc_is_within l_is_within (fun cdv A outer s H E b hr =>
    (dss_cons (ds_if (dt_eq hr (de_ix (de_v 1) de_int) de_int) (dss_one (ds_ret (de_eq hr (de_v 0) (de_v 1)))) dss_nil)
    (dss_one (ds_ret (de_and (de_eq hr (de_mod (de_ix (de_v 0) de_int) (de_ix (de_v 1) de_int)) de_int) (de_one (de_call (ok_holds T) (hr.mono (by decide)) (by rfl) T.g_holds T.F_holds.kp T.b_holds (da_cons (de_v 1) (da_cons (de_ix (de_v 0) de_int) da_nil))))))))) sp_is_within

theorem ok_join (T : Txt K mg) : FnOk P w K mg base (L2.CX P w) 2 T.f_join T.fd_join ["one", "other"] (spD K mg m_join) :=
  fn_data T.F_join sc_join l_join (fun cdv A outer s H E b hr =>
    (dss_one (ds_ret (de_call (ok_make T) (hr.mono (by decide)) (by rfl) T.g_make T.F_make.kp T.b_make (da_cons (de_ix (de_v 0) de_int) (da_cons (de_call (ok_divisor T) (hr.mono (by decide)) (by rfl) T.g_divisor T.F_divisor.kp T.b_divisor (da_cons (de_call (ok_divisor T) (hr.mono (by decide)) (by rfl) T.g_divisor T.F_divisor.kp T.b_divisor (da_cons (de_ix (de_v 0) de_int) (da_cons (de_ix (de_v 1) de_int) da_nil))) (da_cons (de_sub (de_ix (de_v 0) de_int) (de_ix (de_v 1) de_int)) da_nil))) da_nil)))))) sp_join

theorem ok_meet (T : Txt K mg) : FnOk P w K mg base (L2.CX P w) 2 T.f_meet T.fd_meet ["one", "other"] (spD K mg m_meet) :=
  fn_data T.F_meet sc_meet l_meet (fun cdv A outer s H E b hr =>
    (dss_cons (ds_if (DW.pt (dw_or (dt_eq hr (de_ix (de_v 0) de_int) de_int) (dw_or1 (dt_eq hr (de_ix (de_v 1) de_int) de_int)))) (dss_cons (ds_asg (de_if (dt_eq hr (de_ix (de_v 0) de_int) de_int) (de_tup (da_cons (de_v 0) (da_cons (de_v 1) da_nil))) (de_tup (da_cons (de_v 1) (da_cons (de_v 0) da_nil)))) (dg_tp rfl (dgs_cons (dg_nm (i := 2) sc_meet.nd rfl (.inl rfl)) (dgs_cons (dg_nm (i := 3) sc_meet.nd rfl (.inl rfl)) dgs_nil))))
    (dss_one (ds_ret (de_if (dt_tru (de_call (ok_holds T) (hr.mono (by decide)) (by rfl) T.g_holds T.F_holds.kp T.b_holds (da_cons (de_v 3) (da_cons (de_ix (de_v 2) de_int) da_nil)))) (de_v 2) de_non)))) dss_nil)
    (dss_cons (ds_set 4 sc_meet.nd rfl (.inl rfl) (de_call (ok_divisor T) (hr.mono (by decide)) (by rfl) T.g_divisor T.F_divisor.kp T.b_divisor (da_cons (de_ix (de_v 0) de_int) (da_cons (de_ix (de_v 1) de_int) da_nil))))
    (dss_cons (ds_if (dt_ne hr (de_mod (de_sub (de_ix (de_v 0) de_int) (de_ix (de_v 1) de_int)) (de_v 4)) de_int) (dss_one (ds_ret de_non)) dss_nil)
    (dss_cons (ds_set 5 sc_meet.nd rfl (.inl rfl) (de_mul (de_div (de_ix (de_v 0) de_int) (de_v 4)) (de_ix (de_v 1) de_int)))
    (dss_cons (ds_set 6 sc_meet.nd rfl (.inl rfl) (de_ix (de_v 0) de_int))
    (dss_cons (ds_while PassesOwn.never (dt_not (dt_tru (de_call (ok_holds T) (hr.mono (by decide)) (by rfl) T.g_holds T.F_holds.kp T.b_holds (da_cons (de_v 1) (da_cons (de_v 6) da_nil))))) (dss_one (ds_augAdd 6 sc_meet.nd rfl (.inl rfl) (de_ix (de_v 0) de_int))))
    (dss_one (ds_ret (de_call (ok_make T) (hr.mono (by decide)) (by rfl) T.g_make T.F_make.kp T.b_make (da_cons (de_v 6) (da_cons (de_v 5) da_nil)))))))))))) sp_meet

theorem ok_add (T : Txt K mg) : FnOk P w K mg base (L2.CX P w) 2 T.f_add T.fd_add ["one", "other"] (spD K mg m_add) :=
  fn_data T.F_add sc_add l_add (fun cdv A outer s H E b hr =>
    (dss_one (ds_ret (de_call (ok_make T) (hr.mono (by decide)) (by rfl) T.g_make T.F_make.kp T.b_make (da_cons (de_add (de_ix (de_v 0) de_int) (de_ix (de_v 1) de_int)) (da_cons (de_call (ok_divisor T) (hr.mono (by decide)) (by rfl) T.g_divisor T.F_divisor.kp T.b_divisor (da_cons (de_ix (de_v 0) de_int) (da_cons (de_ix (de_v 1) de_int) da_nil))) da_nil)))))) sp_add

theorem ok_contrary (T : Txt K mg) : FnOk P w K mg base (L2.CX P w) 2 T.f_contrary T.fd_contrary ["one"] (spD K mg m_contrary) :=
  fn_data T.F_contrary sc_contrary l_contrary (fun cdv A outer s H E b hr =>
    (dss_one (ds_ret (de_call (ok_make T) (hr.mono (by decide)) (by rfl) T.g_make T.F_make.kp T.b_make (da_cons (de_neg (de_ix (de_v 0) de_int)) (da_cons (de_ix (de_v 0) de_int) da_nil)))))) sp_contrary

theorem ok_multiply (T : Txt K mg) : FnOk P w K mg base (L2.CX P w) 2 T.f_multiply T.fd_multiply ["one", "other"] (spD K mg m_multiply) :=
  fn_data T.F_multiply sc_multiply l_multiply (fun cdv A outer s H E b hr =>
    (dss_cons (ds_set 2 sc_multiply.nd rfl (.inl rfl) (de_call (ok_divisor T) (hr.mono (by decide)) (by rfl) T.g_divisor T.F_divisor.kp T.b_divisor (da_cons (de_call (ok_divisor T) (hr.mono (by decide)) (by rfl) T.g_divisor T.F_divisor.kp T.b_divisor (da_cons (de_mul (de_ix (de_v 0) de_int) (de_ix (de_v 1) de_int)) (da_cons (de_mul (de_ix (de_v 0) de_int) (de_ix (de_v 1) de_int)) da_nil))) (da_cons (de_mul (de_ix (de_v 1) de_int) (de_ix (de_v 0) de_int)) da_nil))))
    (dss_one (ds_ret (de_call (ok_make T) (hr.mono (by decide)) (by rfl) T.g_make T.F_make.kp T.b_make (da_cons (de_mul (de_ix (de_v 0) de_int) (de_ix (de_v 1) de_int)) (da_cons (de_v 2) da_nil))))))) sp_multiply

theorem ok_remainder (T : Txt K mg) : FnOk P w K mg base (L2.CX P w) 2 T.f_remainder T.fd_remainder ["one", "other"] (spD K mg m_remainder) :=
  fn_data T.F_remainder sc_remainder l_remainder (fun cdv A outer s H E b hr =>
    (dss_cons (ds_if (DW.pt (dw_and (dt_eq hr (de_ix (de_v 0) de_int) de_int) (dw_and (dt_eq hr (de_ix (de_v 1) de_int) de_int) (dw_and1 (dt_ne hr (de_ix (de_v 1) de_int) de_int))))) (dss_one (ds_ret (de_call (ok_of T) (hr.mono (by decide)) (by rfl) T.g_of T.F_of.kp T.b_of (da_cons (de_mod (de_ix (de_v 0) de_int) (de_ix (de_v 1) de_int)) da_nil)))) dss_nil)
    (dss_cons (ds_if (dt_ne hr (de_ix (de_v 1) de_int) de_int) (dss_one (ds_ret (de_call (ok_make T) (hr.mono (by decide)) (by rfl) T.g_make T.F_make.kp T.b_make (da_cons (de_ix (de_v 0) de_int) (da_cons (de_call (ok_divisor T) (hr.mono (by decide)) (by rfl) T.g_divisor T.F_divisor.kp T.b_divisor (da_cons (de_ix (de_v 0) de_int) (da_cons (de_call (ok_divisor T) (hr.mono (by decide)) (by rfl) T.g_divisor T.F_divisor.kp T.b_divisor (da_cons (de_ix (de_v 1) de_int) (da_cons (de_ix (de_v 1) de_int) da_nil))) da_nil))) da_nil))))) dss_nil)
    (dss_one (ds_ret (de_call (ok_make T) (hr.mono (by decide)) (by rfl) T.g_make T.F_make.kp T.b_make (da_cons (de_if (dt_ne hr (de_ix (de_v 1) de_int) de_int) (de_mod (de_ix (de_v 0) de_int) (de_ix (de_v 1) de_int)) de_int) (da_cons (de_call (ok_divisor T) (hr.mono (by decide)) (by rfl) T.g_divisor T.F_divisor.kp T.b_divisor (da_cons (de_ix (de_v 0) de_int) (da_cons (de_ix (de_v 1) de_int) da_nil))) da_nil)))))))) sp_remainder

theorem ok_quotient (T : Txt K mg) : FnOk P w K mg base (L2.CX P w) 2 T.f_quotient T.fd_quotient ["one", "other"] (spD K mg m_quotient) :=
  fn_data T.F_quotient sc_quotient l_quotient (fun cdv A outer s H E b hr =>
    (dss_cons (ds_if (DW.pt (dw_or (dt_ne hr (de_ix (de_v 1) de_int) de_int) (dw_or1 (dt_eq hr (de_ix (de_v 1) de_int) de_int)))) (dss_one (ds_ret (T.c_ALL rfl rfl (by rfl)))) dss_nil)
    (dss_cons (ds_if (dt_eq hr (de_ix (de_v 0) de_int) de_int) (dss_one (ds_ret (de_call (ok_of T) (hr.mono (by decide)) (by rfl) T.g_of T.F_of.kp T.b_of (da_cons (de_div (de_ix (de_v 0) de_int) (de_ix (de_v 1) de_int)) da_nil)))) dss_nil)
    (dss_cons (ds_if (DW.pt (dw_and (dt_eq hr (de_mod (de_ix (de_v 0) de_int) (de_ix (de_v 1) de_int)) de_int) (dw_and1 (dt_eq hr (de_mod (de_ix (de_v 0) de_int) (de_ix (de_v 1) de_int)) de_int)))) (dss_one (ds_ret (de_call (ok_make T) (hr.mono (by decide)) (by rfl) T.g_make T.F_make.kp T.b_make (da_cons (de_div (de_ix (de_v 0) de_int) (de_ix (de_v 1) de_int)) (da_cons (de_abs (by rfl) T.n_abs (da_cons (de_div (de_ix (de_v 0) de_int) (de_ix (de_v 1) de_int)) da_nil)) da_nil))))) dss_nil)
    (dss_one (ds_ret (T.c_ALL rfl rfl (by rfl)))))))) sp_quotient

theorem ok_led (T : Txt K mg) : FnOk P w K mg base (L2.CX P w) 2 T.f_led T.fd_led ["span", "one"] (spD K mg m_led) :=
  fn_data T.F_led sc_led l_led (fun cdv A outer s H E b hr =>
    (dss_cons (ds_asg (de_v 0) (dg_tp rfl (dgs_cons (dg_nm (i := 2) sc_led.nd rfl (.inl rfl)) (dgs_cons (dg_nm (i := 3) sc_led.nd rfl (.inl rfl)) dgs_nil))))
    (dss_cons (ds_if (DW.pt (dw_and (dt_eq hr (de_ix (de_v 1) de_int) de_int) (dw_and1 (DW.pt (dw_or (DW.pt (dw_and (dt_isnt (de_v 2) de_non) (dw_and1 (dt_lt (de_ix (de_v 1) de_int) (de_v 2))))) (dw_or1 (DW.pt (dw_and (dt_isnt (de_v 3) de_non) (dw_and1 (dt_gt (de_ix (de_v 1) de_int) (de_v 3))))))))))) (dss_one (ds_ret de_non)) dss_nil)
    (dss_cons (ds_set 2 sc_led.nd rfl (.inl rfl) (de_if (dt_isnt (de_v 2) de_non) (de_call (ok_first_from T) (hr.mono (by decide)) (by rfl) T.g_first_from T.F_first_from.kp T.b_first_from (da_cons (de_v 1) (da_cons (de_v 2) da_nil))) (de_if (dt_eq hr (de_ix (de_v 1) de_int) de_int) (de_ix (de_v 1) de_int) de_non)))
    (dss_cons (ds_set 3 sc_led.nd rfl (.inl rfl) (de_if (dt_isnt (de_v 3) de_non) (de_call (ok_last_to T) (hr.mono (by decide)) (by rfl) T.g_last_to T.F_last_to.kp T.b_last_to (da_cons (de_v 1) (da_cons (de_v 3) da_nil))) (de_if (dt_eq hr (de_ix (de_v 1) de_int) de_int) (de_ix (de_v 1) de_int) de_non)))
    (dss_cons (ds_if (DW.pt (dw_and (dt_isnt (de_v 2) de_non) (dw_and (dt_isnt (de_v 3) de_non) (dw_and1 (dt_gt (de_v 2) (de_v 3)))))) (dss_one (ds_ret de_non)) dss_nil)
    (dss_one (ds_ret (de_tup (da_cons (de_tup (da_cons (de_v 2) (da_cons (de_v 3) da_nil))) (da_cons (de_if (DW.pt (dw_and (dt_isnt (de_v 2) de_non) (dw_and1 (dt_eq hr (de_v 2) (de_v 3))))) (de_call (ok_of T) (hr.mono (by decide)) (by rfl) T.g_of T.F_of.kp T.b_of (da_cons (de_v 2) da_nil)) (de_v 1)) da_nil))))))))))) sp_led

theorem ok_law_pick (T : Txt K mg) : FnOk P w K mg base (L2.CX P w) 2 T.f_law_pick T.fd_law_pick ["tape", "row"] (spD K mg m_law_pick) :=
  fn_data T.F_law_pick sc_law_pick l_law_pick (fun cdv A outer s H E b hr =>
    (dss_one (ds_ret (de_ix (de_v 1) (de_call (ok_law_draw T) (hr.mono (by decide)) (by rfl) T.g_law_draw T.F_law_draw.kp T.b_law_draw (da_cons (de_v 0) (da_cons (de_len (by rfl) T.n_len (da_cons (de_v 1) da_nil)) da_nil))))))) sp_law_pick

theorem ok_law_rests (T : Txt K mg) : FnOk P w K mg base (L2.CX P w) 2 T.f_law_rests T.fd_law_rests ["tape"] (spD K mg m_law_rests) :=
  fn_data T.F_law_rests sc_law_rests l_law_rests (fun cdv A outer s H E b hr =>
    (dss_cons (ds_set 1 sc_law_rests.nd rfl (.inl rfl) (de_call (ok_law_draw T) (hr.mono (by decide)) (by rfl) T.g_law_draw T.F_law_draw.kp T.b_law_draw (da_cons (de_v 0) (da_cons de_int da_nil))))
    (dss_one (ds_ret (de_if (dt_eq hr (de_v 1) de_int) (de_tup (da_cons (de_sub (de_call (ok_law_draw T) (hr.mono (by decide)) (by rfl) T.g_law_draw T.F_law_draw.kp T.b_law_draw (da_cons (de_v 0) (da_cons de_int da_nil))) de_int) (da_cons de_int da_nil))) (de_tup (da_cons (de_call (ok_law_draw T) (hr.mono (by decide)) (by rfl) T.g_law_draw T.F_law_draw.kp T.b_law_draw (da_cons (de_v 0) (da_cons (de_v 1) da_nil))) (da_cons (de_v 1) da_nil)))))))) sp_law_rests

theorem ok_law_numbers (T : Txt K mg) : FnOk P w K mg base (L2.CX P w) 2 T.f_law_numbers T.fd_law_numbers ["one"] (spD K mg m_law_numbers) :=
  fn_data T.F_law_numbers sc_law_numbers l_law_numbers (fun cdv A outer s H E b hr =>
    (dss_one (ds_ret (de_lc rfl sc_law_numbers.nd (by decide) (di_range2 (by rfl) T.n_range (da_cons (de_neg de_int) (da_cons de_int da_nil))) (blkOk_by (own := [("number", 1)]) rfl) (fun _ _ _ _ _ => (dg_nm (i := 1) sc_law_numbers.nd rfl (.inl rfl))) (fun _ _ _ _ _ => (dts_one (dt_tru (de_call (ok_law_in T) (hr.mono (by decide)) (by rfl) T.g_law_in T.F_law_in.kp T.b_law_in (da_cons (de_v 0) (da_cons (de_v 1) da_nil)))))) (fun _ _ _ _ _ => (de_v 1)))))) sp_law_numbers

theorem ok_law_least (T : Txt K mg) : FnOk P w K mg base (L2.CX P w) 2 T.f_law_least T.fd_law_least ["numbers"] (spD K mg m_law_least) :=
  fn_data T.F_law_least sc_law_least l_law_least (fun cdv A outer s H E b hr =>
    (dss_cons (ds_set 1 sc_law_least.nd rfl (.inl rfl) de_int)
    (dss_cons (ds_for PassesOwn.never rfl (di_seq (de_v 0)) (dg_nm (i := 2) sc_law_least.nd rfl (.inl rfl)) (dss_one (ds_set 1 sc_law_least.nd rfl (.inl rfl) (de_call (ok_law_common T) (hr.mono (by decide)) (by rfl) T.g_law_common T.F_law_common.kp T.b_law_common (da_cons (de_v 1) (da_cons (de_sub (de_v 2) (de_ix (de_v 0) de_int)) da_nil))))))
    (dss_one (ds_ret (de_if (dt_eq hr (de_v 1) de_int) (de_tup (da_cons (de_ix (de_v 0) de_int) (da_cons de_int da_nil))) (de_tup (da_cons (de_mod (de_ix (de_v 0) de_int) (de_v 1)) (da_cons (de_v 1) da_nil))))))))) sp_law_least

theorem ok_subtract (T : Txt K mg) : FnOk P w K mg base (L2.CX P w) 3 T.f_subtract T.fd_subtract ["one", "other"] (spD K mg m_subtract) :=
  fn_data T.F_subtract sc_subtract l_subtract (fun cdv A outer s H E b hr =>
    (dss_one (ds_ret (de_call (ok_add T) (hr.mono (by decide)) (by rfl) T.g_add T.F_add.kp T.b_add (da_cons (de_v 0) (da_cons (de_call (ok_contrary T) (hr.mono (by decide)) (by rfl) T.g_contrary T.F_contrary.kp T.b_contrary (da_cons (de_v 1) da_nil)) da_nil)))))) sp_subtract

theorem ok_law_same (T : Txt K mg) (n : Nat) : FnOk P w K mg base (L2.CX P w) (n + 1) T.f_law_same T.fd_law_same ["actual", "due"] (spD K mg (m_law_same n)) := by
  have st : ∀ n : Nat, FnOk P w K mg base (L2.CX P w) (n + 0) T.f_law_same T.fd_law_same ["actual", "due"] (spD K mg (prv m_law_same n)) → FnOk P w K mg base (L2.CX P w) (n + 1) T.f_law_same T.fd_law_same ["actual", "due"] (spD K mg (m_law_same n)) := fun n ih => fn_data (k := n + 0) (m := m_law_same n) T.F_law_same sc_law_same (l_law_same n) (fun cdv A outer s H E b hr =>
    (dss_cons (ds_if (dt_is (de_v 1) de_non) (dss_one (ds_ret (de_is (de_v 0) de_non))) dss_nil)
    (dss_cons (ds_if (dt_tru (de_isi (by rfl) T.n_isinstance (da_cons (de_v 1) (da_cons (de_ty (x := "bool") (n := "bool") (by rfl) T.n_bool (by decide +kernel)) da_nil)))) (dss_one (ds_ret (de_and (de_isi (by rfl) T.n_isinstance (da_cons (de_v 0) (da_cons (de_ty (x := "bool") (n := "bool") (by rfl) T.n_bool (by decide +kernel)) da_nil))) (de_one (de_eq hr (de_v 0) (de_v 1)))))) dss_nil)
    (dss_cons (ds_if (dt_tru (de_isi (by rfl) T.n_isinstance (da_cons (de_v 1) (da_cons (de_ty (x := "tuple") (n := "tuple") (by rfl) T.n_tuple (by decide +kernel)) da_nil)))) (dss_cons (ds_if (DW.pt (dw_or (dt_not (dt_tru (de_isi (by rfl) T.n_isinstance (da_cons (de_v 0) (da_cons (de_ty (x := "tuple") (n := "tuple") (by rfl) T.n_tuple (by decide +kernel)) da_nil))))) (dw_or1 (dt_ne hr (de_len (by rfl) T.n_len (da_cons (de_v 0) da_nil)) (de_len (by rfl) T.n_len (da_cons (de_v 1) da_nil)))))) (dss_one (ds_ret de_bl)) dss_nil)
    (dss_one (ds_ret (de_all rfl (by rfl) T.n_all (da_cons (de_lc rfl sc_law_same.nd (by decide) (di_range1 (by rfl) T.n_range (da_cons (de_len (by rfl) T.n_len (da_cons (de_v 1) da_nil)) da_nil)) (blkOk_by (own := [("k", 2)]) rfl) (fun _ _ _ _ _ => (dg_nm (i := 2) sc_law_same.nd rfl (.inl rfl))) (fun _ _ _ _ _ => dts_nil) (fun _ _ _ _ _ => (de_call ih hr (by rfl) T.g_law_same T.F_law_same.kp T.b_law_same (da_cons (de_ix (de_v 0) (de_v 2)) (da_cons (de_ix (de_v 1) (de_v 2)) da_nil))))) da_nil))))) dss_nil)
    (dss_cons (ds_if (dt_tru (de_isi (by rfl) T.n_isinstance (da_cons (de_v 1) (da_cons (de_ty (x := "str") (n := "str") (by rfl) T.n_str (by decide +kernel)) da_nil)))) (dss_one (ds_ret (de_and (de_isi (by rfl) T.n_isinstance (da_cons (de_v 0) (da_cons (de_ty (x := "str") (n := "str") (by rfl) T.n_str (by decide +kernel)) da_nil))) (de_one (de_eq hr (de_v 0) (de_v 1)))))) dss_nil)
    (dss_one (ds_ret (de_and (de_isi (by rfl) T.n_isinstance (da_cons (de_v 0) (da_cons (de_ty (x := "int") (n := "int") (by rfl) T.n_int (by decide +kernel)) da_nil))) (de_and (de_not (de_isi (by rfl) T.n_isinstance (da_cons (de_v 0) (da_cons (de_ty (x := "bool") (n := "bool") (by rfl) T.n_bool (by decide +kernel)) da_nil)))) (de_one (de_eq hr (de_v 0) (de_v 1)))))))))))) (sp_law_same n)
  induction n with
  | zero => exact st 0 fn_never
  | succ n ih => exact st (n + 1) ih

theorem ok_law_reckoned (T : Txt K mg) : FnOk P w K mg base (L2.CX P w) 6 T.f_law_reckoned T.fd_law_reckoned ["one", "other"] (spD K mg m_law_reckoned) :=
  fn_data T.F_law_reckoned sc_law_reckoned l_law_reckoned (fun cdv A outer s H E b hr =>
    (dss_cons (ds_par (i := 2) (j := 3) rfl sc_law_reckoned.nd rfl rfl (by decide) rfl rfl (da_cons (de_sl (de_call (ok_law_numbers T) (hr.mono (by decide)) (by rfl) T.g_law_numbers T.F_law_numbers.kp T.b_law_numbers (da_cons (de_v 0) da_nil)) po0 (po1 de_int)) (da_cons (de_sl (de_call (ok_law_numbers T) (hr.mono (by decide)) (by rfl) T.g_law_numbers T.F_law_numbers.kp T.b_law_numbers (da_cons (de_v 1) da_nil)) po0 (po1 de_int)) da_nil)) (by rfl))
    (dss_cons (ds_par (i := 4) (j := 5) rfl sc_law_reckoned.nd rfl rfl (by decide) rfl rfl (da_cons (de_lst da_nil) (da_cons (de_lst da_nil) da_nil)) (by rfl))
    (dss_cons (ds_for PassesOwn.never rfl (di_seq (de_v 2)) (dg_nm (i := 6) sc_law_reckoned.nd rfl (.inr rfl)) (dss_cons (ds_set 4 sc_law_reckoned.nd rfl (.inl rfl) (de_add (de_v 4) (de_lc rfl sc_law_reckoned.nd (by decide) (di_seq (de_v 3)) (blkOk_by (own := [("right", 8)]) rfl) (fun _ _ _ _ _ => (dg_nm (i := 8) sc_law_reckoned.nd rfl (.inl rfl))) (fun _ _ _ _ _ => dts_nil) (fun _ _ _ _ _ => (de_add (de_v 6) (de_v 8))))))
    (dss_one (ds_set 5 sc_law_reckoned.nd rfl (.inl rfl) (de_add (de_v 5) (de_lc rfl sc_law_reckoned.nd (by decide) (di_seq (de_v 3)) (blkOk_by (own := [("right", 8)]) rfl) (fun _ _ _ _ _ => (dg_nm (i := 8) sc_law_reckoned.nd rfl (.inl rfl))) (fun _ _ _ _ _ => dts_nil) (fun _ _ _ _ _ => (de_sub (de_v 6) (de_v 8)))))))))
    (dss_cons (ds_set 7 sc_law_reckoned.nd rfl (.inl rfl) (de_tup (da_cons (de_call (ok_law_least T) (hr.mono (by decide)) (by rfl) T.g_law_least T.F_law_least.kp T.b_law_least (da_cons (de_v 4) da_nil)) (da_cons (de_call (ok_law_least T) (hr.mono (by decide)) (by rfl) T.g_law_least T.F_law_least.kp T.b_law_least (da_cons (de_v 5) da_nil)) (da_cons (de_call (ok_law_least T) (hr.mono (by decide)) (by rfl) T.g_law_least T.F_law_least.kp T.b_law_least (da_cons (de_lc rfl sc_law_reckoned.nd (by decide) (di_seq (de_v 2)) (blkOk_by (own := [("left", 6)]) rfl) (fun _ _ _ _ _ => (dg_nm (i := 6) sc_law_reckoned.nd rfl (by first | exact .inl rfl | exact .inr rfl))) (fun _ _ _ _ _ => dts_nil) (fun _ _ _ _ _ => (de_neg (de_v 6)))) da_nil)) da_nil)))))
    (dss_cons (ds_if (dt_not (dt_tru (de_call (ok_law_same T 4) (hr.mono (by decide)) (by rfl) T.g_law_same T.F_law_same.kp T.b_law_same (da_cons (de_tup (da_cons (de_call (ok_add T) (hr.mono (by decide)) (by rfl) T.g_add T.F_add.kp T.b_add (da_cons (de_v 0) (da_cons (de_v 1) da_nil))) (da_cons (de_call (ok_subtract T) (hr.mono (by decide)) (by rfl) T.g_subtract T.F_subtract.kp T.b_subtract (da_cons (de_v 0) (da_cons (de_v 1) da_nil))) (da_cons (de_call (ok_contrary T) (hr.mono (by decide)) (by rfl) T.g_contrary T.F_contrary.kp T.b_contrary (da_cons (de_v 0) da_nil)) da_nil)))) (da_cons (de_v 7) da_nil))))) (dss_one (ds_ret de_bl)) dss_nil)
    (dss_cons (ds_for PassesOwn.never rfl (di_seq (de_v 2)) (dg_nm (i := 6) sc_law_reckoned.nd rfl (.inr rfl)) (dss_one (ds_for PassesOwn.never rfl (di_seq (de_v 3)) (dg_nm (i := 8) sc_law_reckoned.nd rfl (.inl rfl)) (dss_cons (ds_if (dt_not (dt_tru (de_call (ok_law_in T) (hr.mono (by decide)) (by rfl) T.g_law_in T.F_law_in.kp T.b_law_in (da_cons (de_call (ok_multiply T) (hr.mono (by decide)) (by rfl) T.g_multiply T.F_multiply.kp T.b_multiply (da_cons (de_v 0) (da_cons (de_v 1) da_nil))) (da_cons (de_mul (de_v 6) (de_v 8)) da_nil))))) (dss_one (ds_ret de_bl)) dss_nil)
    (dss_one (ds_if (DW.pt (dw_and (dt_ne hr (de_v 8) de_int) (dw_and1 (dt_not (DW.pt (dw_and (dt_tru (de_call (ok_law_in T) (hr.mono (by decide)) (by rfl) T.g_law_in T.F_law_in.kp T.b_law_in (da_cons (de_call (ok_quotient T) (hr.mono (by decide)) (by rfl) T.g_quotient T.F_quotient.kp T.b_quotient (da_cons (de_v 0) (da_cons (de_v 1) da_nil))) (da_cons (de_div (de_v 6) (de_v 8)) da_nil)))) (dw_and1 (dt_tru (de_call (ok_law_in T) (hr.mono (by decide)) (by rfl) T.g_law_in T.F_law_in.kp T.b_law_in (da_cons (de_call (ok_remainder T) (hr.mono (by decide)) (by rfl) T.g_remainder T.F_remainder.kp T.b_remainder (da_cons (de_v 0) (da_cons (de_v 1) da_nil))) (da_cons (de_mod (de_v 6) (de_v 8)) da_nil))))))))))) (dss_one (ds_ret de_bl)) dss_nil))))))
    (dss_one (ds_ret de_bl))))))))) sp_law_reckoned

theorem ok_law_led (T : Txt K mg) : FnOk P w K mg base (L2.CX P w) 6 T.f_law_led T.fd_law_led ["tape", "one"] (spD K mg m_law_led) :=
  fn_data T.F_law_led sc_law_led l_law_led (fun cdv A outer s H E b hr =>
    (dss_cons (ds_set 2 sc_law_led.nd rfl (.inl rfl) (de_sub (de_call (ok_law_draw T) (hr.mono (by decide)) (by rfl) T.g_law_draw T.F_law_draw.kp T.b_law_draw (da_cons (de_v 0) (da_cons de_int da_nil))) de_int))
    (dss_cons (ds_set 3 sc_law_led.nd rfl (.inr rfl) (de_call (ok_law_pick T) (hr.mono (by decide)) (by rfl) T.g_law_pick T.F_law_pick.kp T.b_law_pick (da_cons (de_v 0) (da_cons (de_lst (da_cons (de_tup (da_cons (de_v 2) (da_cons (de_add (de_v 2) (de_call (ok_law_draw T) (hr.mono (by decide)) (by rfl) T.g_law_draw T.F_law_draw.kp T.b_law_draw (da_cons (de_v 0) (da_cons de_int da_nil)))) da_nil))) (da_cons (de_tup (da_cons (de_v 2) (da_cons de_non da_nil))) (da_cons (de_tup (da_cons de_non (da_cons (de_v 2) da_nil))) (da_cons (de_tup (da_cons de_non (da_cons de_non da_nil))) da_nil))))) da_nil))))
    (dss_cons (ds_setLc 4 rfl sc_law_led.nd (by decide) rfl rfl (sw_true rfl rfl rfl rfl) (di_range2 (by rfl) T.n_range (da_cons (de_neg de_int) (da_cons de_int da_nil))) (blkOk_by (own := [("number", 8)]) rfl) (fun _ _ _ _ _ => (dg_nm (i := 8) sc_law_led.nd rfl (.inl rfl))) (fun _ _ _ _ _ => (dts_one (DW.pt (dw_and (dt_tru (de_call (ok_law_in T) (hr.mono (by decide)) (by rfl) T.g_law_in T.F_law_in.kp T.b_law_in (da_cons (de_v 1) (da_cons (de_v 8) da_nil)))) (dw_and (DW.pt (dw_or (dt_is (de_ix (de_v 3) de_int) de_non) (dw_or1 (dt_ge (de_v 8) (de_ix (de_v 3) de_int))))) (dw_and1 (DW.pt (dw_or (dt_is (de_ix (de_v 3) de_int) de_non) (dw_or1 (dt_le (de_v 8) (de_ix (de_v 3) de_int))))))))))) (fun _ _ _ _ _ => (de_v 8)))
    (dss_cons (ds_set 5 sc_law_led.nd rfl (.inr rfl) (de_call (ok_led T) (hr.mono (by decide)) (by rfl) T.g_led T.F_led.kp T.b_led (da_cons (de_v 3) (da_cons (de_v 1) da_nil))))
    (dss_cons (ds_if (dt_eq hr (de_v 4) (de_lst da_nil)) (dss_one (ds_ret (de_is (de_v 5) de_non))) dss_nil)
    (dss_cons (ds_if (DW.pt (dw_or (dt_is (de_v 5) de_non) (dw_or (dt_not (dt_tru (de_call (ok_is_rests T) (hr.mono (by decide)) (by rfl) T.g_is_rests T.F_is_rests.kp T.b_is_rests (da_cons (de_ix (de_v 5) de_int) da_nil)))) (dw_or1 (dt_tru (de_any rfl (by rfl) T.n_any (da_cons (de_lc rfl sc_law_led.nd (by decide) (di_seq (de_v 4)) (blkOk_by (own := [("number", 8)]) rfl) (fun _ _ _ _ _ => (dg_nm (i := 8) sc_law_led.nd rfl (.inl rfl))) (fun _ _ _ _ _ => dts_nil) (fun _ _ _ _ _ => (de_not (de_call (ok_law_in T) (hr.mono (by decide)) (by rfl) T.g_law_in T.F_law_in.kp T.b_law_in (da_cons (de_ix (de_v 5) de_int) (da_cons (de_v 8) da_nil)))))) da_nil))))))) (dss_one (ds_ret de_bl)) dss_nil)
    (dss_cons (ds_par (i := 6) (j := 7) rfl sc_law_led.nd rfl rfl (by decide) rfl rfl (da_cons (de_or (de_isnt (de_ix (de_v 3) de_int) de_non) (de_one (de_eq hr (de_ix (de_v 1) de_int) de_int))) (da_cons (de_or (de_isnt (de_ix (de_v 3) de_int) de_non) (de_one (de_eq hr (de_ix (de_v 1) de_int) de_int))) da_nil)) (by rfl))
    (dss_one (ds_ret (de_call (ok_law_same T 4) (hr.mono (by decide)) (by rfl) T.g_law_same T.F_law_same.kp T.b_law_same (da_cons (de_ix (de_v 5) de_int) (da_cons (de_tup (da_cons (de_if (dt_tru (de_v 6)) (de_ix (de_v 4) de_int) de_non) (da_cons (de_if (dt_tru (de_v 7)) (de_ix (de_v 4) (de_neg de_int)) de_non) da_nil))) da_nil))))))))))))) sp_law_led

theorem ok_law (T : Txt K mg) : FnOk P w K mg base (L2.CX P w) 7 T.f_law T.fd_law ["script"] (spD K mg m_law) :=
  fn_data T.F_law sc_law l_law (fun cdv A outer s H E b hr =>
    (dss_cons (ds_set 1 sc_law.nd rfl (.inl rfl) (de_call (ok_law_tape T) (hr.mono (by decide)) (by rfl) T.g_law_tape T.F_law_tape.kp T.b_law_tape (da_cons (de_v 0) da_nil)))
    (dss_cons (ds_for PassesOwn.never rfl (di_range1 (by rfl) T.n_range (da_cons de_int da_nil)) (dg_nm (i := 2) sc_law.nd rfl (.inl rfl)) (dss_cons (ds_asg (de_tup (da_cons (de_call (ok_law_rests T) (hr.mono (by decide)) (by rfl) T.g_law_rests T.F_law_rests.kp T.b_law_rests (da_cons (de_v 1) da_nil)) (da_cons (de_call (ok_law_rests T) (hr.mono (by decide)) (by rfl) T.g_law_rests T.F_law_rests.kp T.b_law_rests (da_cons (de_v 1) da_nil)) da_nil))) (dg_tp rfl (dgs_cons (dg_nm (i := 3) sc_law.nd rfl (.inr rfl)) (dgs_cons (dg_nm (i := 4) sc_law.nd rfl (.inr rfl)) dgs_nil))))
    (dss_cons (ds_asg (de_tup (da_cons (de_call (ok_law_numbers T) (hr.mono (by decide)) (by rfl) T.g_law_numbers T.F_law_numbers.kp T.b_law_numbers (da_cons (de_v 3) da_nil)) (da_cons (de_call (ok_law_numbers T) (hr.mono (by decide)) (by rfl) T.g_law_numbers T.F_law_numbers.kp T.b_law_numbers (da_cons (de_v 4) da_nil)) da_nil))) (dg_tp rfl (dgs_cons (dg_nm (i := 5) sc_law.nd rfl (.inl rfl)) (dgs_cons (dg_nm (i := 6) sc_law.nd rfl (.inr rfl)) dgs_nil))))
    (dss_cons (ds_if (dt_not (dt_tru (de_all rfl (by rfl) T.n_all (da_cons (de_lc rfl sc_law.nd (by decide) (di_range2 (by rfl) T.n_range (da_cons (de_neg de_int) (da_cons de_int da_nil))) (blkOk_by (own := [("number", 16)]) rfl) (fun _ _ _ _ _ => (dg_nm (i := 16) sc_law.nd rfl (.inl rfl))) (fun _ _ _ _ _ => dts_nil) (fun _ _ _ _ _ => (de_call (ok_law_same T 4) (hr.mono (by decide)) (by rfl) T.g_law_same T.F_law_same.kp T.b_law_same (da_cons (de_call (ok_holds T) (hr.mono (by decide)) (by rfl) T.g_holds T.F_holds.kp T.b_holds (da_cons (de_v 3) (da_cons (de_v 16) da_nil))) (da_cons (de_call (ok_law_in T) (hr.mono (by decide)) (by rfl) T.g_law_in T.F_law_in.kp T.b_law_in (da_cons (de_v 3) (da_cons (de_v 16) da_nil))) da_nil))))) da_nil)))) (dss_one (ds_ret de_bl)) dss_nil)
    (dss_cons (ds_if (dt_not (dt_tru (de_call (ok_law_same T 4) (hr.mono (by decide)) (by rfl) T.g_law_same T.F_law_same.kp T.b_law_same (da_cons (de_call (ok_is_within T) (hr.mono (by decide)) (by rfl) T.g_is_within T.F_is_within.kp T.b_is_within (da_cons (de_v 3) (da_cons (de_v 4) da_nil))) (da_cons (de_and (de_all rfl (by rfl) T.n_all (da_cons (de_lc rfl sc_law.nd (by decide) (di_seq (de_v 5)) (blkOk_by (own := [("number", 16)]) rfl) (fun _ _ _ _ _ => (dg_nm (i := 16) sc_law.nd rfl (.inl rfl))) (fun _ _ _ _ _ => dts_nil) (fun _ _ _ _ _ => (de_in (de_v 16) (de_v 6)))) da_nil)) (de_one (de_or (de_gt (de_ix (de_v 4) de_int) de_int) (de_one (de_eq hr (de_ix (de_v 3) de_int) de_int))))) da_nil))))) (dss_one (ds_ret de_bl)) dss_nil)
    (dss_cons (ds_if (DW.pt (dw_or (dt_not (dt_tru (de_call (ok_law_same T 4) (hr.mono (by decide)) (by rfl) T.g_law_same T.F_law_same.kp T.b_law_same (da_cons (de_call (ok_join T) (hr.mono (by decide)) (by rfl) T.g_join T.F_join.kp T.b_join (da_cons (de_v 3) (da_cons (de_v 4) da_nil))) (da_cons (de_call (ok_law_least T) (hr.mono (by decide)) (by rfl) T.g_law_least T.F_law_least.kp T.b_law_least (da_cons (de_add (de_sl (de_v 5) po0 (po1 de_int)) (de_sl (de_v 6) po0 (po1 de_int))) da_nil)) da_nil))))) (dw_or (dt_not (dt_tru (de_call (ok_law_reckoned T) (hr.mono (by decide)) (by rfl) T.g_law_reckoned T.F_law_reckoned.kp T.b_law_reckoned (da_cons (de_v 3) (da_cons (de_v 4) da_nil))))) (dw_or1 (dt_not (dt_tru (de_call (ok_law_led T) (hr.mono (by decide)) (by rfl) T.g_law_led T.F_law_led.kp T.b_law_led (da_cons (de_v 1) (da_cons (de_v 3) da_nil))))))))) (dss_one (ds_ret de_bl)) dss_nil)
    (dss_cons (ds_par (i := 7) (j := 8) rfl sc_law.nd rfl rfl (by decide) rfl rfl (da_cons (de_lc rfl sc_law.nd (by decide) (di_range2 (by rfl) T.n_range (da_cons (de_neg de_int) (da_cons de_int da_nil))) (blkOk_by (own := [("number", 16)]) rfl) (fun _ _ _ _ _ => (dg_nm (i := 16) sc_law.nd rfl (.inl rfl))) (fun _ _ _ _ _ => (dts_one (DW.pt (dw_and (dt_tru (de_call (ok_law_in T) (hr.mono (by decide)) (by rfl) T.g_law_in T.F_law_in.kp T.b_law_in (da_cons (de_v 3) (da_cons (de_v 16) da_nil)))) (dw_and1 (dt_tru (de_call (ok_law_in T) (hr.mono (by decide)) (by rfl) T.g_law_in T.F_law_in.kp T.b_law_in (da_cons (de_v 4) (da_cons (de_v 16) da_nil))))))))) (fun _ _ _ _ _ => (de_v 16))) (da_cons (de_call (ok_meet T) (hr.mono (by decide)) (by rfl) T.g_meet T.F_meet.kp T.b_meet (da_cons (de_v 3) (da_cons (de_v 4) da_nil))) da_nil)) (by rfl))
    (dss_cons (ds_if (DW.pt (dw_or (DW.pt (dw_and (dt_eq hr (de_v 7) (de_lst da_nil)) (dw_and1 (dt_isnt (de_v 8) de_non)))) (dw_or1 (DW.pt (dw_and (dt_ne hr (de_v 7) (de_lst da_nil)) (dw_and1 (DW.pt (dw_or (dt_is (de_v 8) de_non) (dw_or1 (dt_not (dt_tru (de_call (ok_law_same T 4) (hr.mono (by decide)) (by rfl) T.g_law_same T.F_law_same.kp T.b_law_same (da_cons (de_v 8) (da_cons (de_call (ok_law_least T) (hr.mono (by decide)) (by rfl) T.g_law_least T.F_law_least.kp T.b_law_least (da_cons (de_v 7) da_nil)) da_nil)))))))))))))) (dss_one (ds_ret de_bl)) dss_nil)
    (dss_cons (ds_set 9 sc_law.nd rfl (.inr rfl) (de_sub (de_call (ok_law_draw T) (hr.mono (by decide)) (by rfl) T.g_law_draw T.F_law_draw.kp T.b_law_draw (da_cons (de_v 1) (da_cons de_int da_nil))) de_int))
    (dss_cons (ds_setLc 10 rfl sc_law.nd (by decide) rfl rfl (sw_true rfl rfl rfl rfl) (di_range2 (by rfl) T.n_range (da_cons (de_neg de_int) (da_cons de_int da_nil))) (blkOk_by (own := [("number", 16)]) rfl) (fun _ _ _ _ _ => (dg_nm (i := 16) sc_law.nd rfl (.inl rfl))) (fun _ _ _ _ _ => (dts_one (DW.pt (dw_and (dt_tru (de_call (ok_law_in T) (hr.mono (by decide)) (by rfl) T.g_law_in T.F_law_in.kp T.b_law_in (da_cons (de_v 3) (da_cons (de_v 16) da_nil)))) (dw_and1 (dt_ge (de_v 16) (de_v 9))))))) (fun _ _ _ _ _ => (de_v 16)))
    (dss_cons (ds_setLc 11 rfl sc_law.nd (by decide) rfl rfl (sw_true rfl rfl rfl rfl) (di_range2 (by rfl) T.n_range (da_cons (de_neg de_int) (da_cons de_int da_nil))) (blkOk_by (own := [("number", 16)]) rfl) (fun _ _ _ _ _ => (dg_nm (i := 16) sc_law.nd rfl (.inl rfl))) (fun _ _ _ _ _ => (dts_one (DW.pt (dw_and (dt_tru (de_call (ok_law_in T) (hr.mono (by decide)) (by rfl) T.g_law_in T.F_law_in.kp T.b_law_in (da_cons (de_v 3) (da_cons (de_v 16) da_nil)))) (dw_and1 (dt_le (de_v 16) (de_v 9))))))) (fun _ _ _ _ _ => (de_v 16)))
    (dss_cons (ds_if (dt_not (dt_tru (de_call (ok_law_same T 4) (hr.mono (by decide)) (by rfl) T.g_law_same T.F_law_same.kp T.b_law_same (da_cons (de_tup (da_cons (de_call (ok_first_from T) (hr.mono (by decide)) (by rfl) T.g_first_from T.F_first_from.kp T.b_first_from (da_cons (de_v 3) (da_cons (de_v 9) da_nil))) (da_cons (de_call (ok_last_to T) (hr.mono (by decide)) (by rfl) T.g_last_to T.F_last_to.kp T.b_last_to (da_cons (de_v 3) (da_cons (de_v 9) da_nil))) da_nil))) (da_cons (de_tup (da_cons (de_if (dt_ne hr (de_v 10) (de_lst da_nil)) (de_ix (de_v 10) de_int) de_non) (da_cons (de_if (dt_ne hr (de_v 11) (de_lst da_nil)) (de_ix (de_v 11) (de_neg de_int)) de_non) da_nil))) da_nil))))) (dss_one (ds_ret de_bl)) dss_nil)
    (dss_cons (ds_par (i := 12) (j := 13) rfl sc_law.nd rfl rfl (by decide) rfl rfl (da_cons (de_sub (de_call (ok_law_draw T) (hr.mono (by decide)) (by rfl) T.g_law_draw T.F_law_draw.kp T.b_law_draw (da_cons (de_v 1) (da_cons de_int da_nil))) de_int) (da_cons (de_call (ok_law_draw T) (hr.mono (by decide)) (by rfl) T.g_law_draw T.F_law_draw.kp T.b_law_draw (da_cons (de_v 1) (da_cons de_int da_nil))) da_nil)) (by rfl))
    (dss_one (ds_if (dt_not (dt_tru (de_call (ok_law_same T 4) (hr.mono (by decide)) (by rfl) T.g_law_same T.F_law_same.kp T.b_law_same (da_cons (de_tup (da_cons (de_call (ok_make T) (hr.mono (by decide)) (by rfl) T.g_make T.F_make.kp T.b_make (da_cons (de_v 12) (da_cons (de_v 13) da_nil))) (da_cons (de_call (ok_of T) (hr.mono (by decide)) (by rfl) T.g_of T.F_of.kp T.b_of (da_cons (de_v 12) da_nil)) da_nil))) (da_cons (de_tup (da_cons (de_if (dt_gt (de_v 13) de_int) (de_tup (da_cons (de_mod (de_v 12) (de_v 13)) (da_cons (de_v 13) da_nil))) (de_tup (da_cons (de_v 12) (da_cons de_int da_nil)))) (da_cons (de_tup (da_cons (de_v 12) (da_cons de_int da_nil))) da_nil))) da_nil))))) (dss_one (ds_ret de_bl)) dss_nil)))))))))))))))
    (dss_cons (ds_set 14 sc_law.nd rfl (.inl rfl) (de_sub (de_add (de_pow de_int de_int) (de_call (ok_law_draw T) (hr.mono (by decide)) (by rfl) T.g_law_draw T.F_law_draw.kp T.b_law_draw (da_cons (de_v 1) (da_cons de_int da_nil)))) de_int))
    (dss_cons (ds_if (dt_not (dt_tru (de_call (ok_law_same T 4) (hr.mono (by decide)) (by rfl) T.g_law_same T.F_law_same.kp T.b_law_same (da_cons (de_tup (da_cons (de_call (ok_tamed T) (hr.mono (by decide)) (by rfl) T.g_tamed T.F_tamed.kp T.b_tamed (da_cons (de_tup (da_cons de_int (da_cons (de_v 14) da_nil))) da_nil)) (da_cons (T.c_ALL rfl rfl (by rfl)) da_nil))) (da_cons (de_tup (da_cons (de_if (dt_le (de_v 14) (de_pow de_int de_int)) (de_tup (da_cons de_int (da_cons (de_v 14) da_nil))) (de_tup (da_cons de_int (da_cons de_int da_nil)))) (da_cons (de_tup (da_cons de_int (da_cons de_int da_nil))) da_nil))) da_nil))))) (dss_one (ds_ret de_bl)) dss_nil)
    (dss_cons (ds_set 15 sc_law.nd rfl (.inl rfl) (de_lst (da_cons (de_tup (da_cons de_int (da_cons de_int da_nil))) (da_cons (de_tup (da_cons (de_neg de_int) (da_cons de_int da_nil))) (da_cons (de_tup (da_cons de_int (da_cons (de_neg de_int) da_nil))) (da_cons (de_tup (da_cons de_int da_nil)) (da_cons (de_lst (da_cons de_int (da_cons de_int da_nil))) (da_cons de_non (da_cons (de_tup (da_cons de_bl (da_cons de_int da_nil))) (da_cons (de_tup (da_cons de_int (da_cons de_bl da_nil))) (da_cons (de_tup (da_cons de_int (da_cons de_int (da_cons de_int da_nil)))) (da_cons de_str (da_cons (de_tup (da_cons de_int (da_cons de_int da_nil))) (da_cons de_int da_nil))))))))))))))
    (dss_one (ds_ret (de_and (de_not (de_any rfl (by rfl) T.n_any (da_cons (de_lc rfl sc_law.nd (by decide) (di_seq (de_v 15)) (blkOk_by (own := [("value", 17)]) rfl) (fun _ _ _ _ _ => (dg_nm (i := 17) sc_law.nd rfl (.inl rfl))) (fun _ _ _ _ _ => dts_nil) (fun _ _ _ _ _ => (de_call (ok_is_rests T) (hr.mono (by decide)) (by rfl) T.g_is_rests T.F_is_rests.kp T.b_is_rests (da_cons (de_v 17) da_nil)))) da_nil))) (de_one (de_all rfl (by rfl) T.n_all (da_cons (de_lc rfl sc_law.nd (by decide) (di_seq (de_lst (da_cons (de_tup (da_cons de_int (da_cons de_int da_nil))) (da_cons (de_tup (da_cons de_int (da_cons de_int da_nil))) (da_cons (de_tup (da_cons (de_neg de_int) (da_cons de_int da_nil))) (da_cons (de_tup (da_cons de_int (da_cons de_int da_nil))) (da_cons (de_tup (da_cons de_int (da_cons de_int da_nil))) da_nil))))))) (blkOk_by (own := [("value", 17)]) rfl) (fun _ _ _ _ _ => (dg_nm (i := 17) sc_law.nd rfl (.inl rfl))) (fun _ _ _ _ _ => dts_nil) (fun _ _ _ _ _ => (de_call (ok_is_rests T) (hr.mono (by decide)) (by rfl) T.g_is_rests T.F_is_rests.kp T.b_is_rests (da_cons (de_v 17) da_nil)))) da_nil)))))))))))) sp_law

end
def DefOk (K : PySem.W.Frag) (mg : Str → Option Value) (x : Str) (st : Stmt) : Prop := ∃ f fd, Fun K x x st f fd ∧ mg x = some (.ref f)
theorem def_mk {K : PySem.W.Frag} {h : Heap} {mg : Str → Option Value} (X : K.In h) (G : h.Ns mainGlobals mg) {x : Str} {st : Stmt} {f : Addr} {od an : Option Addr} {sl : Array (Option Value)} {oc kV dc pm cd ct : Value}
    (a : PySem.W.nsIn K mainGlobals x = some (some (.ref f))) (l : K.lookup f = some ⟨oc, od, .func (PySem.W.fnOf x x (defArgs st) (defBody st) (defScope st) .none kV dc pm an cd ct), sl⟩) (c : PySem.W.codeIn K cd x = true) (k : PySem.W.keepIn K (.ref f) = true) : DefOk K mg x st :=
  ⟨f, _, fun_mk (st := st) l c k, PySem.W.mg_of X G a⟩
theorem txt_mk {K : PySem.W.Frag} {mg : Str → Option Value} (d_is_rests : DefOk K mg "is_rests" s_is_rests) (d_divisor : DefOk K mg "divisor" s_divisor) (d_of : DefOk K mg "of" s_of) (d_make : DefOk K mg "make" s_make) (d_tamed : DefOk K mg "tamed" s_tamed) (d_holds : DefOk K mg "holds" s_holds) (d_first_from : DefOk K mg "first_from" s_first_from) (d_last_to : DefOk K mg "last_to" s_last_to) (d_law_tape : DefOk K mg "_law_tape" s_law_tape) (d_law_draw : DefOk K mg "_law_draw" s_law_draw) (d_law_in : DefOk K mg "_law_in" s_law_in) (d_law_common : DefOk K mg "_law_common" s_law_common) (d_is_within : DefOk K mg "is_within" s_is_within) (d_join : DefOk K mg "join" s_join) (d_meet : DefOk K mg "meet" s_meet) (d_add : DefOk K mg "add" s_add) (d_contrary : DefOk K mg "contrary" s_contrary) (d_multiply : DefOk K mg "multiply" s_multiply) (d_remainder : DefOk K mg "remainder" s_remainder) (d_quotient : DefOk K mg "quotient" s_quotient) (d_led : DefOk K mg "led" s_led) (d_law_pick : DefOk K mg "_law_pick" s_law_pick) (d_law_rests : DefOk K mg "_law_rests" s_law_rests) (d_law_numbers : DefOk K mg "_law_numbers" s_law_numbers) (d_law_least : DefOk K mg "_law_least" s_law_least) (d_subtract : DefOk K mg "subtract" s_subtract) (d_law_same : DefOk K mg "_law_same" s_law_same) (d_law_reckoned : DefOk K mg "_law_reckoned" s_law_reckoned) (d_law_led : DefOk K mg "_law_led" s_law_led) (d_law : DefOk K mg "law" s_law) (n_abs : mg "abs" = none) (n_all : mg "all" = none) (n_any : mg "any" = none) (n_bool : mg "bool" = none) (n_int : mg "int" = none) (n_isinstance : mg "isinstance" = none) (n_len : mg "len" = none) (n_range : mg "range" = none) (n_str : mg "str" = none) (n_tuple : mg "tuple" = none) (c_ALL : ∀ {X : Cx} {b : Bs} {pos : Pos}, X.K = K → X.mg = mg → Gl X "ALL" → DE X b (.Name "ALL" pos) (cW (.tup [.int 0, .int 1]))) (c_MOST : ∀ {X : Cx} {b : Bs} {pos : Pos}, X.K = K → X.mg = mg → Gl X "MOST" → DE X b (.Name "MOST" pos) (cW (.int (10 ^ 60)))) (c_MOST_STEP : ∀ {X : Cx} {b : Bs} {pos : Pos}, X.K = K → X.mg = mg → Gl X "MOST_STEP" → DE X b (.Name "MOST_STEP" pos) (cW (.int 1000000))) : Nonempty (Txt K mg) := by
  obtain ⟨f_is_rests, fd_is_rests, F_is_rests, g_is_rests⟩ := d_is_rests
  obtain ⟨f_divisor, fd_divisor, F_divisor, g_divisor⟩ := d_divisor
  obtain ⟨f_of, fd_of, F_of, g_of⟩ := d_of
  obtain ⟨f_make, fd_make, F_make, g_make⟩ := d_make
  obtain ⟨f_tamed, fd_tamed, F_tamed, g_tamed⟩ := d_tamed
  obtain ⟨f_holds, fd_holds, F_holds, g_holds⟩ := d_holds
  obtain ⟨f_first_from, fd_first_from, F_first_from, g_first_from⟩ := d_first_from
  obtain ⟨f_last_to, fd_last_to, F_last_to, g_last_to⟩ := d_last_to
  obtain ⟨f_law_tape, fd_law_tape, F_law_tape, g_law_tape⟩ := d_law_tape
  obtain ⟨f_law_draw, fd_law_draw, F_law_draw, g_law_draw⟩ := d_law_draw
  obtain ⟨f_law_in, fd_law_in, F_law_in, g_law_in⟩ := d_law_in
  obtain ⟨f_law_common, fd_law_common, F_law_common, g_law_common⟩ := d_law_common
  obtain ⟨f_is_within, fd_is_within, F_is_within, g_is_within⟩ := d_is_within
  obtain ⟨f_join, fd_join, F_join, g_join⟩ := d_join
  obtain ⟨f_meet, fd_meet, F_meet, g_meet⟩ := d_meet
  obtain ⟨f_add, fd_add, F_add, g_add⟩ := d_add
  obtain ⟨f_contrary, fd_contrary, F_contrary, g_contrary⟩ := d_contrary
  obtain ⟨f_multiply, fd_multiply, F_multiply, g_multiply⟩ := d_multiply
  obtain ⟨f_remainder, fd_remainder, F_remainder, g_remainder⟩ := d_remainder
  obtain ⟨f_quotient, fd_quotient, F_quotient, g_quotient⟩ := d_quotient
  obtain ⟨f_led, fd_led, F_led, g_led⟩ := d_led
  obtain ⟨f_law_pick, fd_law_pick, F_law_pick, g_law_pick⟩ := d_law_pick
  obtain ⟨f_law_rests, fd_law_rests, F_law_rests, g_law_rests⟩ := d_law_rests
  obtain ⟨f_law_numbers, fd_law_numbers, F_law_numbers, g_law_numbers⟩ := d_law_numbers
  obtain ⟨f_law_least, fd_law_least, F_law_least, g_law_least⟩ := d_law_least
  obtain ⟨f_subtract, fd_subtract, F_subtract, g_subtract⟩ := d_subtract
  obtain ⟨f_law_same, fd_law_same, F_law_same, g_law_same⟩ := d_law_same
  obtain ⟨f_law_reckoned, fd_law_reckoned, F_law_reckoned, g_law_reckoned⟩ := d_law_reckoned
  obtain ⟨f_law_led, fd_law_led, F_law_led, g_law_led⟩ := d_law_led
  obtain ⟨f_law, fd_law, F_law, g_law⟩ := d_law
  exact ⟨{
    f_is_rests := f_is_rests, fd_is_rests := fd_is_rests, F_is_rests := F_is_rests, g_is_rests := g_is_rests, b_is_rests := F_is_rests.binds (ps := ["value"]) fun _ _ _ _ _ _ us hl => match us, hl with | [_], _ => rfl,
    f_divisor := f_divisor, fd_divisor := fd_divisor, F_divisor := F_divisor, g_divisor := g_divisor, b_divisor := F_divisor.binds (ps := ["one", "other"]) fun _ _ _ _ _ _ us hl => match us, hl with | [_, _], _ => rfl,
    f_of := f_of, fd_of := fd_of, F_of := F_of, g_of := g_of, b_of := F_of.binds (ps := ["number"]) fun _ _ _ _ _ _ us hl => match us, hl with | [_], _ => rfl,
    f_make := f_make, fd_make := fd_make, F_make := F_make, g_make := g_make, b_make := F_make.binds (ps := ["rest", "step"]) fun _ _ _ _ _ _ us hl => match us, hl with | [_, _], _ => rfl,
    f_tamed := f_tamed, fd_tamed := fd_tamed, F_tamed := F_tamed, g_tamed := g_tamed, b_tamed := F_tamed.binds (ps := ["one"]) fun _ _ _ _ _ _ us hl => match us, hl with | [_], _ => rfl,
    f_holds := f_holds, fd_holds := fd_holds, F_holds := F_holds, g_holds := g_holds, b_holds := F_holds.binds (ps := ["one", "number"]) fun _ _ _ _ _ _ us hl => match us, hl with | [_, _], _ => rfl,
    f_first_from := f_first_from, fd_first_from := fd_first_from, F_first_from := F_first_from, g_first_from := g_first_from, b_first_from := F_first_from.binds (ps := ["one", "low"]) fun _ _ _ _ _ _ us hl => match us, hl with | [_, _], _ => rfl,
    f_last_to := f_last_to, fd_last_to := fd_last_to, F_last_to := F_last_to, g_last_to := g_last_to, b_last_to := F_last_to.binds (ps := ["one", "high"]) fun _ _ _ _ _ _ us hl => match us, hl with | [_, _], _ => rfl,
    f_law_tape := f_law_tape, fd_law_tape := fd_law_tape, F_law_tape := F_law_tape, g_law_tape := g_law_tape, b_law_tape := F_law_tape.binds (ps := ["script"]) fun _ _ _ _ _ _ us hl => match us, hl with | [_], _ => rfl,
    f_law_draw := f_law_draw, fd_law_draw := fd_law_draw, F_law_draw := F_law_draw, g_law_draw := g_law_draw, b_law_draw := F_law_draw.binds (ps := ["tape", "many"]) fun _ _ _ _ _ _ us hl => match us, hl with | [_, _], _ => rfl,
    f_law_in := f_law_in, fd_law_in := fd_law_in, F_law_in := F_law_in, g_law_in := g_law_in, b_law_in := F_law_in.binds (ps := ["one", "number"]) fun _ _ _ _ _ _ us hl => match us, hl with | [_, _], _ => rfl,
    f_law_common := f_law_common, fd_law_common := fd_law_common, F_law_common := F_law_common, g_law_common := g_law_common, b_law_common := F_law_common.binds (ps := ["one", "other"]) fun _ _ _ _ _ _ us hl => match us, hl with | [_, _], _ => rfl,
    f_is_within := f_is_within, fd_is_within := fd_is_within, F_is_within := F_is_within, g_is_within := g_is_within, b_is_within := F_is_within.binds (ps := ["one", "other"]) fun _ _ _ _ _ _ us hl => match us, hl with | [_, _], _ => rfl,
    f_join := f_join, fd_join := fd_join, F_join := F_join, g_join := g_join, b_join := F_join.binds (ps := ["one", "other"]) fun _ _ _ _ _ _ us hl => match us, hl with | [_, _], _ => rfl,
    f_meet := f_meet, fd_meet := fd_meet, F_meet := F_meet, g_meet := g_meet, b_meet := F_meet.binds (ps := ["one", "other"]) fun _ _ _ _ _ _ us hl => match us, hl with | [_, _], _ => rfl,
    f_add := f_add, fd_add := fd_add, F_add := F_add, g_add := g_add, b_add := F_add.binds (ps := ["one", "other"]) fun _ _ _ _ _ _ us hl => match us, hl with | [_, _], _ => rfl,
    f_contrary := f_contrary, fd_contrary := fd_contrary, F_contrary := F_contrary, g_contrary := g_contrary, b_contrary := F_contrary.binds (ps := ["one"]) fun _ _ _ _ _ _ us hl => match us, hl with | [_], _ => rfl,
    f_multiply := f_multiply, fd_multiply := fd_multiply, F_multiply := F_multiply, g_multiply := g_multiply, b_multiply := F_multiply.binds (ps := ["one", "other"]) fun _ _ _ _ _ _ us hl => match us, hl with | [_, _], _ => rfl,
    f_remainder := f_remainder, fd_remainder := fd_remainder, F_remainder := F_remainder, g_remainder := g_remainder, b_remainder := F_remainder.binds (ps := ["one", "other"]) fun _ _ _ _ _ _ us hl => match us, hl with | [_, _], _ => rfl,
    f_quotient := f_quotient, fd_quotient := fd_quotient, F_quotient := F_quotient, g_quotient := g_quotient, b_quotient := F_quotient.binds (ps := ["one", "other"]) fun _ _ _ _ _ _ us hl => match us, hl with | [_, _], _ => rfl,
    f_led := f_led, fd_led := fd_led, F_led := F_led, g_led := g_led, b_led := F_led.binds (ps := ["span", "one"]) fun _ _ _ _ _ _ us hl => match us, hl with | [_, _], _ => rfl,
    f_law_pick := f_law_pick, fd_law_pick := fd_law_pick, F_law_pick := F_law_pick, g_law_pick := g_law_pick, b_law_pick := F_law_pick.binds (ps := ["tape", "row"]) fun _ _ _ _ _ _ us hl => match us, hl with | [_, _], _ => rfl,
    f_law_rests := f_law_rests, fd_law_rests := fd_law_rests, F_law_rests := F_law_rests, g_law_rests := g_law_rests, b_law_rests := F_law_rests.binds (ps := ["tape"]) fun _ _ _ _ _ _ us hl => match us, hl with | [_], _ => rfl,
    f_law_numbers := f_law_numbers, fd_law_numbers := fd_law_numbers, F_law_numbers := F_law_numbers, g_law_numbers := g_law_numbers, b_law_numbers := F_law_numbers.binds (ps := ["one"]) fun _ _ _ _ _ _ us hl => match us, hl with | [_], _ => rfl,
    f_law_least := f_law_least, fd_law_least := fd_law_least, F_law_least := F_law_least, g_law_least := g_law_least, b_law_least := F_law_least.binds (ps := ["numbers"]) fun _ _ _ _ _ _ us hl => match us, hl with | [_], _ => rfl,
    f_subtract := f_subtract, fd_subtract := fd_subtract, F_subtract := F_subtract, g_subtract := g_subtract, b_subtract := F_subtract.binds (ps := ["one", "other"]) fun _ _ _ _ _ _ us hl => match us, hl with | [_, _], _ => rfl,
    f_law_same := f_law_same, fd_law_same := fd_law_same, F_law_same := F_law_same, g_law_same := g_law_same, b_law_same := F_law_same.binds (ps := ["actual", "due"]) fun _ _ _ _ _ _ us hl => match us, hl with | [_, _], _ => rfl,
    f_law_reckoned := f_law_reckoned, fd_law_reckoned := fd_law_reckoned, F_law_reckoned := F_law_reckoned, g_law_reckoned := g_law_reckoned, b_law_reckoned := F_law_reckoned.binds (ps := ["one", "other"]) fun _ _ _ _ _ _ us hl => match us, hl with | [_, _], _ => rfl,
    f_law_led := f_law_led, fd_law_led := fd_law_led, F_law_led := F_law_led, g_law_led := g_law_led, b_law_led := F_law_led.binds (ps := ["tape", "one"]) fun _ _ _ _ _ _ us hl => match us, hl with | [_, _], _ => rfl,
    f_law := f_law, fd_law := fd_law, F_law := F_law, g_law := g_law, b_law := F_law.binds (ps := ["script"]) fun _ _ _ _ _ _ us hl => match us, hl with | [_], _ => rfl,
    n_abs := n_abs, n_all := n_all, n_any := n_any, n_bool := n_bool, n_int := n_int, n_isinstance := n_isinstance, n_len := n_len, n_range := n_range, n_str := n_str, n_tuple := n_tuple,
    c_ALL := c_ALL, c_MOST := c_MOST, c_MOST_STEP := c_MOST_STEP }⟩
end K41
namespace K41
open PySem PySem.Spec PyProof.Rows L2 DL
theorem c_all {K : PySem.W.Frag} {h : Heap} {mg : Str → Option Value} (X : K.In h) (G : h.Ns mainGlobals mg) {p : Addr} {od : Option Addr} {n : Nat} {sl : Array (Option Value)} {t u : Tok}
    (a : PySem.W.nsIn K mainGlobals "ALL" = some (some (.ref p))) (l : K.lookup p = some ⟨.type "tuple", od, .seq #[.int 0 t, .int 1 u] n, sl⟩) :
    ∀ {X : Cx} {b : Bs} {pos : Pos}, X.K = K → X.mg = mg → Gl X "ALL" → DE X b (.Name "ALL" pos) (cW (.tup [.int 0, .int 1])) := by
  intro Y b pos e1 e2 g
  have m := PySem.W.mg_of X G a
  refine de_glob (v := .ref p) g (by rw [e2]; exact m) rfl fun G μ => ?_
  refine .tup (vs := [.int 0, .int 1]) (.inr ⟨_, _, _, by
    show Y.K.lookup p = _
    rw [e1]; exact l, rfl, rfl, ?_, ?_⟩) (.cons (.int 0) (.cons (.int 1) .nil))
  · exact sz2
  · exact .cons ⟨t, rfl⟩ (.cons ⟨u, rfl⟩ .nil)
theorem c_int {mg : Str → Option Value} {x : Str} {n : Int} {t : Tok} (m : mg x = some (.int n t)) (hd : (x == ("__debug__" : Str)) = false) :
    ∀ {X : Cx} {b : Bs} {pos : Pos}, X.mg = mg → Gl X x → DE X b (.Name x pos) (cW (.int n)) := by
  intro Y b pos e2 g
  exact de_glob (v := .int n) g (by rw [e2]; exact m) ⟨t, rfl⟩ (fun G μ => .int n) hd
theorem c_intK {K : PySem.W.Frag} {h : Heap} {mg : Str → Option Value} (X : K.In h) (G : h.Ns mainGlobals mg) {x : Str} {n : Int} {t : Tok} (a : PySem.W.nsIn K mainGlobals x = some (some (.int n t))) (hd : (x == ("__debug__" : Str)) = false) :
    ∀ {X : Cx} {b : Bs} {pos : Pos}, X.mg = mg → Gl X x → DE X b (.Name x pos) (cW (.int n)) := c_int (PySem.W.mg_of X G a) hd
theorem law_fin {K : PySem.W.Frag} {mg : Str → Option Value} {fa : Addr} (hfa : mg "law" = some (.ref fa)) (T : Txt K mg) :
    ∃ fd : FuncData, (∀ (s : Shared) (u : Value), BindsTo s fd ⟨[u], []⟩ [("script", u)]) ∧ ∀ (P : Program) (w : World) (base : Heap), FnOk P w K mg base (L2.CX P w) 7 fa fd ["script"] (spD K mg m_law) := by
  have e : T.f_law = fa := by
    have q := T.g_law.symm.trans hfa
    cases q; rfl
  refine ⟨T.fd_law, fun s u => ?_, fun P w base => e ▸ ok_law T⟩
  obtain ⟨oc, od, kV, doc, pm, an, cdv, ct, osl, hfd, lk, hcd⟩ := T.F_law.ex
  rw [hfd]
  exact .of_eq rfl
theorem law_start {K : PySem.W.Frag} {mg : Str → Option Value} {H : Hp} {a : Addr} {ns : List Int} (hl : ns.length ≤ 63) (hS : SqL K H a (ns.map V.int)) : spD K mg m_law [.ref a] H (fun v _ => v = .bl true) fun _ _ _ => False := by
  refine ⟨[.rol (ns.map .int)], [], [], H, fun d _ => d = .bl true, .one (.rol hS (Reps.of_ints ns)), ⟨Same.refl _, rfl, List.nodup_nil, fun n a cl h => by simp at h, Stp.refl _ _ _⟩, ?_, fun v H' d S' μ' G' _ _ r q => ?_⟩
  · show m_law [.rol (ns.map .int)] [] _
    simp only [m_law, intsOf_map]
    exact ⟨by omega, trivial, fun _ => trivial⟩
  · subst q
    cases r; rfl
theorem walk_fin {l : PySem.W.OpenLaw} {q : Program} {loose : List Str} {XP : (Str → Option Value) → Heap → Prop} {YP : World → Heap → Prop} {d : DefRec} {K : Params → PySem.W.Frag} (hn : l.most = some 63) (hdf : d.params.defaults = [])
    (hY : ∀ (w : World) (h : Heap), YP w h → (K w.params).In h)
    (F : ∀ (w : World) (mg : Str → Option Value) (fa : Addr) (h : Heap), (K w.params).In h → h.Ns mainGlobals mg → XP mg h → mg d.name = some (.ref fa) →
      ∃ fd : FuncData, (∀ (s : Shared) (u : Value), BindsTo s fd ⟨[u], []⟩ [("script", u)]) ∧ ∀ (P : Program) (w' : World) (base : Heap), FnOk P w' (K w.params) mg base (L2.CX P w') 7 fa fd ["script"] (spD (K w.params) mg m_law)) :
    PySem.W.WalkO q loose XP YP l.row.toRowW d [] (fun f vs => PySem.call f vs) := by
  refine Att.attach_call hn hdf fun w s₀ s₁ mg mb fa o pm cd doc a vs ns G Y ho hd hcd hmg hobj hints hlen hg => ?_
  have KX := hY w _ Y
  obtain ⟨fd, hb, hF⟩ := F w mg fa _ KX G.T.g G.X hmg
  exact law_call KX G.T.g G.T.b G.T.builtins G.T.nolimit hg hobj hints (Nat.le_trans hlen (by decide)) ⟨rfl, by decide, by decide⟩ (fun base _ _ => hF l.prog w base) hb (fun H hO hS => law_start hlen hS) fun H e s' hc => by
    obtain ⟨_, _, _, _, _, _, _, _, _, _, _, _, z⟩ := hc
    exact z
end K41
open PySem PySem.W PyProof.Rows
set_option maxRecDepth 100000 in
set_option maxHeartbeats 0 in
theorem PySem.Challenge.cw_foreseen_k41_whole_rests_holds : PySem.Challenge.rw_foreseen_k41_whole_rests.Holds := by
  w_on; o_law; k_head; (case hw => w_witness2)
  k_fill
  refine K41.walk_fin (l := PySem.Challenge.rw_foreseen_k41_whole_rests) rfl rfl (fun w h Y => PySem.W.kIn_of Y) ?F
  case F =>
    intro w mg fa h KX G XX hmg
    have d_is_rests : K41.DefOk (L2.KOf KX) mg "is_rests" K41.s_is_rests := by
      refine' K41.def_mk KX G ?a ?l ?c ?k
      (case a => k_is); (case l => k_is); (case c => k_is); (case k => k_is)
    have d_divisor : K41.DefOk (L2.KOf KX) mg "divisor" K41.s_divisor := by
      refine' K41.def_mk KX G ?a ?l ?c ?k
      (case a => k_is); (case l => k_is); (case c => k_is); (case k => k_is)
    have d_of : K41.DefOk (L2.KOf KX) mg "of" K41.s_of := by
      refine' K41.def_mk KX G ?a ?l ?c ?k
      (case a => k_is); (case l => k_is); (case c => k_is); (case k => k_is)
    have d_make : K41.DefOk (L2.KOf KX) mg "make" K41.s_make := by
      refine' K41.def_mk KX G ?a ?l ?c ?k
      (case a => k_is); (case l => k_is); (case c => k_is); (case k => k_is)
    have d_tamed : K41.DefOk (L2.KOf KX) mg "tamed" K41.s_tamed := by
      refine' K41.def_mk KX G ?a ?l ?c ?k
      (case a => k_is); (case l => k_is); (case c => k_is); (case k => k_is)
    have d_holds : K41.DefOk (L2.KOf KX) mg "holds" K41.s_holds := by
      refine' K41.def_mk KX G ?a ?l ?c ?k
      (case a => k_is); (case l => k_is); (case c => k_is); (case k => k_is)
    have d_first_from : K41.DefOk (L2.KOf KX) mg "first_from" K41.s_first_from := by
      refine' K41.def_mk KX G ?a ?l ?c ?k
      (case a => k_is); (case l => k_is); (case c => k_is); (case k => k_is)
    have d_last_to : K41.DefOk (L2.KOf KX) mg "last_to" K41.s_last_to := by
      refine' K41.def_mk KX G ?a ?l ?c ?k
      (case a => k_is); (case l => k_is); (case c => k_is); (case k => k_is)
    have d_law_tape : K41.DefOk (L2.KOf KX) mg "_law_tape" K41.s_law_tape := by
      refine' K41.def_mk KX G ?a ?l ?c ?k
      (case a => k_is); (case l => k_is); (case c => k_is); (case k => k_is)
    have d_law_draw : K41.DefOk (L2.KOf KX) mg "_law_draw" K41.s_law_draw := by
      refine' K41.def_mk KX G ?a ?l ?c ?k
      (case a => k_is); (case l => k_is); (case c => k_is); (case k => k_is)
    have d_law_in : K41.DefOk (L2.KOf KX) mg "_law_in" K41.s_law_in := by
      refine' K41.def_mk KX G ?a ?l ?c ?k
      (case a => k_is); (case l => k_is); (case c => k_is); (case k => k_is)
    have d_law_common : K41.DefOk (L2.KOf KX) mg "_law_common" K41.s_law_common := by
      refine' K41.def_mk KX G ?a ?l ?c ?k
      (case a => k_is); (case l => k_is); (case c => k_is); (case k => k_is)
    have d_is_within : K41.DefOk (L2.KOf KX) mg "is_within" K41.s_is_within := by
      refine' K41.def_mk KX G ?a ?l ?c ?k
      (case a => k_is); (case l => k_is); (case c => k_is); (case k => k_is)
    have d_join : K41.DefOk (L2.KOf KX) mg "join" K41.s_join := by
      refine' K41.def_mk KX G ?a ?l ?c ?k
      (case a => k_is); (case l => k_is); (case c => k_is); (case k => k_is)
    have d_meet : K41.DefOk (L2.KOf KX) mg "meet" K41.s_meet := by
      refine' K41.def_mk KX G ?a ?l ?c ?k
      (case a => k_is); (case l => k_is); (case c => k_is); (case k => k_is)
    have d_add : K41.DefOk (L2.KOf KX) mg "add" K41.s_add := by
      refine' K41.def_mk KX G ?a ?l ?c ?k
      (case a => k_is); (case l => k_is); (case c => k_is); (case k => k_is)
    have d_contrary : K41.DefOk (L2.KOf KX) mg "contrary" K41.s_contrary := by
      refine' K41.def_mk KX G ?a ?l ?c ?k
      (case a => k_is); (case l => k_is); (case c => k_is); (case k => k_is)
    have d_multiply : K41.DefOk (L2.KOf KX) mg "multiply" K41.s_multiply := by
      refine' K41.def_mk KX G ?a ?l ?c ?k
      (case a => k_is); (case l => k_is); (case c => k_is); (case k => k_is)
    have d_remainder : K41.DefOk (L2.KOf KX) mg "remainder" K41.s_remainder := by
      refine' K41.def_mk KX G ?a ?l ?c ?k
      (case a => k_is); (case l => k_is); (case c => k_is); (case k => k_is)
    have d_quotient : K41.DefOk (L2.KOf KX) mg "quotient" K41.s_quotient := by
      refine' K41.def_mk KX G ?a ?l ?c ?k
      (case a => k_is); (case l => k_is); (case c => k_is); (case k => k_is)
    have d_led : K41.DefOk (L2.KOf KX) mg "led" K41.s_led := by
      refine' K41.def_mk KX G ?a ?l ?c ?k
      (case a => k_is); (case l => k_is); (case c => k_is); (case k => k_is)
    have d_law_pick : K41.DefOk (L2.KOf KX) mg "_law_pick" K41.s_law_pick := by
      refine' K41.def_mk KX G ?a ?l ?c ?k
      (case a => k_is); (case l => k_is); (case c => k_is); (case k => k_is)
    have d_law_rests : K41.DefOk (L2.KOf KX) mg "_law_rests" K41.s_law_rests := by
      refine' K41.def_mk KX G ?a ?l ?c ?k
      (case a => k_is); (case l => k_is); (case c => k_is); (case k => k_is)
    have d_law_numbers : K41.DefOk (L2.KOf KX) mg "_law_numbers" K41.s_law_numbers := by
      refine' K41.def_mk KX G ?a ?l ?c ?k
      (case a => k_is); (case l => k_is); (case c => k_is); (case k => k_is)
    have d_law_least : K41.DefOk (L2.KOf KX) mg "_law_least" K41.s_law_least := by
      refine' K41.def_mk KX G ?a ?l ?c ?k
      (case a => k_is); (case l => k_is); (case c => k_is); (case k => k_is)
    have d_subtract : K41.DefOk (L2.KOf KX) mg "subtract" K41.s_subtract := by
      refine' K41.def_mk KX G ?a ?l ?c ?k
      (case a => k_is); (case l => k_is); (case c => k_is); (case k => k_is)
    have d_law_same : K41.DefOk (L2.KOf KX) mg "_law_same" K41.s_law_same := by
      refine' K41.def_mk KX G ?a ?l ?c ?k
      (case a => k_is); (case l => k_is); (case c => k_is); (case k => k_is)
    have d_law_reckoned : K41.DefOk (L2.KOf KX) mg "_law_reckoned" K41.s_law_reckoned := by
      refine' K41.def_mk KX G ?a ?l ?c ?k
      (case a => k_is); (case l => k_is); (case c => k_is); (case k => k_is)
    have d_law_led : K41.DefOk (L2.KOf KX) mg "_law_led" K41.s_law_led := by
      refine' K41.def_mk KX G ?a ?l ?c ?k
      (case a => k_is); (case l => k_is); (case c => k_is); (case k => k_is)
    have d_law : K41.DefOk (L2.KOf KX) mg "law" K41.s_law := by
      refine' K41.def_mk KX G ?a ?l ?c ?k
      (case a => k_is); (case l => k_is); (case c => k_is); (case k => k_is)
    have n_abs : mg "abs" = none := by
      refine' PySem.W.mg_none_of KX G ?z
      (case z => k_is)
    have n_all : mg "all" = none := by
      refine' PySem.W.mg_none_of KX G ?z
      (case z => k_is)
    have n_any : mg "any" = none := by
      refine' PySem.W.mg_none_of KX G ?z
      (case z => k_is)
    have n_bool : mg "bool" = none := by
      refine' PySem.W.mg_none_of KX G ?z
      (case z => k_is)
    have n_int : mg "int" = none := by
      refine' PySem.W.mg_none_of KX G ?z
      (case z => k_is)
    have n_isinstance : mg "isinstance" = none := by
      refine' PySem.W.mg_none_of KX G ?z
      (case z => k_is)
    have n_len : mg "len" = none := by
      refine' PySem.W.mg_none_of KX G ?z
      (case z => k_is)
    have n_range : mg "range" = none := by
      refine' PySem.W.mg_none_of KX G ?z
      (case z => k_is)
    have n_str : mg "str" = none := by
      refine' PySem.W.mg_none_of KX G ?z
      (case z => k_is)
    have n_tuple : mg "tuple" = none := by
      refine' PySem.W.mg_none_of KX G ?z
      (case z => k_is)
    obtain ⟨vM, mM, rM⟩ := XX.2.val ("MOST", WData.int 1000000000000000000000000000000000000000000000000000000000000) List.mem_cons_self
    obtain ⟨tM, eM, _⟩ := readsW_int_inv rM
    rw [eM, show (1000000000000000000000000000000000000000000000000000000000000 : Int) = 10 ^ 60 by decide +kernel] at mM
    have c_ALL : ∀ {X : L2.Cx} {b : DL.Bs} {pos : Pos}, X.K = L2.KOf KX → X.mg = mg → L2.Gl X "ALL" → DL.DE X b (Expr.Name "ALL" pos) (DL.cW (.tup [.int 0, .int 1])) := by
      refine' K41.c_all KX G ?a ?l
      (case a => k_is); (case l => k_is)
    have c_STEP : ∀ {X : L2.Cx} {b : DL.Bs} {pos : Pos}, X.mg = mg → L2.Gl X "MOST_STEP" → DL.DE X b (Expr.Name "MOST_STEP" pos) (DL.cW (.int 1000000)) := by
      refine' K41.c_intK KX G ?a (by decide)
      (case a => k_is)
    obtain ⟨T⟩ := K41.txt_mk d_is_rests d_divisor d_of d_make d_tamed d_holds d_first_from d_last_to d_law_tape d_law_draw d_law_in d_law_common d_is_within d_join d_meet d_add d_contrary d_multiply d_remainder d_quotient d_led d_law_pick d_law_rests d_law_numbers d_law_least d_subtract d_law_same d_law_reckoned d_law_led d_law n_abs n_all n_any n_bool n_int n_isinstance n_len n_range n_str n_tuple c_ALL (fun _ e g => K41.c_int (x := "MOST") mM (by decide) e g) (fun _ e g => c_STEP e g)
    exact K41.law_fin hmg T
