import PyProof.Rows.All
import Wide.All
import OpenK.AllK
import Wide.FinOn
import HandS.ForMost
import HandS.Wide
import HandS.IsInst
import HandS.RaiseMore
import PyProof.ReprRoads
import HandS.Conv
import HandS.Zip
import HandS.ForDict
import HandS.Style
import PyProof.CollectIter
import PyProof.WalksMore
import HandS.SetFor
import HandS.NoneIn
import HandS.ExcValue
import HandS.ExcIs
import HandS.TupAny
import HandS.SortInts
import HandS.Defaults
import HandS.MakeKwOnly
import HandS.ExcOwn
import PySem.Challenge.RW_halfknown_k03_moments_and_rows_refused
set_option Elab.async false
set_option linter.all false
set_option maxRecDepth 100000
set_option maxHeartbeats 4000000
/-! Core: a logic of abstract states over the hand layer: slots known by data, cells that may change, all else frozen. -/
namespace Hq
open PySem PySem.Spec PyProof.Rows L2
/-! ### data and cells -/
inductive R where
  | no
  | d (x : PyData)
  | v (x : V)
  /-- the script, or a list of ints of the module -/
  | s (ns : List Int)
  /-- a tuple, part by part -/
  | t (rs : List R)
theorem sameT {K : PySem.W.Frag} {H H' : Hp} {a : Addr} {xs : List V} (e : Same H H') (h : SqT K H a xs) : SqT K H' a xs := by
  rcases h with (h | ⟨o, h⟩) | h
  · exact .inl (.inl (e _ _ h))
  · exact .inl (.inr ⟨o, e _ _ h⟩)
  · exact .inr h
/-! data of any depth, each list and tuple tracked -/
mutual
inductive Dq (F : Hp) : V → PyData → Prop
  | non : Dq F .non .none
  | bl (b : Bool) : Dq F (.bl b) (.bool b)
  | int (i : Int) : Dq F (.int i) (.int i)
  | str (x : Str) : Dq F (.str x) (.str x)
  | lst {a : Addr} {xs : List V} {ds : List PyData} : F a = some (.lst xs) → Dqs F xs ds → Dq F (.ref a) (.list ds)
  | tup {a : Addr} {xs : List V} {ds : List PyData} : F a = some (.tup xs) → Dqs F xs ds → Dq F (.ref a) (.tuple ds)
inductive Dqs (F : Hp) : List V → List PyData → Prop
  | nil : Dqs F [] []
  | cons {v : V} {vs : List V} {d : PyData} {ds : List PyData} : Dq F v d → Dqs F vs ds → Dqs F (v :: vs) (d :: ds)
end
section
variable {K : PySem.W.Frag} {F F' H H' : Hp}
mutual
theorem dq_up (e : Same F F') : ∀ (x : PyData) (v : V), Dq F v x → Dq F' v x
  | .none, _, h => by cases h; exact .non
  | .bool b, _, h => by cases h; exact .bl b
  | .int i, _, h => by cases h; exact .int i
  | .str s, _, h => by cases h; exact .str s
  | .list ds, _, h => by
    cases h with
    | lst h1 h2 => exact .lst (e _ _ h1) (dqs_up e ds _ h2)
  | .tuple ds, _, h => by
    cases h with
    | tup h1 h2 => exact .tup (e _ _ h1) (dqs_up e ds _ h2)
  | .dict _, _, h => by cases h
theorem dqs_up (e : Same F F') : ∀ (ds : List PyData) (vs : List V), Dqs F vs ds → Dqs F' vs ds
  | [], _, h => by cases h; exact .nil
  | d :: ds, _, h => by
    cases h with
    | cons h1 h2 => exact .cons (dq_up e d _ h1) (dqs_up e ds _ h2)
end
mutual
theorem dq_dp : ∀ (x : PyData) (v : V), Dq F v x → Dp K F v x
  | .none, _, h => by cases h; exact .non
  | .bool b, _, h => by cases h; exact .bl b
  | .int i, _, h => by cases h; exact .int i
  | .str s, _, h => by cases h; exact .str s
  | .list ds, _, h => by
    cases h with
    | lst h1 h2 => exact .lst (SqL.of h1) (dqs_dp ds _ h2)
  | .tuple ds, _, h => by
    cases h with
    | tup h1 h2 => exact .tup (SqT.of h1) (dqs_dp ds _ h2)
  | .dict _, _, h => by cases h
theorem dqs_dp : ∀ (ds : List PyData) (vs : List V), Dqs F vs ds → DpAll K F vs ds
  | [], _, h => by cases h; exact .nil
  | d :: ds, _, h => by
    cases h with
    | cons h1 h2 => exact .cons (dq_dp d _ h1) (dqs_dp ds _ h2)
end
mutual
def Rr (K : PySem.W.Frag) (F : Hp) (x : V) : R → Prop
  | .no => True
  | .d p => Dq F x p
  | .v y => x = y
  | .s ns => ∃ a, x = .ref a ∧ SqL K F a (ns.map V.int)
  | .t rs => ∃ a xs, x = .ref a ∧ F a = some (.tup xs) ∧ Rrt K F xs rs
def Rrt (K : PySem.W.Frag) (F : Hp) (xs : List V) : List R → Prop
  | [] => xs = []
  | r :: rs => ∃ y ys, xs = y :: ys ∧ Rr K F y r ∧ Rrt K F ys rs
end
mutual
theorem Rr.up {x : V} {r : R} (e : Same F F') (h : Rr K F x r) : Rr K F' x r := by
  cases r with
  | no => unfold Rr; trivial
  | d p => unfold Rr at h ⊢; exact dq_up e p x h
  | v y => unfold Rr at h ⊢; exact h
  | s ns => unfold Rr at h ⊢; obtain ⟨a, b, c⟩ := h; exact ⟨a, b, e.seq c⟩
  | t rs => unfold Rr at h ⊢; obtain ⟨a, xs, b, c, d⟩ := h; exact ⟨a, xs, b, e _ _ c, Rrt.up e d⟩
theorem Rrt.up {xs : List V} {rs : List R} (e : Same F F') (h : Rrt K F xs rs) : Rrt K F' xs rs := by
  cases rs with
  | nil => unfold Rrt at h ⊢; exact h
  | cons r rs => unfold Rrt at h ⊢; obtain ⟨y, ys, a, b, c⟩ := h; exact ⟨y, ys, a, Rr.up e b, Rrt.up e c⟩
end
abbrev Rrs (K : PySem.W.Frag) (F : Hp) : List V → List R → Prop := Paired (Rr K F)
theorem rrt_rrs : ∀ {xs : List V} {rs : List R}, Rrt K F xs rs → Rrs K F xs rs
  | _, [], h => by unfold Rrt at h; subst h; exact .nil
  | _, r :: rs, h => by unfold Rrt at h; obtain ⟨y, ys, a, b, c⟩ := h; subst a; exact .cons b (rrt_rrs c)
theorem rrs_rrt : ∀ {xs : List V} {rs : List R}, Rrs K F xs rs → Rrt K F xs rs
  | _, [], h => by cases h; unfold Rrt; rfl
  | _, r :: rs, h => by
    cases h with
    | cons a b => unfold Rrt; exact ⟨_, _, rfl, a, rrs_rrt b⟩
theorem rr_d {x : V} {p : PyData} : Rr K F x (.d p) ↔ Dq F x p := by unfold Rr; exact Iff.rfl
theorem rr_v {x y : V} : Rr K F x (.v y) ↔ x = y := by unfold Rr; exact Iff.rfl
theorem rr_s {x : V} {ns : List Int} : Rr K F x (.s ns) ↔ ∃ a, x = .ref a ∧ SqL K F a (ns.map V.int) := by unfold Rr; exact Iff.rfl
theorem rr_t {x : V} {rs : List R} : Rr K F x (.t rs) ↔ ∃ a xs, x = .ref a ∧ F a = some (.tup xs) ∧ Rrs K F xs rs := by
  unfold Rr
  exact ⟨fun ⟨a, xs, b, c, d⟩ => ⟨a, xs, b, c, rrt_rrs d⟩, fun ⟨a, xs, b, c, d⟩ => ⟨a, xs, b, c, rrs_rrt d⟩⟩
theorem Rrs.up {xs : List V} {rs : List R} (e : Same F F') (h : Rrs K F xs rs) : Rrs K F' xs rs := Paired.mono (fun _ _ q => q.up e) h
inductive Cell where
  | lst (rs : List R)
  | ins (C dx : Addr) (fs : List (Str × R))
  | dT (kvs : List (List Key × R))
  | dK (kvs : List (Key × R))
  | raw (o : HO)
def CellOk (K : PySem.W.Frag) (F H : Hp) (p : Addr) : Cell → Prop
  | .lst rs => ∃ xs, H p = some (.lst xs) ∧ Rrs K F xs rs
  | .ins C dx fs => ∃ gs, H p = some (.ins C dx gs) ∧ Paired (fun (a : Str × V) (b : Str × R) => a.1 = b.1 ∧ Rr K F a.2 b.2) gs fs
  | .dT kvs => ∃ gs, H p = some (.dT gs) ∧ Paired (fun (a : List Key × V) (b : List Key × R) => a.1 = b.1 ∧ Rr K F a.2 b.2) gs kvs
  | .dK kvs => ∃ gs, H p = some (.dK gs) ∧ Paired (fun (a : Key × V) (b : Key × R) => a.1 = b.1 ∧ Rr K F a.2 b.2) gs kvs
  | .raw o => H p = some o
abbrev Mem := List (Addr × Cell)
abbrev ads (M : Mem) : List Addr := M.map (·.1)
theorem CellOk.up {p : Addr} {c : Cell} (e : Same F F') (hp : H' p = H p) (h : CellOk K F H p c) : CellOk K F' H' p c := by
  cases c with
  | lst rs => obtain ⟨xs, a, b⟩ := h; exact ⟨xs, hp.trans a, b.up e⟩
  | ins C dx fs => obtain ⟨xs, a, b⟩ := h; exact ⟨xs, hp.trans a, Paired.mono (fun _ _ q => ⟨q.1, q.2.up e⟩) b⟩
  | dT kvs => obtain ⟨xs, a, b⟩ := h; exact ⟨xs, hp.trans a, Paired.mono (fun _ _ q => ⟨q.1, q.2.up e⟩) b⟩
  | dK kvs => obtain ⟨xs, a, b⟩ := h; exact ⟨xs, hp.trans a, Paired.mono (fun _ _ q => ⟨q.1, q.2.up e⟩) b⟩
  | raw o => exact hp.trans h
theorem CellOk.here {p : Addr} {c : Cell} (h : CellOk K F H p c) : ∃ o, H p = some o := by
  cases c with
  | lst rs => obtain ⟨xs, a, b⟩ := h; exact ⟨_, a⟩
  | ins C dx fs => obtain ⟨xs, a, b⟩ := h; exact ⟨_, a⟩
  | dT kvs => obtain ⟨xs, a, b⟩ := h; exact ⟨_, a⟩
  | dK kvs => obtain ⟨xs, a, b⟩ := h; exact ⟨_, a⟩
  | raw o => exact ⟨_, h⟩
structure Ms (K : PySem.W.Frag) (M : Mem) (F H : Hp) : Prop where
  ex : Same F H
  mem : ∀ p c, (p, c) ∈ M → F p = none ∧ CellOk K F H p c
  nd : (ads M).Nodup
structure Go (M : Mem) (F H : Hp) (M' : Mem) (F' H' : Hp) : Prop where
  ex : Same F F'
  fr : ∀ p o, H p = some o → p ∉ ads M → H' p = some o
  nf : ∀ p o, H p = some o → F p = none → p ∉ ads M → F' p = none
  nw : ∀ p, p ∈ ads M' → p ∈ ads M ∨ H p = none
end
section
variable {K : PySem.W.Frag} {M M' M1 M2 : Mem} {F F' F1 F2 H H' H1 H2 : Hp}
theorem Go.refl : Go M F H M F H := ⟨Same.refl F, fun _ _ h _ => h, fun _ _ _ h _ => h, fun _ h => .inl h⟩
theorem Go.trans (a : Go M F H M1 F1 H1) (b : Go M1 F1 H1 M2 F2 H2) : Go M F H M2 F2 H2 := by
  have out : ∀ p o, H p = some o → p ∉ ads M → p ∉ ads M1 := fun p o h n z => (a.nw p z).elim n fun q => by rw [h] at q; cases q
  refine ⟨a.ex.trans b.ex, fun p o h n => b.fr p o (a.fr p o h n) (out p o h n), fun p o h f n => b.nf p o (a.fr p o h n) (a.nf p o h f n) (out p o h n), fun p h => ?_⟩
  rcases b.nw p h with z | z
  · exact a.nw p z
  · cases q : H p with
    | none => exact .inr rfl
    | some o =>
      by_cases m : p ∈ ads M
      · exact .inl m
      · rw [a.fr p o q m] at z; cases z
/-- a new object that is frozen at once -/
theorem Ms.newF {p : Addr} {o : HO} (m : Ms K M F H) (np : H p = none) : Ms K M (upd F p o) (upd H p o) ∧ Go M F H M (upd F p o) (upd H p o) := by
  have nF : F p = none := m.ex.free np
  have sF : Same F (upd F p o) := fun b u e => by rw [upd_ne (ne_of_none e nF)]; exact e
  have nM : ∀ q c, (q, c) ∈ M → q ≠ p := fun q c h e => by
    obtain ⟨u, hu⟩ := (m.mem q c h).2.here
    rw [e, np] at hu; cases hu
  refine ⟨⟨fun b u e => ?_, fun q c h => ?_, m.nd⟩, ⟨sF, fun q u h _ => by rw [upd_ne (ne_of_none h np)]; exact h, fun q u h f _ => by rw [upd_ne (ne_of_none h np)]; exact f, fun _ h => .inl h⟩⟩
  · by_cases hb : b = p
    · subst hb; rw [upd_same] at e ⊢; exact e
    · rw [upd_ne hb] at e ⊢; exact m.ex b u e
  · have hq := nM q c h
    exact ⟨by rw [upd_ne hq]; exact (m.mem q c h).1, (m.mem q c h).2.up sF (upd_ne hq)⟩
/-- a new object that stays open: a cell -/
theorem Ms.newC {A B : Mem} {p : Addr} {o : HO} {c : Cell} (m : Ms K (A ++ B) F H) (np : H p = none) (hc : CellOk K F (upd H p o) p c) :
    Ms K (A ++ (p, c) :: B) F (upd H p o) ∧ Go (A ++ B) F H (A ++ (p, c) :: B) F (upd H p o) := by
  have nF : F p = none := m.ex.free np
  have nM : ∀ q c, (q, c) ∈ A ++ B → q ≠ p := fun q c h e => by
    obtain ⟨u, hu⟩ := (m.mem q c h).2.here
    rw [e, np] at hu; cases hu
  have nA : p ∉ ads (A ++ B) := fun h => by
    obtain ⟨⟨q, c⟩, h1, h2⟩ := List.mem_map.mp h
    exact nM q c h1 h2
  refine ⟨⟨fun b u e => by rw [upd_ne (ne_of_none e nF)]; exact m.ex b u e, fun q c' h => ?_, ?_⟩, ⟨Same.refl F, fun q u h _ => by rw [upd_ne (ne_of_none h np)]; exact h, fun q u h f _ => f, fun q h => ?_⟩⟩
  · rcases List.mem_append.mp h with h | h
    · have z := List.mem_append_left B h
      exact ⟨(m.mem q c' z).1, (m.mem q c' z).2.up (Same.refl F) (upd_ne (nM q c' z))⟩
    · rcases List.mem_cons.mp h with h | h
      · cases h; exact ⟨nF, hc⟩
      · have z := List.mem_append_right A h
        exact ⟨(m.mem q c' z).1, (m.mem q c' z).2.up (Same.refl F) (upd_ne (nM q c' z))⟩
  · have nd := m.nd
    simp only [ads, List.map_append, List.map_cons] at nd nA ⊢
    rw [List.nodup_append] at nd ⊢
    obtain ⟨n1, n2, n3⟩ := nd
    rw [List.mem_append, not_or] at nA
    refine ⟨n1, List.nodup_cons.mpr ⟨nA.2, n2⟩, fun a ha b hb => ?_⟩
    rcases List.mem_cons.mp hb with rfl | hb
    · exact fun e => nA.1 (e ▸ ha)
    · exact n3 a ha b hb
  · simp only [ads, List.map_append, List.map_cons, List.mem_append, List.mem_cons] at h ⊢
    rcases h with h | rfl | h
    · exact .inl (.inl h)
    · exact .inr np
    · exact .inl (.inr h)
/-- a cell is written -/
theorem Ms.write {A B : Mem} {p : Addr} {o : HO} {c c' : Cell} (m : Ms K (A ++ (p, c) :: B) F H) (hc : CellOk K F (upd H p o) p c') :
    Ms K (A ++ (p, c') :: B) F (upd H p o) ∧ Go (A ++ (p, c) :: B) F H (A ++ (p, c') :: B) F (upd H p o) := by
  have ead : ads (A ++ (p, c') :: B) = ads (A ++ (p, c) :: B) := by simp [ads]
  have nF : F p = none := (m.mem p c (by simp)).1
  have nM : ∀ q c2, (q, c2) ∈ A ∨ (q, c2) ∈ B → q ≠ p := fun q c2 h e => by
    have nd := m.nd
    simp only [ads, List.map_append, List.map_cons] at nd
    rw [List.nodup_append] at nd
    obtain ⟨n1, n2, n3⟩ := nd
    rcases h with h | h
    · exact n3 q (List.mem_map.mpr ⟨_, h, rfl⟩) p (by simp) e
    · exact (List.nodup_cons.mp n2).1 (List.mem_map.mpr ⟨_, h, e⟩)
  refine ⟨⟨fun b u e => by rw [upd_ne (ne_of_none e nF)]; exact m.ex b u e, fun q c2 h => ?_, by rw [ead]; exact m.nd⟩, ⟨Same.refl F, fun q u h n => ?_, fun q u h f _ => f, fun q h => .inl (by rw [← ead]; exact h)⟩⟩
  · rcases List.mem_append.mp h with h | h
    · have z := m.mem q c2 (List.mem_append_left _ h)
      exact ⟨z.1, z.2.up (Same.refl F) (upd_ne (nM q c2 (.inl h)))⟩
    · rcases List.mem_cons.mp h with h | h
      · cases h; exact ⟨nF, hc⟩
      · have z := m.mem q c2 (List.mem_append_right _ (List.mem_cons_of_mem _ h))
        exact ⟨z.1, z.2.up (Same.refl F) (upd_ne (nM q c2 (.inr h)))⟩
  · rw [upd_ne (fun e => n (by rw [e]; simp [ads]))]
    exact h
/-- cells forgotten -/
theorem Ms.drop (m : Ms K M F H) (h : M'.Sublist M) : Ms K M' F H ∧ Go M F H M' F H :=
  ⟨⟨m.ex, fun p c q => m.mem p c (h.subset q), (h.map _).nodup m.nd⟩, ⟨Same.refl F, fun _ _ q _ => q, fun _ _ _ f _ => f, fun p q => .inl ((h.map _).subset q)⟩⟩
/-- cells in another order -/
theorem Ms.perm (m : Ms K M F H) (h : M'.Perm M) : Ms K M' F H ∧ Go M F H M' F H :=
  ⟨⟨m.ex, fun p c q => m.mem p c (h.subset q), (h.map _).nodup_iff.mpr m.nd⟩, ⟨Same.refl F, fun _ _ q _ => q, fun _ _ _ f _ => f, fun p q => .inl ((h.map _).subset q)⟩⟩
/-- a cell frozen -/
theorem Ms.freeze {A B : Mem} {p : Addr} {c : Cell} {o : HO} (m : Ms K (A ++ (p, c) :: B) F H) (hp : H p = some o) : Ms K (A ++ B) (upd F p o) H ∧ Go (A ++ (p, c) :: B) F H (A ++ B) (upd F p o) H := by
  have nF : F p = none := (m.mem p c (by simp)).1
  have sF : Same F (upd F p o) := fun b u e => by rw [upd_ne (ne_of_none e nF)]; exact e
  have nd := m.nd
  simp only [ads, List.map_append, List.map_cons] at nd
  rw [List.nodup_append] at nd
  obtain ⟨n1, n2, n3⟩ := nd
  have nM : ∀ q c2, (q, c2) ∈ A ∨ (q, c2) ∈ B → q ≠ p := fun q c2 h e => by
    rcases h with h | h
    · exact n3 q (List.mem_map.mpr ⟨_, h, rfl⟩) p (by simp) e
    · exact (List.nodup_cons.mp n2).1 (List.mem_map.mpr ⟨_, h, e⟩)
  have sub : (A ++ B).Sublist (A ++ (p, c) :: B) := List.Sublist.append_left (List.sublist_cons_self _ _) A
  refine ⟨⟨fun b u e => ?_, fun q c2 h => ?_, (sub.map _).nodup m.nd⟩, ⟨sF, fun q u h _ => h, fun q u h f n => ?_, fun q h => .inl ((sub.map _).subset h)⟩⟩
  · by_cases hb : b = p
    · subst hb; rw [upd_same] at e; cases e; exact hp
    · rw [upd_ne hb] at e; exact m.ex b u e
  · have z := m.mem q c2 (sub.subset h)
    exact ⟨by rw [upd_ne (nM q c2 (List.mem_append.mp h))]; exact z.1, z.2.up sF rfl⟩
  · rw [upd_ne (fun e => n (by rw [e]; simp [ads]))]
    exact f
/-! ### slots -/
def Sl (K : PySem.W.Frag) (F : Hp) (σ : L2.St) (ds : List R) : Prop := σ.length = ds.length ∧ ∀ (i : Nat) (r : R), ds[i]? = some r → r ≠ R.no → ∃ v, σ[i]? = some (some v) ∧ Rr K F v r
theorem Sl.up {σ : L2.St} {ds : List R} (e : Same F F') (h : Sl K F σ ds) : Sl K F' σ ds := ⟨h.1, fun i r a b => let ⟨v, p, q⟩ := h.2 i r a b; ⟨v, p, q.up e⟩⟩
theorem Sl.set {σ : L2.St} {ds : List R} {i : Nat} {v : V} {r : R} (h : Sl K F σ ds) (q : Rr K F v r) : Sl K F (σ.set i (some v)) (ds.set i r) := by
  refine ⟨by simp [h.1], fun j r' a b => ?_⟩
  by_cases hj : i = j
  · subst hj
    by_cases hl : i < ds.length
    · rw [List.getElem?_set_self hl] at a
      cases a
      exact ⟨v, by rw [List.getElem?_set_self (by rw [h.1]; exact hl)], q⟩
    · rw [List.getElem?_eq_none (by simpa using hl)] at a; cases a
  · rw [List.getElem?_set_ne hj] at a ⊢
    exact h.2 j r' a b
/-- slots forgotten -/
def Wk : List R → List R → Prop
  | [], [] => True
  | a :: as, b :: bs => (b = .no ∨ a = b) ∧ Wk as bs
  | _, _ => False
theorem Wk.refl : ∀ ds : List R, Wk ds ds
  | [] => trivial
  | _ :: r => ⟨.inr rfl, Wk.refl r⟩
theorem Wk.spec : ∀ {ds ds' : List R}, Wk ds ds' → ds.length = ds'.length ∧ ∀ (i : Nat) (r : R), ds'[i]? = some r → r ≠ R.no → ds[i]? = some r
  | [], [], _ => ⟨rfl, fun i r a _ => a⟩
  | a :: as, b :: bs, h => by
    obtain ⟨h1, h2⟩ := h
    obtain ⟨l, s⟩ := Wk.spec h2
    refine ⟨by simp [l], fun i r e n => ?_⟩
    cases i with
    | zero =>
      have e' : b = r := by simpa using e
      subst e'
      rcases h1 with z | z
      · exact absurd z n
      · simp [z]
    | succ i => simpa using s i r (by simpa using e) n
  | [], _ :: _, h => h.elim
  | _ :: _, [], h => h.elim
theorem Sl.weak {σ : L2.St} {ds ds' : List R} (h : Sl K F σ ds) (w : Wk ds ds') : Sl K F σ ds' := by
  obtain ⟨l, s⟩ := w.spec
  exact ⟨h.1.trans l, fun i r a b => h.2 i r (s i r a b) b⟩
structure Sta (K : PySem.W.Frag) (σ : L2.St) (ds : List R) (M : Mem) (F H : Hp) : Prop where
  sl : Sl K F σ ds
  ms : Ms K M F H
theorem Sta.go {σ : L2.St} {ds : List R} (s : Sta K σ ds M F H) (g : Go M F H M' F' H') (m : Ms K M' F' H') : Sta K σ ds M' F' H' := ⟨s.sl.up g.ex, m⟩
/-! ### what comes of an expression -/
def Out (K : PySem.W.Frag) (M : Mem) (F H : Hp) (Q : R → Mem → Prop) : VK := fun v H' => ∃ F' M' r, Rr K F' v r ∧ Q r M' ∧ Ms K M' F' H' ∧ Go M F H M' F' H'
theorem Out.trans {Q : R → Mem → Prop} {v : V} {H2 : Hp} (g : Go M F H M1 F1 H1) (h : Out K M1 F1 H1 Q v H2) : Out K M F H Q v H2 := by
  obtain ⟨F', M', r, a, b, c, d⟩ := h
  exact ⟨F', M', r, a, b, c, g.trans d⟩
theorem Out.mk0 {Q : R → Mem → Prop} {v : V} {r : R} (m : Ms K M F H) (a : Rr K F v r) (q : Q r M) : Out K M F H Q v H := ⟨F, M, r, a, q, m, Go.refl⟩
theorem Out.mk {Q : R → Mem → Prop} {v : V} {r : R} (m : Ms K M' F' H' ∧ Go M F H M' F' H') (a : Rr K F' v r) (q : Q r M') : Out K M F H Q v H' := ⟨F', M', r, a, q, m.1, m.2⟩
end
/-! ### the canonical readings -/
def cE (X : Cx) (e : Expr) : TE := fun σ H Q => ∀ pins s, Inv X pins σ H s → wpAny (model X.prog X.w) X.A (eval e X.env) (EP X pins σ Q) X.xe s
def cT (X : Cx) (e : Expr) : TT := fun σ H Q => ∀ pins s, Inv X pins σ H s → wpAny (model X.prog X.w) X.A (isTrue e X.env (eval e X.env)) (TP X pins σ Q) X.xe s
def cA (X : Cx) (es : List Expr) : TA := fun σ H Q => ∀ pos pins s, Inv X pins σ H s → wpAny (model X.prog X.w) X.A (spliced (backTo pos (starEach es X.env))) (AP X pins σ Q) X.xe s
def cS (X : Cx) (st : Stmt) : TS := fun D σ H => ∀ pins s, Inv X pins σ H s → wpAny (model X.prog X.w) X.A (exec st X.env) (SP X pins D) X.xe s
def cB (X : Cx) (st : List Stmt) : TS := fun D σ H => ∀ pins s, Inv X pins σ H s → wpAny (model X.prog X.w) X.A (execs st X.env) (SP X pins D) X.xe s
def cG (X : Cx) (tg : Expr) : TG := fun v σ H Q => ∀ pins s u, Inv X pins σ H s → RelV v u → wpAny (model X.prog X.w) X.A (assign tg X.env u) (fun _ s' => ∃ σ' H', Inv X pins σ' H' s' ∧ Q σ' H') X.xe s
def cI (X : Cx) (tg iter : Expr) : TI := fun σ H R => ∀ pins s, Inv X pins σ H s → wpAny (model X.prog X.w) X.A (eval iter X.env) (fun v s1 => wpAny (model X.prog X.w) X.A (pyIter v) (PIE X pins σ tg R) X.xe s1) X.xe s
def cO (X : Cx) (e : Option Expr) : TO := fun σ H Q => ∀ pins s, Inv X pins σ H s → wpAny (model X.prog X.w) X.A (evalPart e X.env) (fun u s' => ∃ o H', Inv X pins σ H' s' ∧ IsPart u o ∧ Q o H') X.xe s
def cK (X : Cx) (kws : List Keyword) : TA := fun σ H Q => ∀ pos pins s, Inv X pins σ H s → wpAny (model X.prog X.w) X.A (evalAll ((backToKw pos (keywordEach kws X.env)).map (·.2))) (AP X pins σ Q) X.xe s
def cTs (X : Cx) (ifs : List Expr) : TT := fun σ H Q => ∀ pins s, Inv X pins σ H s →
    wpAny (model X.prog X.w) X.A (forIn ifs true fun c r => if r = true then do let ok ← isTrue c X.env (eval c X.env); pure (ForInStep.yield ok) else pure (ForInStep.yield r)) (TP X pins σ Q) X.xe s
section
variable {X : Cx}
theorem peC (e : Expr) : PE X e (cE X e) := ⟨fun pins s _ _ _ I h => h pins s I⟩
theorem ptC (e : Expr) : PT X e (cT X e) := ⟨fun pins s _ _ _ I h => h pins s I⟩
theorem paC (es : List Expr) : PA X es (cA X es) := ⟨fun pos pins s _ _ _ I h => h pos pins s I⟩
theorem psC (st : Stmt) : PS X st (cS X st) := ⟨fun pins s _ _ _ I h => h pins s I⟩
theorem pbC (st : List Stmt) : PSs X st (cB X st) := ⟨fun pins s _ _ _ I h => h pins s I⟩
theorem pgC (tg : Expr) : PG X tg (cG X tg) := ⟨fun pins s _ _ _ u _ I r h => h pins s u I r⟩
theorem piC (tg iter : Expr) : PI X tg iter (cI X tg iter) := ⟨fun pins s _ _ _ I h => h pins s I⟩
theorem poC (e : Option Expr) : PO X e (cO X e) := ⟨fun pins s _ _ _ I h => h pins s I⟩
theorem pkC (kws : List Keyword) : PK X kws (cK X kws) := ⟨fun pos pins s _ _ _ I h => h pos pins s I⟩
theorem ptsC (ifs : List Expr) : PTs X ifs (cTs X ifs) := ⟨fun pins s _ _ _ I h => h pins s I⟩
variable {σ : L2.St} {H : Hp}
theorem cE_mono {e : Expr} {Q Q' : VK} (h : cE X e σ H Q) (q : ∀ v H', Q v H' → Q' v H') : cE X e σ H Q' := fun pins s I => thn (h pins s I) fun _ _ ⟨v, H', I', r, z⟩ => ⟨v, H', I', r, q v H' z⟩
theorem cT_mono {e : Expr} {Q Q' : Bool → Hp → Prop} (h : cT X e σ H Q) (q : ∀ v H', Q v H' → Q' v H') : cT X e σ H Q' := fun pins s I => thn (h pins s I) fun _ _ ⟨H', I', z⟩ => ⟨H', I', q _ H' z⟩
theorem cA_mono {es : List Expr} {Q Q' : List V → Hp → Prop} (h : cA X es σ H Q) (q : ∀ v H', Q v H' → Q' v H') : cA X es σ H Q' := fun pos pins s I => thn (h pos pins s I) fun _ _ ⟨v, H', I', r, z⟩ => ⟨v, H', I', r, q v H' z⟩
theorem cK_mono {ks : List Keyword} {Q Q' : List V → Hp → Prop} (h : cK X ks σ H Q) (q : ∀ v H', Q v H' → Q' v H') : cK X ks σ H Q' := fun pos pins s I => thn (h pos pins s I) fun _ _ ⟨v, H', I', r, z⟩ => ⟨v, H', I', r, q v H' z⟩
theorem cO_mono {e : Option Expr} {Q Q' : Option Int → Hp → Prop} (h : cO X e σ H Q) (q : ∀ v H', Q v H' → Q' v H') : cO X e σ H Q' := fun pins s I => thn (h pins s I) fun _ _ ⟨v, H', I', r, z⟩ => ⟨v, H', I', r, q v H' z⟩
theorem cTs_mono {ifs : List Expr} {Q Q' : Bool → Hp → Prop} (h : cTs X ifs σ H Q) (q : ∀ v H', Q v H' → Q' v H') : cTs X ifs σ H Q' := fun pins s I => thn (h pins s I) fun _ _ ⟨H', I', z⟩ => ⟨H', I', q _ H' z⟩
theorem cI_mono {tg iter : Expr} {Q Q' : It → Hp → Prop} (h : cI X tg iter σ H Q) (q : ∀ v H', Q v H' → Q' v H') : cI X tg iter σ H Q' := fun pins s I => thn (h pins s I) fun _ _ z => thn z fun _ _ ⟨it, fp, tn, J, H', e, I2, T, st, f, z⟩ => ⟨it, fp, tn, J, H', e, I2, T, st, f, q J H' z⟩
theorem cG_mono {tg : Expr} {x : V} {Q Q' : L2.St → Hp → Prop} (h : cG X tg x σ H Q) (q : ∀ v H', Q v H' → Q' v H') : cG X tg x σ H Q' := fun pins s u I r => thn (h pins s u I r) fun _ _ ⟨v, H', I', z⟩ => ⟨v, H', I', q v H' z⟩
/-- weaker ends -/
structure Ends.Le (D D' : Ends) : Prop where
  nx : ∀ σ H, D.nx σ H → D'.nx σ H
  rt : ∀ v H, D.rt v H → D'.rt v H
  bk : ∀ σ H, D.bk σ H → D'.bk σ H
  ct : ∀ σ H, D.ct σ H → D'.ct σ H
theorem sp_mono {pins : List (Addr × Obj)} {D D' : Ends} {f : Flow} {s' : Shared} (h : SP X pins D f s') (q : Ends.Le D D') : SP X pins D' f s' := by
  cases f with
  | next => obtain ⟨σ', H', I, z⟩ := h; exact ⟨σ', H', I, q.nx _ _ z⟩
  | brk => obtain ⟨σ', H', I, z⟩ := h; exact ⟨σ', H', I, q.bk _ _ z⟩
  | cont => obtain ⟨σ', H', I, z⟩ := h; exact ⟨σ', H', I, q.ct _ _ z⟩
  | ret u => obtain ⟨v, σ', H', I, r, z⟩ := h; exact ⟨v, σ', H', I, r, q.rt _ _ z⟩
theorem cS_mono {st : Stmt} {D D' : Ends} (h : cS X st D σ H) (q : Ends.Le D D') : cS X st D' σ H := fun pins s I => thn (h pins s I) fun _ _ z => sp_mono z q
theorem cB_mono {st : List Stmt} {D D' : Ends} (h : cB X st D σ H) (q : Ends.Le D D') : cB X st D' σ H := fun pins s I => thn (h pins s I) fun _ _ z => sp_mono z q
end
/-! ### the judgements -/
section
variable (K : PySem.W.Frag)
def OutB (M : Mem) (F H : Hp) (Q : Bool → Mem → Prop) : Bool → Hp → Prop := fun b H' => ∃ F' M', Q b M' ∧ Ms K M' F' H' ∧ Go M F H M' F' H'
def OutA (M : Mem) (F H : Hp) (Q : List R → Mem → Prop) : List V → Hp → Prop := fun vs H' => ∃ F' M' rs, Rrs K F' vs rs ∧ Q rs M' ∧ Ms K M' F' H' ∧ Go M F H M' F' H'
def OutO (M : Mem) (F H : Hp) (Q : Option Int → Mem → Prop) : Option Int → Hp → Prop := fun b H' => ∃ F' M', Q b M' ∧ Ms K M' F' H' ∧ Go M F H M' F' H'
def OutS (M : Mem) (F H : Hp) (Q : List R → Mem → Prop) : L2.St → Hp → Prop := fun σ' H' => ∃ F' M' ds', Sl K F' σ' ds' ∧ Q ds' M' ∧ Ms K M' F' H' ∧ Go M F H M' F' H'
end
/-- what is to hold at a statement's ends -/
structure Po where
  nx : List R → Mem → Prop
  rt : R → Mem → Prop
  bk : List R → Mem → Prop := fun _ _ => False
  ct : List R → Mem → Prop := fun _ _ => False
def OutD (K : PySem.W.Frag) (M : Mem) (F H : Hp) (D : Po) : Ends := ⟨OutS K M F H D.nx, Out K M F H D.rt, OutS K M F H D.bk, OutS K M F H D.ct⟩
def EX (X : Cx) (e : Expr) (ds : List R) (M : Mem) (Q : R → Mem → Prop) : Prop := ∀ σ F H, Sta X.K σ ds M F H → cE X e σ H (Out X.K M F H Q)
def TX (X : Cx) (e : Expr) (ds : List R) (M : Mem) (Q : Bool → Mem → Prop) : Prop := ∀ σ F H, Sta X.K σ ds M F H → cT X e σ H (OutB X.K M F H Q)
def AX (X : Cx) (es : List Expr) (ds : List R) (M : Mem) (Q : List R → Mem → Prop) : Prop := ∀ σ F H, Sta X.K σ ds M F H → cA X es σ H (OutA X.K M F H Q)
def KX (X : Cx) (ks : List Keyword) (ds : List R) (M : Mem) (Q : List R → Mem → Prop) : Prop := ∀ σ F H, Sta X.K σ ds M F H → cK X ks σ H (OutA X.K M F H Q)
def OX (X : Cx) (e : Option Expr) (ds : List R) (M : Mem) (Q : Option Int → Mem → Prop) : Prop := ∀ σ F H, Sta X.K σ ds M F H → cO X e σ H (OutO X.K M F H Q)
def TsX (X : Cx) (es : List Expr) (ds : List R) (M : Mem) (Q : Bool → Mem → Prop) : Prop := ∀ σ F H, Sta X.K σ ds M F H → cTs X es σ H (OutB X.K M F H Q)
def GX (X : Cx) (tg : Expr) (r : R) (ds : List R) (M : Mem) (Q : List R → Mem → Prop) : Prop := ∀ σ F H v, Sta X.K σ ds M F H → Rr X.K F v r → cG X tg v σ H (OutS X.K M F H Q)
def BX (X : Cx) (st : List Stmt) (ds : List R) (M : Mem) (D : Po) : Prop := ∀ σ F H, Sta X.K σ ds M F H → cB X st (OutD X.K M F H D) σ H
def SX (X : Cx) (st : Stmt) (ds : List R) (M : Mem) (D : Po) : Prop := ∀ σ F H, Sta X.K σ ds M F H → cS X st (OutD X.K M F H D) σ H
/-- with one end alone -/
def DX (X : Cx) (e : Expr) (ds : List R) (M : Mem) (r : R) (M' : Mem) : Prop := ∀ Q : R → Mem → Prop, Q r M' → EX X e ds M Q
def DT (X : Cx) (e : Expr) (ds : List R) (M : Mem) (b : Bool) (M' : Mem) : Prop := ∀ Q : Bool → Mem → Prop, Q b M' → TX X e ds M Q
def DA (X : Cx) (es : List Expr) (ds : List R) (M : Mem) (rs : List R) (M' : Mem) : Prop := ∀ Q : List R → Mem → Prop, Q rs M' → AX X es ds M Q
def DK (X : Cx) (es : List Keyword) (ds : List R) (M : Mem) (rs : List R) (M' : Mem) : Prop := ∀ Q : List R → Mem → Prop, Q rs M' → KX X es ds M Q
def DO (X : Cx) (e : Option Expr) (ds : List R) (M : Mem) (o : Option Int) (M' : Mem) : Prop := ∀ Q : Option Int → Mem → Prop, Q o M' → OX X e ds M Q
section
variable {X : Cx} {e a b c : Expr} {es : List Expr} {ds : List R} {M M1 M2 : Mem} {pos p : Pos}
theorem EX.mono {Q Q' : R → Mem → Prop} (h : EX X e ds M Q) (q : ∀ r M', Q r M' → Q' r M') : EX X e ds M Q' := fun σ F H s => cE_mono (h σ F H s) fun v H' ⟨F', M', r, a, b, c, d⟩ => ⟨F', M', r, a, q r M' b, c, d⟩
theorem TX.mono {Q Q' : Bool → Mem → Prop} (h : TX X e ds M Q) (q : ∀ r M', Q r M' → Q' r M') : TX X e ds M Q' := fun σ F H s => cT_mono (h σ F H s) fun v H' ⟨F', M', b, c, d⟩ => ⟨F', M', q v M' b, c, d⟩
theorem AX.mono {Q Q' : List R → Mem → Prop} (h : AX X es ds M Q) (q : ∀ r M', Q r M' → Q' r M') : AX X es ds M Q' := fun σ F H s => cA_mono (h σ F H s) fun v H' ⟨F', M', r, a, b, c, d⟩ => ⟨F', M', r, a, q r M' b, c, d⟩
theorem outS_mono {K : PySem.W.Frag} {F H : Hp} {Q Q' : List R → Mem → Prop} (q : ∀ r M', Q r M' → Q' r M') : ∀ σ H', OutS K M F H Q σ H' → OutS K M F H Q' σ H' := fun σ H' ⟨F', M', r, a, b, c, d⟩ => ⟨F', M', r, a, q r M' b, c, d⟩
theorem BX.mono {st : List Stmt} {D D' : Po} (h : BX X st ds M D) (n : ∀ r M', D.nx r M' → D'.nx r M') (r : ∀ r M', D.rt r M' → D'.rt r M') (b : ∀ r M', D.bk r M' → D'.bk r M') (c : ∀ r M', D.ct r M' → D'.ct r M') : BX X st ds M D' :=
  fun σ F H s => cB_mono (h σ F H s) ⟨outS_mono n, fun v H' ⟨F', M', x, a, b, c, d⟩ => ⟨F', M', x, a, r x M' b, c, d⟩, outS_mono b, outS_mono c⟩
theorem DX.of {r : R} (h : ∀ Q : R → Mem → Prop, Q r M1 → EX X e ds M Q) : DX X e ds M r M1 := h
/-- an expression by its rule in the hand layer -/
theorem ex_pe {t : TE} {Q : R → Mem → Prop} (h : PE X e t) (q : ∀ σ F H, Sta X.K σ ds M F H → t σ H (Out X.K M F H Q)) : EX X e ds M Q := fun σ F H s pins sh I => h.run pins sh σ H _ I (q σ F H s)
theorem tx_pt {t : TT} {Q : Bool → Mem → Prop} (h : PT X e t) (q : ∀ σ F H, Sta X.K σ ds M F H → t σ H (OutB X.K M F H Q)) : TX X e ds M Q := fun σ F H s pins sh I => h.run pins sh σ H _ I (q σ F H s)
theorem ax_pa {t : TA} {Q : List R → Mem → Prop} (h : PA X es t) (q : ∀ σ F H, Sta X.K σ ds M F H → t σ H (OutA X.K M F H Q)) : AX X es ds M Q := fun σ F H s pos pins sh I => h.run pos pins sh σ H _ I (q σ F H s)
theorem sx_ps {st : Stmt} {t : TS} {D : Po} (h : PS X st t) (q : ∀ σ F H, Sta X.K σ ds M F H → t (OutD X.K M F H D) σ H) : SX X st ds M D := fun σ F H s pins sh I => h.run pins sh σ H _ I (q σ F H s)
theorem bx_pss {st : List Stmt} {t : TS} {D : Po} (h : PSs X st t) (q : ∀ σ F H, Sta X.K σ ds M F H → t (OutD X.K M F H D) σ H) : BX X st ds M D := fun σ F H s pins sh I => h.run pins sh σ H _ I (q σ F H s)
theorem gx_pg {t : TG} {r : R} {Q : List R → Mem → Prop} (h : PG X e t) (q : ∀ σ F H v, Sta X.K σ ds M F H → Rr X.K F v r → t v σ H (OutS X.K M F H Q)) : GX X e r ds M Q := fun σ F H v s z pins sh u I w => h.run pins sh σ H v u _ I w (q σ F H v s z)
/-- the ends of a run that begins later -/
theorem outD_go {K : PySem.W.Frag} {F H F1 H1 : Hp} {D : Po} (g : Go M F H M1 F1 H1) : Ends.Le (OutD K M1 F1 H1 D) (OutD K M F H D) :=
  ⟨fun _ _ ⟨F', M', ds', a, b, c, d⟩ => ⟨F', M', ds', a, b, c, g.trans d⟩, fun _ _ h => Out.trans g h, fun _ _ ⟨F', M', ds', a, b, c, d⟩ => ⟨F', M', ds', a, b, c, g.trans d⟩, fun _ _ ⟨F', M', ds', a, b, c, d⟩ => ⟨F', M', ds', a, b, c, g.trans d⟩⟩
end
def notStar : Expr → Bool
  | .Starred .. => false
  | _ => true
theorem st_any {e : Expr} {es : List Expr} {env : Env} (h : notStar e = true) : starEach (e :: es) env = (false, eval e env) :: starEach es env := by
  cases e <;> first | rfl | exact nomatch h
theorem as_any {e : Expr} {es : List Expr} {env : Env} (h : notStar e = true) : (assignEach (e :: es) env).map (·.2) = assign e env :: (assignEach es env).map (·.2) := by
  cases e <;> first | rfl | exact nomatch h
def notComp : Expr → Bool
  | .ListComp .. => false
  | .SetComp .. => false
  | .DictComp .. => false
  | _ => true
theorem sw_not {e : Expr} {t : Option Expr} {l : Nat} {env : Env} (h : notComp e = true) : swapsWith e t l env = pure false := by
  cases e <;> first | rfl | exact nomatch h
theorem sws_not {e t : Expr} {l : Nat} {env : Env} (h : notComp e = true) : swapsWithSole [t] e l env = pure false := sw_not h
def shortL {α : Type} : Nat → List α → Bool
  | _, [] => true
  | 0, _ => false
  | n + 1, _ :: xs => shortL n xs
theorem len_ok {α : Type} : ∀ {n : Nat} {xs : List α}, shortL n xs = true → xs.length ≤ n
  | _, [], _ => Nat.zero_le _
  | 0, _ :: _, h => nomatch h
  | n + 1, _ :: xs, h => Nat.succ_le_succ (len_ok (n := n) (xs := xs) h)
end Hq
/-! Expr: the rules for expressions. -/
namespace Hq
open PySem PySem.Spec PyProof.Rows L2
/-! ### typed data -/
class TD (α : Type) where
  td : α → PyData
abbrev td {α : Type} [TD α] (x : α) : PyData := TD.td x
instance : TD Int := ⟨.int⟩
instance : TD Bool := ⟨.bool⟩
instance : TD Str := ⟨.str⟩
instance : TD PyData := ⟨fun x => x⟩
instance {α : Type} [TD α] : TD (List α) := ⟨fun xs => .list (xs.map td)⟩
instance {α β : Type} [TD α] [TD β] : TD (α × β) := ⟨fun p => .tuple [td p.1, td p.2]⟩
instance {α : Type} [TD α] : TD (Option α) := ⟨fun o => match o with | none => .none | some x => td x⟩
abbrev T {α : Type} [TD α] (x : α) : R := .d (td x)
section
variable {K : PySem.W.Frag} {F F' H H' : Hp} {M M' : Mem} {v : V}
theorem rr_int {i : Int} (h : Rr K F v (T i)) : v = .int i := by have h := rr_d.mp h; cases h; rfl
theorem rr_bl {i : Bool} (h : Rr K F v (T i)) : v = .bl i := by have h := rr_d.mp h; cases h; rfl
theorem rr_str {i : Str} (h : Rr K F v (T i)) : v = .str i := by have h := rr_d.mp h; cases h; rfl
theorem rrI {i : Int} : Rr K F (.int i) (T i) := rr_d.mpr (Dq.int i)
theorem rrB {i : Bool} : Rr K F (.bl i) (T i) := rr_d.mpr (Dq.bl i)
theorem rrS {i : Str} : Rr K F (.str i) (T i) := rr_d.mpr (Dq.str i)
theorem rrN : Rr K F .non (R.d .none) := rr_d.mpr Dq.non
theorem dqs_rrs : ∀ {vs : List V} {xs : List PyData}, Dqs F vs xs → Rrs K F vs (xs.map R.d)
  | _, [], h => by cases h; exact .nil
  | _, x :: xs, h => by
    cases h with
    | cons a b => exact .cons (rr_d.mpr a) (dqs_rrs b)
theorem rrs_dqs : ∀ {vs : List V} {xs : List PyData}, Rrs K F vs (xs.map R.d) → Dqs F vs xs
  | _, [], h => by cases h; exact .nil
  | _, x :: xs, h => by
    cases h with
    | cons a b => exact .cons (rr_d.mp a) (rrs_dqs b)
theorem rrs_get : ∀ {vs : List V} {rs : List R} {i : Nat} {r : R}, Rrs K F vs rs → rs[i]? = some r → ∃ v, vs[i]? = some v ∧ Rr K F v r
  | _, _, i, r, .nil, e => by simp at e
  | _, _, 0, r, .cons a b, e => by simp at e; subst e; exact ⟨_, rfl, a⟩
  | _, _, i + 1, r, .cons a b, e => by simpa using rrs_get b (by simpa using e)
theorem rrs_atI {vs : List V} {rs : List R} {i : Int} {r : R} (h : Rrs K F vs rs) (e : atI rs i = some r) : ∃ v, atI vs i = some v ∧ Rr K F v r := by
  unfold atI at e ⊢
  rw [h.length]
  cases q : ixN rs.length i with
  | none => rw [q] at e; cases e
  | some j =>
    rw [q] at e
    exact rrs_get h e
theorem rrs_ints : ∀ {vs : List V} {ns : List Int}, Rrs K F vs (ns.map T) → vs = ns.map V.int
  | _, [], h => by cases h; rfl
  | _, n :: ns, h => by
    cases h with
    | cons a b => rw [rr_int a, rrs_ints b]; rfl
theorem rrs_bls : ∀ {vs : List V} {ns : List Bool}, Rrs K F vs (ns.map T) → vs = ns.map V.bl
  | _, [], h => by cases h; rfl
  | _, n :: ns, h => by
    cases h with
    | cons a b => rw [rr_bl a, rrs_bls b]; rfl
theorem rrs_strs : ∀ {vs : List V} {ns : List Str}, Rrs K F vs (ns.map T) → vs = ns.map V.str
  | _, [], h => by cases h; rfl
  | _, n :: ns, h => by
    cases h with
    | cons a b => rw [rr_str a, rrs_strs b]; rfl
theorem ints_rrs : ∀ (ns : List Int), Rrs K F (ns.map V.int) (ns.map T)
  | [] => .nil
  | n :: ns => .cons rrI (ints_rrs ns)
theorem T_map {α : Type} [TD α] (xs : List α) : (xs.map td).map R.d = xs.map T := by rw [List.map_map]; rfl
theorem atI_map {α β : Type} (f : α → β) (xs : List α) (i : Int) : atI (xs.map f) i = (atI xs i).map f := by
  unfold atI
  rw [List.length_map]
  cases ixN xs.length i with
  | none => rfl
  | some j => simp
/-- a list that may be read: frozen, a cell, the script -/
inductive IsL (M : Mem) : R → List R → Prop
  | fz (xs : List PyData) : IsL M (.d (.list xs)) (xs.map R.d)
  | cl {p : Addr} {rs : List R} : (p, Cell.lst rs) ∈ M → IsL M (.v (.ref p)) rs
  | sc (ns : List Int) : IsL M (.s ns) (ns.map T)
theorem isL_T {α : Type} [TD α] (xs : List α) : IsL M (T xs) (xs.map T) := by rw [← T_map]; exact .fz _
theorem IsL.get {r : R} {rs : List R} (h : IsL M r rs) (m : Ms K M F H) (q : Rr K F v r) : ∃ p xs, v = .ref p ∧ SqL K H p xs ∧ Rrs K F xs rs := by
  cases h with
  | fz xs =>
    have q := rr_d.mp q
    cases q with
    | lst a b => exact ⟨_, _, rfl, m.ex.seq (SqL.of a), dqs_rrs b⟩
  | cl h =>
    have q := rr_v.mp q
    subst q
    obtain ⟨xs, a, b⟩ := (m.mem _ _ h).2
    exact ⟨_, xs, rfl, SqL.of a, b⟩
  | sc ns =>
    obtain ⟨a, rfl, c⟩ := rr_s.mp q
    exact ⟨a, _, rfl, m.ex.seq c, ints_rrs ns⟩
/-- .. tracked -/
inductive IsM (M : Mem) : R → List R → Prop
  | fz (xs : List PyData) : IsM M (.d (.list xs)) (xs.map R.d)
  | cl {p : Addr} {rs : List R} : (p, Cell.lst rs) ∈ M → IsM M (.v (.ref p)) rs
theorem isM_T {α : Type} [TD α] (xs : List α) : IsM M (T xs) (xs.map T) := by rw [← T_map]; exact .fz _
theorem IsM.l {r : R} {rs : List R} (h : IsM M r rs) : IsL M r rs := by cases h with | fz xs => exact .fz xs | cl h => exact .cl h
theorem IsM.get {r : R} {rs : List R} (h : IsM M r rs) (m : Ms K M F H) (q : Rr K F v r) : ∃ p xs, v = .ref p ∧ H p = some (.lst xs) ∧ Rrs K F xs rs := by
  cases h with
  | fz xs =>
    have q := rr_d.mp q
    cases q with
    | lst a b => exact ⟨_, _, rfl, m.ex _ _ a, dqs_rrs b⟩
  | cl h =>
    have q := rr_v.mp q
    subst q
    obtain ⟨xs, a, b⟩ := (m.mem _ _ h).2
    exact ⟨_, xs, rfl, a, b⟩
/-- a tuple -/
inductive IsT (M : Mem) : R → List R → Prop
  | fz (xs : List PyData) : IsT M (.d (.tuple xs)) (xs.map R.d)
  | pt (rs : List R) : IsT M (.t rs) rs
theorem IsT.get {r : R} {rs : List R} (h : IsT M r rs) (m : Ms K M F H) (q : Rr K F v r) : ∃ p xs, v = .ref p ∧ H p = some (.tup xs) ∧ Rrs K F xs rs := by
  cases h with
  | fz xs =>
    have q := rr_d.mp q
    cases q with
    | tup a b => exact ⟨_, _, rfl, m.ex _ _ a, dqs_rrs b⟩
  | pt rs =>
    obtain ⟨a, xs, b, c, d⟩ := rr_t.mp q
    exact ⟨a, xs, b, m.ex _ _ c, d⟩
end
/-! ### names, constants -/
section
variable {X : Cx} {e a b c : Expr} {es : List Expr} {ds : List R} {M M1 M2 : Mem} {pos p : Pos} {Q : R → Mem → Prop} {QB : Bool → Mem → Prop} {QA : List R → Mem → Prop} {r r1 r2 : R}
theorem ex_var (i : Nat) {x : Str} (h : ds[i]? = some r) (q : Q r M) (n : r ≠ R.no := by nofun) (hN : X.N[i]? = some x := by rfl) (hv : Vis X.env.scope x := by first | exact Or.inl rfl | exact Or.inr (Or.inl rfl) | exact Or.inr (Or.inr rfl)) (hd : (x == ("__debug__" : Str)) = false := by decide)
    (hcd : (x == ("__classdict__" : Str)) = false := by decide) : EX X (.Name x p) ds M Q := ex_pe (pe_var hN hv hd hcd) fun σ F H s => by
  obtain ⟨v, a, b⟩ := s.sl.2 i r h n
  exact ⟨v, a, Out.mk0 s.ms b q⟩
theorem dx_var (i : Nat) {x : Str} (h : ds[i]? = some r := by rfl) (n : r ≠ R.no := by nofun) (hN : X.N[i]? = some x := by rfl) (hv : Vis X.env.scope x := by first | exact Or.inl rfl | exact Or.inr (Or.inl rfl) | exact Or.inr (Or.inr rfl)) (hd : (x == ("__debug__" : Str)) = false := by decide)
    (hcd : (x == ("__classdict__" : Str)) = false := by decide) : DX X (.Name x p) ds M r M := fun Q q => ex_var i h q n hN hv hd hcd
theorem dx_int {i : Int} {j} : DX X (.Constant (.int i) j pos) ds M (T i) M := fun Q q => ex_pe pe_int fun σ F H s => Out.mk0 s.ms rrI q
theorem dx_bl {i : Bool} {j} : DX X (.Constant (.bool i) j pos) ds M (T i) M := fun Q q => ex_pe pe_bl fun σ F H s => Out.mk0 s.ms rrB q
theorem dx_str {i : Str} {j} : DX X (.Constant (.str i) j pos) ds M (T i) M := fun Q q => ex_pe pe_str fun σ F H s => Out.mk0 s.ms rrS q
theorem dx_non {j} : DX X (.Constant .none j pos) ds M (.d .none) M := fun Q q => ex_pe pe_non fun σ F H s => Out.mk0 s.ms rrN q
theorem dx_is (h : DX X e ds M r M1) (q : r = r1) : DX X e ds M r1 M1 := q ▸ h
/-! ### operators -/
def OpW (K : PySem.W.Frag) (r : R2) (r1 r2 : R) (M : Mem) (Q : R → Mem → Prop) : Prop := ∀ F H x y, Ms K M F H → Rr K F x r1 → Rr K F y r2 → r x y H (Out K M F H Q)
theorem tOp_of {rr : R2} (h : EX X a ds M fun r1 M1 => EX X b ds M1 fun r2 M2 => OpW X.K rr r1 r2 M2 Q) (mo : ∀ x y H (Q Q' : VK), (∀ v H', Q v H' → Q' v H') → rr x y H Q → rr x y H Q') {σ : L2.St} {F H : Hp} (s : Sta X.K σ ds M F H) : tOp rr (cE X a) (cE X b) σ H (Out X.K M F H Q) := by
  refine cE_mono (h σ F H s) fun x H1 ⟨F1, M1, r1, a1, h1, m1, g1⟩ => ?_
  refine cE_mono (h1 σ F1 H1 (s.go g1 m1)) fun y H2 ⟨F2, M2, r2, a2, h2, m2, g2⟩ => ?_
  exact mo _ _ _ _ _ (fun v H' o => Out.trans (g1.trans g2) o) (h2 F2 H2 x y m2 (a1.up g2.ex) a2)
/-- the relation's wish may be weakened -/
def Mo2 (rr : R2) : Prop := ∀ x y H (Q Q' : VK), (∀ v H', Q v H' → Q' v H') → rr x y H Q → rr x y H Q'
theorem ex_op {op : Operator} {rr : R2} (ho : OpR X (binaryOp op) rr) (mo : Mo2 rr) (h : EX X a ds M fun r1 M1 => EX X b ds M1 fun r2 M2 => OpW X.K rr r1 r2 M2 Q) : EX X (.BinOp a op b pos) ds M Q :=
  ex_pe (pe_op ho (peC a) (peC b)) fun _ _ _ s => tOp_of h mo s
theorem dx_op {op : Operator} {rr : R2} {M3 : Mem} {r3 : R} (ho : OpR X (binaryOp op) rr) (mo : Mo2 rr) (ha : DX X a ds M r1 M1) (hb : DX X b ds M1 r2 M2) (hw : ∀ Q : R → Mem → Prop, Q r3 M3 → OpW X.K rr r1 r2 M2 Q) : DX X (.BinOp a op b pos) ds M r3 M3 :=
  fun Q q => ex_op ho mo (ha _ (hb _ (hw Q q)))
theorem ex_cmp {op : CmpOp} {rr : R2} (ho : OpR X (compareOp op) rr) (mo : Mo2 rr) (hm : behindInMarks op b = false) (h : EX X a ds M fun r1 M1 => EX X b ds M1 fun r2 M2 => OpW X.K rr r1 r2 M2 Q) : EX X (.Compare a [op] [b] pos) ds M Q :=
  ex_pe (pe_cmpR ho (peC a) (peC b) hm) fun _ _ _ s => tOp_of h mo s
theorem dx_cmp {op : CmpOp} {rr : R2} {M3 : Mem} {r3 : R} (ho : OpR X (compareOp op) rr) (mo : Mo2 rr) (hm : behindInMarks op b = false) (ha : DX X a ds M r1 M1) (hb : DX X b ds M1 r2 M2) (hw : ∀ Q : R → Mem → Prop, Q r3 M3 → OpW X.K rr r1 r2 M2 Q) : DX X (.Compare a [op] [b] pos) ds M r3 M3 :=
  fun Q q => ex_cmp ho mo hm (ha _ (hb _ (hw Q q)))
theorem outB_of {σ : L2.St} {F H : Hp} {v : V} {H' : Hp} (o : Out X.K M F H (fun r M' => ∃ k : Bool, r = T k ∧ QB k M') v H') : ∃ k, v = .bl k ∧ OutB X.K M F H QB k H' := by
  obtain ⟨F', M', r, h1, ⟨k, rfl, h2⟩, h3, h4⟩ := o
  exact ⟨k, rr_bl h1, F', M', h2, h3, h4⟩
theorem tx_cmp {op : CmpOp} {rr : R2} (ho : OpR X (compareOp op) rr) (mo : Mo2 rr) (hm : behindInMarks op b = false) (h : EX X a ds M fun r1 M1 => EX X b ds M1 fun r2 M2 => OpW X.K rr r1 r2 M2 fun r M' => ∃ k : Bool, r = T k ∧ QB k M') : TX X (.Compare a [op] [b] pos) ds M QB :=
  tx_pt (pt_cmpR ho (peC a) (peC b) hm) fun σ F H s => by
    have q := tOp_of h mo s
    refine cE_mono q fun x H1 z => cE_mono z fun y H2 z2 => mo _ _ _ _ _ (fun v H' o => ?_) z2
    exact outB_of (σ := σ) o
theorem dt_cmp {op : CmpOp} {rr : R2} {M3 : Mem} {k : Bool} (ho : OpR X (compareOp op) rr) (mo : Mo2 rr) (hm : behindInMarks op b = false) (ha : DX X a ds M r1 M1) (hb : DX X b ds M1 r2 M2) (hw : ∀ Q : R → Mem → Prop, Q (T k) M3 → OpW X.K rr r1 r2 M2 Q) : DT X (.Compare a [op] [b] pos) ds M k M3 :=
  fun QB q => tx_cmp ho mo hm (ha _ (hb _ (hw _ ⟨k, rfl, q⟩)))
/-- an expression that is a truth, as a test -/
theorem tx_val (h : EX X e ds M fun r M' => ∃ k : Bool, r = T k ∧ QB k M') (he : ∀ whole, isTrue e X.env whole = (do let v ← whole; standAt e.pos; holding [v] (truthy v)) := by intro _; rfl) : TX X e ds M QB :=
  tx_pt (pt_val (peC e) he) fun σ F H s => cE_mono (h σ F H s) fun v H' o => outB_of (σ := σ) o
theorem dt_val {k : Bool} (h : DX X e ds M (T k) M1) (he : ∀ whole, isTrue e X.env whole = (do let v ← whole; standAt e.pos; holding [v] (truthy v)) := by intro _; rfl) : DT X e ds M k M1 := fun QB q => tx_val (h _ ⟨k, rfl, q⟩) he
theorem mo_I0 {g : Int → Int → V} : Mo2 (rI0 g) := fun x y H Q Q' m ⟨i, j, a, b, q⟩ => ⟨i, j, a, b, m _ _ q⟩
theorem mo_I {C : Int → Int → Prop} {g : Int → Int → V} : Mo2 (rI C g) := fun x y H Q Q' m ⟨i, j, a, b, c, q⟩ => ⟨i, j, a, b, c, m _ _ q⟩
theorem ow_I0 {K : PySem.W.Frag} {g : Int → Int → V} {i j : Int} {r : R} (hz : ∀ F, Rr K F (g i j) r) (q : Q r M) : OpW K (rI0 g) (T i) (T j) M Q := fun F H x y m h1 h2 => ⟨i, j, rr_int h1, rr_int h2, Out.mk0 m (hz F) q⟩
theorem ow_I {K : PySem.W.Frag} {C : Int → Int → Prop} {g : Int → Int → V} {i j : Int} {r : R} (hc : C i j) (hz : ∀ F, Rr K F (g i j) r) (q : Q r M) : OpW K (rI C g) (T i) (T j) M Q := fun F H x y m h1 h2 => ⟨i, j, rr_int h1, rr_int h2, hc, Out.mk0 m (hz F) q⟩
variable {i j : Int}
theorem dx_add (ha : DX X a ds M (T i) M1) (hb : DX X b ds M1 (T j) M2) : DX X (.BinOp a .Add b pos) ds M (T (i + j)) M2 := dx_op op_add mo_I0 ha hb fun Q q => ow_I0 (fun _ => rrI) q
theorem dx_sub (ha : DX X a ds M (T i) M1) (hb : DX X b ds M1 (T j) M2) : DX X (.BinOp a .Sub b pos) ds M (T (i - j)) M2 := dx_op op_sub mo_I0 ha hb fun Q q => ow_I0 (fun _ => rrI) q
theorem dx_mul (hc : CMulW i j) (ha : DX X a ds M (T i) M1) (hb : DX X b ds M1 (T j) M2) : DX X (.BinOp a .Mult b pos) ds M (T (i * j)) M2 := dx_op op_mulW mo_I ha hb fun Q q => ow_I hc (fun _ => rrI) q
theorem dx_mulL (hc : -(2 ^ 64) < i ∧ i < 2 ^ 64) (ha : DX X a ds M (T i) M1) (hb : DX X b ds M1 (T j) M2) : DX X (.BinOp a .Mult b pos) ds M (T (i * j)) M2 := dx_op op_mul mo_I ha hb fun Q q => ow_I (.inl hc) (fun _ => rrI) q
theorem dx_mulR (hc : -(2 ^ 64) < j ∧ j < 2 ^ 64) (ha : DX X a ds M (T i) M1) (hb : DX X b ds M1 (T j) M2) : DX X (.BinOp a .Mult b pos) ds M (T (i * j)) M2 := dx_op op_mul mo_I ha hb fun Q q => ow_I (.inr hc) (fun _ => rrI) q
theorem dx_fdiv (hc : CDivW i j) (ha : DX X a ds M (T i) M1) (hb : DX X b ds M1 (T j) M2) : DX X (.BinOp a .FloorDiv b pos) ds M (T (i / j)) M2 := dx_op op_fdivW mo_I ha hb fun Q q => ow_I hc (fun _ => rrI) q
theorem dx_mod (hc : 0 < j) (ha : DX X a ds M (T i) M1) (hb : DX X b ds M1 (T j) M2) : DX X (.BinOp a .Mod b pos) ds M (T (i % j)) M2 := dx_op op_mod mo_I ha hb fun Q q => ow_I hc (fun _ => rrI) q
theorem dx_pow (hc : CPow i j) (ha : DX X a ds M (T i) M1) (hb : DX X b ds M1 (T j) M2) : DX X (.BinOp a .Pow b pos) ds M (T (i ^ j.toNat)) M2 := dx_op op_pow mo_I ha hb fun Q q => ow_I hc (fun _ => rrI) q
theorem ex_add (h : EX X a ds M fun r1 M1 => ∃ i : Int, r1 = T i ∧ EX X b ds M1 fun r2 M2 => ∃ j : Int, r2 = T j ∧ Q (T (i + j)) M2) : EX X (.BinOp a .Add b pos) ds M Q := ex_op op_add mo_I0 (h.mono fun _ _ ⟨i, e, h⟩ => h.mono fun _ _ ⟨j, e2, q⟩ => by subst e e2; exact ow_I0 (fun _ => rrI) q)
theorem ex_sub (h : EX X a ds M fun r1 M1 => ∃ i : Int, r1 = T i ∧ EX X b ds M1 fun r2 M2 => ∃ j : Int, r2 = T j ∧ Q (T (i - j)) M2) : EX X (.BinOp a .Sub b pos) ds M Q := ex_op op_sub mo_I0 (h.mono fun _ _ ⟨i, e, h⟩ => h.mono fun _ _ ⟨j, e2, q⟩ => by subst e e2; exact ow_I0 (fun _ => rrI) q)
theorem ex_mul (h : EX X a ds M fun r1 M1 => ∃ i : Int, r1 = T i ∧ EX X b ds M1 fun r2 M2 => ∃ j : Int, r2 = T j ∧ CMulW i j ∧ Q (T (i * j)) M2) : EX X (.BinOp a .Mult b pos) ds M Q := ex_op op_mulW mo_I (h.mono fun _ _ ⟨i, e, h⟩ => h.mono fun _ _ ⟨j, e2, c, q⟩ => by subst e e2; exact ow_I c (fun _ => rrI) q)
theorem ex_mod (h : EX X a ds M fun r1 M1 => ∃ i : Int, r1 = T i ∧ EX X b ds M1 fun r2 M2 => ∃ j : Int, r2 = T j ∧ 0 < j ∧ Q (T (i % j)) M2) : EX X (.BinOp a .Mod b pos) ds M Q := ex_op op_mod mo_I (h.mono fun _ _ ⟨i, e, h⟩ => h.mono fun _ _ ⟨j, e2, c, q⟩ => by subst e e2; exact ow_I c (fun _ => rrI) q)
theorem ex_fdiv (h : EX X a ds M fun r1 M1 => ∃ i : Int, r1 = T i ∧ EX X b ds M1 fun r2 M2 => ∃ j : Int, r2 = T j ∧ CDivW i j ∧ Q (T (i / j)) M2) : EX X (.BinOp a .FloorDiv b pos) ds M Q := ex_op op_fdivW mo_I (h.mono fun _ _ ⟨i, e, h⟩ => h.mono fun _ _ ⟨j, e2, c, q⟩ => by subst e e2; exact ow_I c (fun _ => rrI) q)
theorem dx_neg (ha : DX X a ds M (T i) M1) : DX X (.UnaryOp .USub a pos) ds M (T (-i)) M1 := fun Q q => ex_pe (pe_un un_neg (peC a)) fun σ F H s =>
  cE_mono (ha (fun r M' => r = T i ∧ M' = M1) ⟨rfl, rfl⟩ σ F H s) fun v H' ⟨F', M', r, h1, h2, h3, h4⟩ => by
    obtain ⟨e1, e2⟩ := h2
    subst e1 e2
    exact ⟨i, rr_int h1, F', _, _, rrI, q, h3, h4⟩
/-! ### comparisons of ints -/
theorem dx_lt (ha : DX X a ds M (T i) M1) (hb : DX X b ds M1 (T j) M2) : DX X (.Compare a [.Lt] [b] pos) ds M (T (decide (i < j))) M2 := dx_cmp op_lt mo_I0 (nobehind _ (by decide) (by decide)) ha hb fun Q q => ow_I0 (fun _ => rrB) q
theorem dx_le (ha : DX X a ds M (T i) M1) (hb : DX X b ds M1 (T j) M2) : DX X (.Compare a [.LtE] [b] pos) ds M (T (decide (i ≤ j))) M2 := dx_cmp op_le mo_I0 (nobehind _ (by decide) (by decide)) ha hb fun Q q => ow_I0 (fun _ => rrB) q
theorem dx_gt (ha : DX X a ds M (T i) M1) (hb : DX X b ds M1 (T j) M2) : DX X (.Compare a [.Gt] [b] pos) ds M (T (decide (j < i))) M2 := dx_cmp op_gt mo_I0 (nobehind _ (by decide) (by decide)) ha hb fun Q q => ow_I0 (fun _ => rrB) q
theorem dx_ge (ha : DX X a ds M (T i) M1) (hb : DX X b ds M1 (T j) M2) : DX X (.Compare a [.GtE] [b] pos) ds M (T (decide (j ≤ i))) M2 := dx_cmp op_ge mo_I0 (nobehind _ (by decide) (by decide)) ha hb fun Q q => ow_I0 (fun _ => rrB) q
theorem dt_lt (ha : DX X a ds M (T i) M1) (hb : DX X b ds M1 (T j) M2) : DT X (.Compare a [.Lt] [b] pos) ds M (decide (i < j)) M2 := dt_cmp op_lt mo_I0 (nobehind _ (by decide) (by decide)) ha hb fun Q q => ow_I0 (fun _ => rrB) q
theorem dt_le (ha : DX X a ds M (T i) M1) (hb : DX X b ds M1 (T j) M2) : DT X (.Compare a [.LtE] [b] pos) ds M (decide (i ≤ j)) M2 := dt_cmp op_le mo_I0 (nobehind _ (by decide) (by decide)) ha hb fun Q q => ow_I0 (fun _ => rrB) q
theorem dt_gt (ha : DX X a ds M (T i) M1) (hb : DX X b ds M1 (T j) M2) : DT X (.Compare a [.Gt] [b] pos) ds M (decide (j < i)) M2 := dt_cmp op_gt mo_I0 (nobehind _ (by decide) (by decide)) ha hb fun Q q => ow_I0 (fun _ => rrB) q
theorem dt_ge (ha : DX X a ds M (T i) M1) (hb : DX X b ds M1 (T j) M2) : DT X (.Compare a [.GtE] [b] pos) ds M (decide (j ≤ i)) M2 := dt_cmp op_ge mo_I0 (nobehind _ (by decide) (by decide)) ha hb fun Q q => ow_I0 (fun _ => rrB) q
end
def notSlice : Expr → Bool
  | .Slice .. => false
  | _ => true
theorem plain_any {b : Expr} (h : notSlice b = true) : PlainIx b := fun o i => by
  unfold subscripted
  split
  · exact nomatch h
  · rename_i h2; exact nomatch h2
  · rfl
end Hq
/-! Expr2: arguments, displays, subscripts, slices, calls of built-ins, tests, equality, repr. -/
namespace Hq
open PySem PySem.Spec PyProof.Rows L2
section
variable {X : Cx} {e a b c : Expr} {es rest : List Expr} {ds : List R} {M M1 M2 M3 : Mem} {pos p : Pos} {Q : R → Mem → Prop} {QB : Bool → Mem → Prop} {QA : List R → Mem → Prop} {r r1 r2 r3 : R} {rs : List R}
/-! ### arguments -/
theorem ax_nil (q : QA [] M) : AX X [] ds M QA := ax_pa pa_nil fun σ F H s => ⟨F, M, [], .nil, q, s.ms, Go.refl⟩
theorem ax_cons (h : EX X e ds M fun r M1 => AX X es ds M1 fun rs M2 => QA (r :: rs) M2)
    (hs : starEach (e :: es) X.env = (false, eval e X.env) :: starEach es X.env := by exact st_any rfl) : AX X (e :: es) ds M QA := ax_pa (pa_cons (peC e) (paC es) hs) fun σ F H s =>
  cE_mono (h σ F H s) fun x H1 ⟨F1, M1, r1, a1, h1, m1, g1⟩ => cA_mono (h1 σ F1 H1 (s.go g1 m1)) fun xs H2 ⟨F2, M2, rs, a2, h2, m2, g2⟩ => ⟨F2, M2, r1 :: rs, .cons (a1.up g2.ex) a2, h2, m2, g1.trans g2⟩
theorem da_nil : DA X [] ds M [] M := fun Q q => ax_nil q
theorem da_cons (h : DX X e ds M r M1) (h2 : DA X es ds M1 rs M2) (hs : starEach (e :: es) X.env = (false, eval e X.env) :: starEach es X.env := by exact st_any rfl) : DA X (e :: es) ds M (r :: rs) M2 := fun Q q => ax_cons (h _ (h2 _ q)) hs
/-! ### calls of built-ins -/
def CbW (K : PySem.W.Frag) (rr : List V → Hp → VK → Prop) (rs : List R) (M : Mem) (Q : R → Mem → Prop) : Prop := ∀ F H vs, Ms K M F H → Rrs K F vs rs → rr vs H (Out K M F H Q)
def Mo1 (rr : List V → Hp → VK → Prop) : Prop := ∀ x H (Q Q' : VK), (∀ v H', Q v H' → Q' v H') → rr x H Q → rr x H Q'
theorem tCB_of {rr : List V → Hp → VK → Prop} (mo : Mo1 rr) (h : AX X es ds M fun rs M1 => CbW X.K rr rs M1 Q) {σ : L2.St} {F H : Hp} (s : Sta X.K σ ds M F H) : tCB rr (cA X es) σ H (Out X.K M F H Q) :=
  cA_mono (h σ F H s) fun xs H1 ⟨F1, M1, rs, a1, h1, m1, g1⟩ => mo _ _ _ _ (fun v H' o => Out.trans g1 o) (h1 F1 H1 xs m1 a1)
theorem ex_callB {x : Str} {id : String} {rr : List V → Hp → VK → Prop} (hc : CallR X (.builtin id) rr) (mo : Mo1 rr) (hm : X.mg x = none) (hv : bootBuiltins x = some (.builtin id)) (h : AX X (e :: es) ds M fun rs M1 => CbW X.K rr rs M1 Q) (hg : Gl X x := by rfl)
    (hn : x ≠ "__name__" := by decide) (hdb : (x == ("__debug__" : Str)) = false := by decide) (he : starEach (e :: es) X.env = (false, eval e X.env) :: starEach es X.env := by exact st_any rfl) (hpl : (backTo pos (starEach es X.env)).any (·.1) = false := by rfl) : EX X (.Call (.Name x p) (e :: es) [] pos) ds M Q :=
  ex_pe (pe_callB hc hg hm hv (paC _) hn hdb he hpl) fun _ _ _ s => tCB_of mo h s
theorem ex_callTy {x : Str} {id : String} {rr : List V → Hp → VK → Prop} (hc : CallR X (.type id) rr) (mo : Mo1 rr) (hm : X.mg x = none) (hv : bootBuiltins x = some (.type id)) (h : AX X (e :: es) ds M fun rs M1 => CbW X.K rr rs M1 Q) (hg : Gl X x := by rfl)
    (hn : x ≠ "__name__" := by decide) (hdb : (x == ("__debug__" : Str)) = false := by decide) (he : starEach (e :: es) X.env = (false, eval e X.env) :: starEach es X.env := by exact st_any rfl) (hpl : (backTo pos (starEach es X.env)).any (·.1) = false := by rfl) : EX X (.Call (.Name x p) (e :: es) [] pos) ds M Q :=
  ex_pe (pe_callTy hc hg hm hv (paC _) hn hdb he hpl) fun _ _ _ s => tCB_of mo h s
theorem rrs1 {K : PySem.W.Frag} {F : Hp} {vs : List V} {r : R} (h : Rrs K F vs [r]) : ∃ v, vs = [v] ∧ Rr K F v r := by
  cases h with
  | cons a b => cases b; exact ⟨_, rfl, a⟩
theorem rrs2 {K : PySem.W.Frag} {F : Hp} {vs : List V} {r r' : R} (h : Rrs K F vs [r, r']) : ∃ v v', vs = [v, v'] ∧ Rr K F v r ∧ Rr K F v' r' := by
  cases h with
  | cons a b => obtain ⟨v, rfl, c⟩ := rrs1 b; exact ⟨_, v, rfl, a, c⟩
/-- len of a list or a tuple -/
theorem ex_len (hm : X.mg "len" = none) (h : EX X e ds M fun r M1 => ∃ rs, (IsL M1 r rs ∨ IsT M1 r rs) ∧ Q (T (rs.length : Int)) M1) (hg : Gl X "len" := by rfl) (he : starEach [e] X.env = (false, eval e X.env) :: starEach [] X.env := by exact st_any rfl) : EX X (.Call (.Name "len" p) [e] [] pos) ds M Q :=
  ex_callB call_len_seq (fun x H Q Q' m ⟨p, ys, a, b, q⟩ => ⟨p, ys, a, b, m _ _ q⟩) hm PySem.boot_len (ax_cons (h.mono fun r M1 ⟨rs, h1, q⟩ => ax_nil fun F H vs m w => by
    obtain ⟨v, ev, w1⟩ := rrs1 w
    subst ev
    rcases h1 with h1 | h1
    · obtain ⟨p, xs, rfl, a, b⟩ := h1.get m w1
      exact ⟨p, xs, rfl, .inl a, Out.mk0 m (by rw [b.length]; exact rrI) q⟩
    · obtain ⟨p, xs, rfl, a, b⟩ := h1.get m w1
      exact ⟨p, xs, rfl, .inr (SqT.of a), Out.mk0 m (by rw [b.length]; exact rrI) q⟩) he) hg (he := he)
theorem dx_lenT {α : Type} [TD α] {xs : List α} (hm : X.mg "len" = none) (h : DX X e ds M (T xs) M1) (hg : Gl X "len" := by rfl) (he : starEach [e] X.env = (false, eval e X.env) :: starEach [] X.env := by exact st_any rfl) : DX X (.Call (.Name "len" p) [e] [] pos) ds M (T (xs.length : Int)) M1 :=
  fun Q q => ex_len hm (h _ ⟨_, .inl (isL_T xs), by rw [List.length_map]; exact q⟩) hg he
theorem dx_lenL (hm : X.mg "len" = none) (h : DX X e ds M r M1) (hl : IsL M1 r rs) (hg : Gl X "len" := by rfl) (he : starEach [e] X.env = (false, eval e X.env) :: starEach [] X.env := by exact st_any rfl) : DX X (.Call (.Name "len" p) [e] [] pos) ds M (T (rs.length : Int)) M1 :=
  fun Q q => ex_len hm (h _ ⟨_, .inl hl, q⟩) hg he
theorem ex_sum (hm : X.mg "sum" = none) (h : EX X e ds M fun r M1 => ∃ ns : List Int, IsL M1 r (ns.map T) ∧ Q (T ns.sum) M1) (hc : CallR X (.builtin "sum") (rSum X.K)) (hg : Gl X "sum" := by rfl) (he : starEach [e] X.env = (false, eval e X.env) :: starEach [] X.env := by exact st_any rfl) : EX X (.Call (.Name "sum" p) [e] [] pos) ds M Q :=
  ex_callB hc (fun x H Q Q' m ⟨p, ys, a, b, q⟩ => ⟨p, ys, a, b, m _ _ q⟩) hm (by decide +kernel) (ax_cons (h.mono fun r M1 ⟨ns, h1, q⟩ => ax_nil fun F H vs m w => by
    obtain ⟨v, ev, w1⟩ := rrs1 w
    subst ev
    obtain ⟨p, xs, rfl, a, b⟩ := h1.get m w1
    have e := rrs_ints b
    subst e
    exact ⟨p, ns, rfl, a, Out.mk0 m rrI q⟩) he) hg (he := he)
theorem dx_abs {i : Int} (hm : X.mg "abs" = none) (h : DX X e ds M (T i) M1) (hg : Gl X "abs" := by rfl) (he : starEach [e] X.env = (false, eval e X.env) :: starEach [] X.env := by exact st_any rfl) : DX X (.Call (.Name "abs" p) [e] [] pos) ds M (T (if i < 0 then -i else i)) M1 :=
  fun Q q => ex_callB call_abs (fun x H Q Q' m ⟨i, a, q⟩ => ⟨i, a, m _ _ q⟩) hm (by decide +kernel) (ax_cons (h _ (ax_nil fun F H vs m w => by
    obtain ⟨v, ev, w1⟩ := rrs1 w
    subst ev
    exact ⟨i, by rw [rr_int w1], Out.mk0 m rrI q⟩)) he) hg (he := he)
theorem dx_intB {k : Bool} (hm : X.mg "int" = none) (h : DX X e ds M (T k) M1) (hg : Gl X "int" := by rfl) (he : starEach [e] X.env = (false, eval e X.env) :: starEach [] X.env := by exact st_any rfl) : DX X (.Call (.Name "int" p) [e] [] pos) ds M (T (if k then 1 else 0 : Int)) M1 :=
  fun Q q => ex_callTy call_int1 (fun x H Q Q' m w => by
    rcases w with ⟨i, a, q⟩ | ⟨i, a, q⟩
    · exact .inl ⟨i, a, m _ _ q⟩
    · exact .inr ⟨i, a, m _ _ q⟩) hm (by decide +kernel) (ax_cons (h _ (ax_nil fun F H vs m w => by
    obtain ⟨v, ev, w1⟩ := rrs1 w
    subst ev
    exact .inr ⟨k, by rw [rr_bl w1], Out.mk0 m rrI q⟩)) he) hg (he := he)
theorem dx_min2 {i j : Int} (hc : X.calm = true) (hm : X.mg "min" = none) (h : DX X a ds M (T i) M1) (h2 : DX X b ds M1 (T j) M2) (hg : Gl X "min" := by rfl) (he : starEach [a, b] X.env = (false, eval a X.env) :: starEach [b] X.env := by exact st_any rfl) (he2 : starEach [b] X.env = (false, eval b X.env) :: starEach [] X.env := by exact st_any rfl) (hpl : (backTo pos (starEach [b] X.env)).any (·.1) = false := by rfl) : DX X (.Call (.Name "min" p) [a, b] [] pos) ds M (T (if j < i then j else i)) M2 :=
  fun Q q => ex_callB (call_min2 hc) (fun x H Q Q' m ⟨i, j, a, q⟩ => ⟨i, j, a, m _ _ q⟩) hm (by decide +kernel) (ax_cons (h _ (ax_cons (h2 _ (ax_nil fun F H vs m w => by
    obtain ⟨v, v', ev, w1, w2⟩ := rrs2 w
    subst ev
    exact ⟨i, j, by rw [rr_int w1, rr_int w2], Out.mk0 m rrI q⟩)) he2)) he) hg (he := he) (hpl := hpl)
theorem dx_max2 {i j : Int} (hc : X.calm = true) (hm : X.mg "max" = none) (h : DX X a ds M (T i) M1) (h2 : DX X b ds M1 (T j) M2) (hg : Gl X "max" := by rfl) (he : starEach [a, b] X.env = (false, eval a X.env) :: starEach [b] X.env := by exact st_any rfl) (he2 : starEach [b] X.env = (false, eval b X.env) :: starEach [] X.env := by exact st_any rfl) (hpl : (backTo pos (starEach [b] X.env)).any (·.1) = false := by rfl) : DX X (.Call (.Name "max" p) [a, b] [] pos) ds M (T (if j > i then j else i)) M2 :=
  fun Q q => ex_callB (call_max2 hc) (fun x H Q Q' m ⟨i, j, a, q⟩ => ⟨i, j, a, m _ _ q⟩) hm (by decide +kernel) (ax_cons (h _ (ax_cons (h2 _ (ax_nil fun F H vs m w => by
    obtain ⟨v, v', ev, w1, w2⟩ := rrs2 w
    subst ev
    exact ⟨i, j, by rw [rr_int w1, rr_int w2], Out.mk0 m rrI q⟩)) he2)) he) hg (he := he) (hpl := hpl)
/-! ### new lists and tuples: frozen at once, or cells -/
theorem newL {K : PySem.W.Frag} {F H : Hp} {xs : List V} {ys : List PyData} {q : Addr} (m : Ms K M F H) (w : Rrs K F xs (ys.map R.d)) (nq : H q = none) (z : Q (.d (.list ys)) M) : Out K M F H Q (.ref q) (upd H q (.lst xs)) := by
  have k := m.newF (o := .lst xs) nq
  exact Out.mk k (rr_d.mpr (.lst upd_same (rrs_dqs (w.up k.2.ex)))) z
theorem newU {K : PySem.W.Frag} {F H : Hp} {xs : List V} {ys : List PyData} {q : Addr} (m : Ms K M F H) (w : Rrs K F xs (ys.map R.d)) (nq : H q = none) (z : Q (.d (.tuple ys)) M) : Out K M F H Q (.ref q) (upd H q (.tup xs)) := by
  have k := m.newF (o := .tup xs) nq
  exact Out.mk k (rr_d.mpr (.tup upd_same (rrs_dqs (w.up k.2.ex)))) z
theorem newUt {K : PySem.W.Frag} {F H : Hp} {xs : List V} {ys : List R} {q : Addr} (m : Ms K M F H) (w : Rrs K F xs ys) (nq : H q = none) (z : Q (.t ys) M) : Out K M F H Q (.ref q) (upd H q (.tup xs)) := by
  have k := m.newF (o := .tup xs) nq
  exact Out.mk k (rr_t.mpr ⟨q, xs, rfl, upd_same, w.up k.2.ex⟩) z
theorem newLc {K : PySem.W.Frag} {F H : Hp} {A B : Mem} {xs : List V} {ys : List R} {q : Addr} (m : Ms K (A ++ B) F H) (w : Rrs K F xs ys) (nq : H q = none) (z : Q (.v (.ref q)) (A ++ (q, .lst ys) :: B)) : Out K (A ++ B) F H Q (.ref q) (upd H q (.lst xs)) :=
  Out.mk (m.newC (c := .lst ys) nq ⟨xs, upd_same, w⟩) (rr_v.mpr rfl) z
def und : List R → Option (List PyData)
  | [] => some []
  | .d x :: r => match und r with
    | some ys => some (x :: ys)
    | none => none
  | _ :: _ => none
theorem und_map : ∀ {rs : List R} {ys : List PyData}, und rs = some ys → rs = ys.map R.d
  | [], ys, h => by cases h; rfl
  | .d x :: r, ys, h => by
    unfold und at h
    cases q : und r with
    | none => rw [q] at h; cases h
    | some zs => rw [q] at h; cases h; rw [und_map q]; rfl
  | .no :: r, ys, h => by cases h
  | .v _ :: r, ys, h => by cases h
  | .s _ :: r, ys, h => by cases h
  | .t _ :: r, ys, h => by cases h
theorem ex_lst (h : AX X es ds M fun rs M1 => ∃ ys : List PyData, rs = ys.map R.d ∧ ys.length ≤ sizeLine ∧ Q (.d (.list ys)) M1) : EX X (.List es pos) ds M Q := ex_pe (pe_lst (paC es)) fun σ F H s =>
  cA_mono (h σ F H s) fun xs H1 ⟨F1, M1, rs, a1, ⟨ys, e, l, q⟩, m1, g1⟩ => by
    subst e
    exact ⟨by rw [a1.length, List.length_map]; exact l, fun p np => Out.trans g1 (newL m1 a1 np q)⟩
theorem dx_lst {ys : List PyData} (h : DA X es ds M rs M1) (hu : und rs = some ys := by rfl) (hl : ys.length ≤ sizeLine := by exact Nat.le_trans (len_ok (n := 60) rfl) (L2.small64 (by decide))) : DX X (.List es pos) ds M (.d (.list ys)) M1 := fun Q q => ex_lst (h _ ⟨ys, und_map hu, hl, q⟩)
theorem ex_lstC (h : AX X es ds M fun rs M1 => rs.length ≤ sizeLine ∧ ∃ A B, M1 = A ++ B ∧ ∀ p, Q (.v (.ref p)) (A ++ (p, .lst rs) :: B)) : EX X (.List es pos) ds M Q := ex_pe (pe_lst (paC es)) fun σ F H s =>
  cA_mono (h σ F H s) fun xs H1 ⟨F1, M1, rs, a1, ⟨l, A, B, e, q⟩, m1, g1⟩ => by
    subst e
    exact ⟨by rw [a1.length]; exact l, fun p np => Out.trans g1 (newLc m1 a1 np (q p))⟩
theorem ex_tup (h : AX X es ds M fun rs M1 => ∃ ys : List PyData, rs = ys.map R.d ∧ ys.length ≤ sizeLine ∧ Q (.d (.tuple ys)) M1) : EX X (.Tuple es j pos) ds M Q := ex_pe (pe_tup (paC es)) fun σ F H s =>
  cA_mono (h σ F H s) fun xs H1 ⟨F1, M1, rs, a1, ⟨ys, e, l, q⟩, m1, g1⟩ => by
    subst e
    exact ⟨by rw [a1.length, List.length_map]; exact l, fun p np => Out.trans g1 (newU m1 a1 np q)⟩
theorem dx_tup {ys : List PyData} {j} (h : DA X es ds M rs M1) (hu : und rs = some ys := by rfl) (hl : ys.length ≤ sizeLine := by exact Nat.le_trans (len_ok (n := 60) rfl) (L2.small64 (by decide))) : DX X (.Tuple es j pos) ds M (.d (.tuple ys)) M1 := fun Q q => ex_tup (h _ ⟨ys, und_map hu, hl, q⟩)
theorem ex_tupT {j} (h : AX X es ds M fun rs M1 => rs.length ≤ sizeLine ∧ Q (.t rs) M1) : EX X (.Tuple es j pos) ds M Q := ex_pe (pe_tup (paC es)) fun σ F H s =>
  cA_mono (h σ F H s) fun xs H1 ⟨F1, M1, rs, a1, ⟨l, q⟩, m1, g1⟩ => ⟨by rw [a1.length]; exact l, fun p np => Out.trans g1 (newUt m1 a1 np q)⟩
/-! ### subscripts -/
theorem ex_ixL (h : EX X a ds M fun r1 M1 => EX X b ds M1 fun r2 M2 => ∃ (rs : List R) (i : Int) (r : R), IsL M2 r1 rs ∧ r2 = T i ∧ atI rs i = some r ∧ Q r M2) (hs : PlainIx b := by exact plain_any rfl) : EX X (.Subscript a b pos) ds M Q :=
  ex_pe (pe_ix ix_list (peC a) (peC b) hs) fun _ _ _ s => tOp_of (h.mono fun r1 M1 h => h.mono fun r2 M2 ⟨rs, i, r, h1, e, h2, q⟩ F H x y m w1 w2 => by
    subst e
    obtain ⟨p, xs, rfl, a, b⟩ := h1.get m w1
    obtain ⟨v, c, d⟩ := rrs_atI b h2
    exact ⟨p, xs, i, v, rfl, rr_int w2, a, c, Out.mk0 m d q⟩) (fun x y H Q Q' m ⟨p, xs, i, v, a, b, c, d, q⟩ => ⟨p, xs, i, v, a, b, c, d, m _ _ q⟩) s
theorem ex_ixT (h : EX X a ds M fun r1 M1 => EX X b ds M1 fun r2 M2 => ∃ (rs : List R) (i : Int) (r : R), IsT M2 r1 rs ∧ r2 = T i ∧ atI rs i = some r ∧ Q r M2) (hs : PlainIx b := by exact plain_any rfl) : EX X (.Subscript a b pos) ds M Q :=
  ex_pe (pe_ix ix_tup (peC a) (peC b) hs) fun _ _ _ s => tOp_of (h.mono fun r1 M1 h => h.mono fun r2 M2 ⟨rs, i, r, h1, e, h2, q⟩ F H x y m w1 w2 => by
    subst e
    obtain ⟨p, xs, rfl, a, b⟩ := h1.get m w1
    obtain ⟨v, c, d⟩ := rrs_atI b h2
    exact ⟨p, xs, i, v, rfl, rr_int w2, SqT.of a, c, Out.mk0 m d q⟩) (fun x y H Q Q' m ⟨p, xs, i, v, a, b, c, d, q⟩ => ⟨p, xs, i, v, a, b, c, d, m _ _ q⟩) s
theorem dx_ixT {α : Type} [TD α] {xs : List α} {i : Int} {x : α} (ha : DX X a ds M (T xs) M1) (hb : DX X b ds M1 (T i) M2) (h : atI xs i = some x) (hs : PlainIx b := by exact plain_any rfl) : DX X (.Subscript a b pos) ds M (T x) M2 :=
  fun Q q => ex_ixL (ha _ (hb _ ⟨_, i, _, isL_T xs, rfl, by rw [atI_map, h]; rfl, q⟩)) hs
theorem dx_ixL {i : Int} (ha : DX X a ds M r1 M1) (hb : DX X b ds M1 (T i) M2) (hl : IsL M2 r1 rs) (h : atI rs i = some r) (hs : PlainIx b := by exact plain_any rfl) : DX X (.Subscript a b pos) ds M r M2 := fun Q q => ex_ixL (ha _ (hb _ ⟨rs, i, _, hl, rfl, h, q⟩)) hs
theorem dx_ixU {i : Int} (ha : DX X a ds M r1 M1) (hb : DX X b ds M1 (T i) M2) (hl : IsT M2 r1 rs) (h : atI rs i = some r) (hs : PlainIx b := by exact plain_any rfl) : DX X (.Subscript a b pos) ds M r M2 := fun Q q => ex_ixT (ha _ (hb _ ⟨rs, i, _, hl, rfl, h, q⟩)) hs
/-! ### slices -/
theorem ox_none {QO : Option Int → Mem → Prop} (q : QO none M) : OX X none ds M QO := fun σ F H s pins sh I => po_none.run pins sh σ H _ I ⟨F, M, q, s.ms, Go.refl⟩
theorem ox_some {QO : Option Int → Mem → Prop} (h : EX X e ds M fun r M1 => ∃ i : Int, r = T i ∧ QO (some i) M1) : OX X (some e) ds M QO := fun σ F H s pins sh I => (po_some (peC e)).run pins sh σ H _ I
  (cE_mono (h σ F H s) fun v H' ⟨F', M', r, w, ⟨i, e, q⟩, m, g⟩ => by subst e; exact ⟨i, rr_int w, F', M', q, m, g⟩)
theorem do_none : DO X none ds M none M := fun Q q => ox_none q
theorem do_some {i : Int} (h : DX X e ds M (T i) M1) : DO X (some e) ds M (some i) M1 := fun Q q => ox_some (h _ ⟨i, rfl, q⟩)
def cut {α : Type} (xs : List α) (lo hi : Option Int) : List α := (xs.drop (HT.sIx xs.length 0 lo)).take (HT.sIx xs.length xs.length hi - HT.sIx xs.length 0 lo)
theorem cut_map {α β : Type} (f : α → β) (xs : List α) (lo hi : Option Int) : cut (xs.map f) lo hi = (cut xs lo hi).map f := by
  unfold cut
  rw [List.length_map, List.map_take, List.map_drop]
theorem rrs_drop {K : PySem.W.Frag} {F : Hp} : ∀ {vs : List V} {rs : List R} (n : Nat), Rrs K F vs rs → Rrs K F (vs.drop n) (rs.drop n)
  | _, _, 0, h => h
  | _, _, n + 1, .nil => .nil
  | _, _, n + 1, .cons _ t => rrs_drop n t
theorem rrs_take {K : PySem.W.Frag} {F : Hp} : ∀ {vs : List V} {rs : List R} (n : Nat), Rrs K F vs rs → Rrs K F (vs.take n) (rs.take n)
  | _, _, 0, h => .nil
  | _, _, n + 1, .nil => .nil
  | _, _, n + 1, .cons a t => .cons a (rrs_take n t)
theorem rrs_cut {K : PySem.W.Frag} {F : Hp} {vs : List V} {rs : List R} (lo hi : Option Int) (h : Rrs K F vs rs) : Rrs K F (cutV vs lo hi) (cut rs lo hi) := by
  unfold cutV cut
  rw [h.length]
  exact rrs_take _ (rrs_drop _ h)
theorem ex_slL {lo hi : Option Expr} {p2 : Pos} (h : EX X e ds M fun r1 M1 => OX X lo ds M1 fun l M2 => OX X hi ds M2 fun u M3 => ∃ (rs : List R), IsL M3 r1 rs ∧ ((∃ ys : List PyData, cut rs l u = ys.map R.d ∧ Q (.d (.list ys)) M3) ∨ ∃ A B, M3 = A ++ B ∧ ∀ q, Q (.v (.ref q)) (A ++ (q, .lst (cut rs l u)) :: B))) : EX X (.Subscript e (.Slice lo hi none p2) pos) ds M Q :=
  ex_pe (pe_slice sl_list (peC e) (poC lo) (poC hi)) fun σ F H s => cE_mono (h σ F H s) fun x H1 ⟨F1, M1, r1, a1, h1, m1, g1⟩ =>
    cO_mono (h1 σ F1 H1 (s.go g1 m1)) fun l H2 ⟨F2, M2, h2, m2, g2⟩ => cO_mono (h2 σ F2 H2 ((s.go g1 m1).go g2 m2)) fun u H3 ⟨F3, M3, ⟨rs, h3, q⟩, m3, g3⟩ => by
      obtain ⟨p, xs, rfl, a, b⟩ := h3.get m3 (a1.up (g2.trans g3).ex)
      refine ⟨p, xs, rfl, a, fun q' nq => Out.trans (g1.trans (g2.trans g3)) ?_⟩
      have w := rrs_cut l u b
      rcases q with ⟨ys, e, q⟩ | ⟨A, B, e, q⟩
      · rw [e] at w
        exact newL m3 w nq q
      · subst e
        exact newLc m3 w nq (q q')
theorem dx_slT {α : Type} [TD α] {xs : List α} {lo hi : Option Expr} {p2 : Pos} {l u : Option Int} (h : DX X e ds M (T xs) M1) (h1 : DO X lo ds M1 l M2) (h2 : DO X hi ds M2 u M3) : DX X (.Subscript e (.Slice lo hi none p2) pos) ds M (T (cut xs l u)) M3 :=
  fun Q q => ex_slL (h _ (h1 _ (h2 _ ⟨_, isL_T xs, .inl ⟨_, by rw [← T_map, cut_map, cut_map], q⟩⟩)))
theorem dx_slS {ns : List Int} {lo hi : Option Expr} {p2 : Pos} {l u : Option Int} (h : DX X e ds M (.s ns) M1) (h1 : DO X lo ds M1 l M2) (h2 : DO X hi ds M2 u M3) : DX X (.Subscript e (.Slice lo hi none p2) pos) ds M (T (cut ns l u)) M3 :=
  fun Q q => ex_slL (h _ (h1 _ (h2 _ ⟨_, .sc ns, .inl ⟨_, by rw [← T_map, cut_map, cut_map], q⟩⟩)))
/-! ### list + list -/
theorem rrs_app {K : PySem.W.Frag} {F : Hp} : ∀ {vs ws : List V} {rs qs : List R}, Rrs K F vs rs → Rrs K F ws qs → Rrs K F (vs ++ ws) (rs ++ qs)
  | _, _, _, _, .nil, h => h
  | _, _, _, _, .cons a t, h => .cons a (rrs_app t h)
theorem ex_cat (h : EX X a ds M fun r1 M1 => EX X b ds M1 fun r2 M2 => ∃ (xs ys : List R), IsM M2 r1 xs ∧ IsM M2 r2 ys ∧ xs.length + ys.length ≤ sizeLine ∧ ((∃ zs : List PyData, xs ++ ys = zs.map R.d ∧ Q (.d (.list zs)) M2) ∨ ∃ A B, M2 = A ++ B ∧ ∀ q, Q (.v (.ref q)) (A ++ (q, .lst (xs ++ ys)) :: B))) : EX X (.BinOp a .Add b pos) ds M Q :=
  ex_op op_cat (fun x y H Q Q' m ⟨l, b, xs, zs, h1, h2, h3, h4, h5, q⟩ => ⟨l, b, xs, zs, h1, h2, h3, h4, h5, fun p np => m _ _ (q p np)⟩) (h.mono fun r1 M1 h => h.mono fun r2 M2 ⟨xs, ys, h1, h2, hl, q⟩ F H x y m w1 w2 => by
    obtain ⟨p, vs, rfl, a, b⟩ := h1.get m w1
    obtain ⟨p', vs', rfl, a', b'⟩ := h2.get m w2
    refine ⟨p, p', vs, vs', rfl, rfl, a, a', by rw [b.length, b'.length]; exact hl, fun z nz => ?_⟩
    have w := rrs_app b b'
    rcases q with ⟨zs, e, q⟩ | ⟨A, B, e, q⟩
    · rw [e] at w
      exact newL m w nz q
    · subst e
      exact newLc m w nz (q z))
theorem dx_catT {α : Type} [TD α] {xs ys : List α} (ha : DX X a ds M (T xs) M1) (hb : DX X b ds M1 (T ys) M2) (hl : xs.length + ys.length ≤ sizeLine) : DX X (.BinOp a .Add b pos) ds M (T (xs ++ ys)) M2 :=
  fun Q q => ex_cat (ha _ (hb _ ⟨_, _, isM_T xs, isM_T ys, by rw [List.length_map, List.length_map]; exact hl, .inl ⟨_, by rw [← T_map, ← T_map, ← List.map_append, ← List.map_append], q⟩⟩))
/-! ### is None -/
def isNo : PyData → Bool
  | .none => true
  | _ => false
theorem dq_non {F : Hp} {v : V} {x : PyData} (h : Dq F v x) : decide (v = .non) = isNo x := by
  cases h <;> rfl
theorem ex_isN {j pos'} (h : EX X a ds M fun r M1 => ∃ x, r = .d x ∧ Q (T (isNo x)) M1) : EX X (.Compare a [.Is] [.Constant .none j pos'] pos) ds M Q := ex_pe (pe_cmp (pc_isN (peC a))) fun σ F H s =>
  cE_mono (h σ F H s) fun v H' ⟨F', M', r, w, ⟨x, e, q⟩, m, g⟩ => by subst e; exact ⟨F', M', _, by rw [dq_non (rr_d.mp w)]; exact rrB, q, m, g⟩
theorem dx_isN {j pos'} {x : PyData} (h : DX X a ds M (.d x) M1) : DX X (.Compare a [.Is] [.Constant .none j pos'] pos) ds M (T (isNo x)) M1 := fun Q q => ex_isN (h _ ⟨x, rfl, q⟩)
theorem dx_notN {j pos'} {x : PyData} (h : DX X a ds M (.d x) M1) : DX X (.Compare a [.IsNot] [.Constant .none j pos'] pos) ds M (T (!isNo x)) M1 := fun Q q => ex_pe (pe_cmp (pc_notN (peC a))) fun σ F H s =>
  cE_mono (h (fun r M' => r = .d x ∧ M' = M1) ⟨rfl, rfl⟩ σ F H s) fun v H' ⟨F', M', r, w, ⟨e1, e2⟩, m, g⟩ => by subst e1 e2; exact ⟨F', _, _, by rw [dq_non (rr_d.mp w)]; exact rrB, q, m, g⟩
/-! ### and, or, not, if else -/
def cW (X : Cx) (e : Expr) : TT := fun σ H Q => ∀ whole pins s, Inv X pins σ H s → wpAny (model X.prog X.w) X.A (isTrue e X.env whole) (TP X pins σ Q) X.xe s
theorem pwC (e : Expr) : PW X e (cW X e) := ⟨fun whole pins s _ _ _ I h => h whole pins s I⟩
def WX (X : Cx) (e : Expr) (ds : List R) (M : Mem) (Q : Bool → Mem → Prop) : Prop := ∀ σ F H, Sta X.K σ ds M F H → cW X e σ H (OutB X.K M F H Q)
def DW (X : Cx) (e : Expr) (ds : List R) (M : Mem) (b : Bool) (M' : Mem) : Prop := ∀ Q : Bool → Mem → Prop, Q b M' → WX X e ds M Q
theorem cW_mono {σ : L2.St} {H : Hp} {Q Q' : Bool → Hp → Prop} (h : cW X e σ H Q) (q : ∀ v H', Q v H' → Q' v H') : cW X e σ H Q' := fun wh pins s I => thn (h wh pins s I) fun _ _ ⟨H', I', z⟩ => ⟨H', I', q _ H' z⟩
theorem tx_w (h : WX X e ds M QB) : TX X e ds M QB := tx_pt (pwC e).pt h
theorem dt_w {k : Bool} (h : DW X e ds M k M1) : DT X e ds M k M1 := fun Q q => tx_w (h Q q)
theorem wx_and1 (h : TX X a ds M QB) : WX X (.BoolOp .And [a] pos) ds M QB := fun σ F H s wh pins sh I => (pw_and1 (ptC a)).run wh pins sh σ H _ I (h σ F H s)
theorem wx_or1 (h : TX X a ds M QB) : WX X (.BoolOp .Or [a] pos) ds M QB := fun σ F H s wh pins sh I => (pw_or1 (ptC a)).run wh pins sh σ H _ I (h σ F H s)
theorem wx_and (h : TX X a ds M fun k M1 => if k = true then WX X (.BoolOp .And (b :: rest) pos) ds M1 QB else QB false M1) : WX X (.BoolOp .And (a :: b :: rest) pos) ds M QB := fun σ F H s wh pins sh I => (pw_and (ptC a) (pwC _)).run wh pins sh σ H _ I
  (cT_mono (h σ F H s) fun k H' ⟨F', M', q, m, g⟩ => by
    cases k with
    | true => exact cW_mono (q σ F' H' (s.go g m)) fun k H' ⟨F', M', q, m, g'⟩ => ⟨F', M', q, m, g.trans g'⟩
    | false => exact ⟨F', M', q, m, g⟩)
theorem wx_or (h : TX X a ds M fun k M1 => if k = true then QB true M1 else WX X (.BoolOp .Or (b :: rest) pos) ds M1 QB) : WX X (.BoolOp .Or (a :: b :: rest) pos) ds M QB := fun σ F H s wh pins sh I => (pw_or (ptC a) (pwC _)).run wh pins sh σ H _ I
  (cT_mono (h σ F H s) fun k H' ⟨F', M', q, m, g⟩ => by
    cases k with
    | false => exact cW_mono (q σ F' H' (s.go g m)) fun k H' ⟨F', M', q, m, g'⟩ => ⟨F', M', q, m, g.trans g'⟩
    | true => exact ⟨F', M', q, m, g⟩)
variable {k1 k2 : Bool}
theorem dw_and1 (h : DT X a ds M k1 M1) : DW X (.BoolOp .And [a] pos) ds M k1 M1 := fun Q q => wx_and1 (h Q q)
theorem dw_or1 (h : DT X a ds M k1 M1) : DW X (.BoolOp .Or [a] pos) ds M k1 M1 := fun Q q => wx_or1 (h Q q)
theorem dw_and (h : DT X a ds M k1 M1) (h2 : k1 = true → DW X (.BoolOp .And (b :: rest) pos) ds M1 k2 M1) : DW X (.BoolOp .And (a :: b :: rest) pos) ds M (k1 && k2) M1 := fun Q q => wx_and (h _ (by
  cases k1 with
  | true => exact h2 rfl Q q
  | false => exact q))
theorem dw_or (h : DT X a ds M k1 M1) (h2 : k1 = false → DW X (.BoolOp .Or (b :: rest) pos) ds M1 k2 M1) : DW X (.BoolOp .Or (a :: b :: rest) pos) ds M (k1 || k2) M1 := fun Q q => wx_or (h _ (by
  cases k1 with
  | false => exact h2 rfl Q q
  | true => exact q))
theorem tx_not (h : TX X a ds M fun k M1 => QB (!k) M1) : TX X (.UnaryOp .Not a pos) ds M QB := tx_pt (pt_not (ptC a)) fun σ F H s => cT_mono (h σ F H s) fun k H' q => q
theorem dt_not (h : DT X a ds M k1 M1) : DT X (.UnaryOp .Not a pos) ds M (!k1) M1 := fun Q q => tx_not (h _ q)
theorem ex_one {op} (h : EX X a ds M Q) : EX X (.BoolOp op [a] pos) ds M Q := ex_pe (pe_one (peC a)) fun σ F H s => h σ F H s
theorem ex_andV (h : EX X a ds M fun r M1 => ∃ k : Bool, r = T k ∧ if k = true then EX X (.BoolOp .And (b :: rest) pos) ds M1 Q else Q (T false) M1) : EX X (.BoolOp .And (a :: b :: rest) pos) ds M Q := ex_pe (pe_and (peC a) (peC _)) fun σ F H s =>
  cE_mono (h σ F H s) fun v H' ⟨F', M', r, w, ⟨k, e, q⟩, m, g⟩ => by
    subst e
    refine ⟨k, rr_bl w, ?_⟩
    cases k with
    | true => exact cE_mono (q σ F' H' (s.go g m)) fun v H' o => Out.trans g o
    | false => exact ⟨F', M', _, rrB, q, m, g⟩
theorem ex_orV (h : EX X a ds M fun r M1 => ∃ k : Bool, r = T k ∧ if k = true then Q (T true) M1 else EX X (.BoolOp .Or (b :: rest) pos) ds M1 Q) : EX X (.BoolOp .Or (a :: b :: rest) pos) ds M Q := ex_pe (pe_or (peC a) (peC _)) fun σ F H s =>
  cE_mono (h σ F H s) fun v H' ⟨F', M', r, w, ⟨k, e, q⟩, m, g⟩ => by
    subst e
    refine ⟨k, rr_bl w, ?_⟩
    cases k with
    | false => exact cE_mono (q σ F' H' (s.go g m)) fun v H' o => Out.trans g o
    | true => exact ⟨F', M', _, rrB, q, m, g⟩
theorem dx_one {op} (h : DX X a ds M r M1) : DX X (.BoolOp op [a] pos) ds M r M1 := fun Q q => ex_one (h Q q)
theorem dx_andV (h : DX X a ds M (T k1) M1) (h2 : k1 = true → DX X (.BoolOp .And (b :: rest) pos) ds M1 (T k2) M1) : DX X (.BoolOp .And (a :: b :: rest) pos) ds M (T (k1 && k2)) M1 := fun Q q => ex_andV (h _ ⟨k1, rfl, by
  cases k1 with
  | true => exact h2 rfl Q q
  | false => exact q⟩)
theorem dx_orV (h : DX X a ds M (T k1) M1) (h2 : k1 = false → DX X (.BoolOp .Or (b :: rest) pos) ds M1 (T k2) M1) : DX X (.BoolOp .Or (a :: b :: rest) pos) ds M (T (k1 || k2)) M1 := fun Q q => ex_orV (h _ ⟨k1, rfl, by
  cases k1 with
  | false => exact h2 rfl Q q
  | true => exact q⟩)
theorem dx_notV (h : DX X a ds M (T k1) M1) : DX X (.UnaryOp .Not a pos) ds M (T (!k1)) M1 := fun Q q => ex_pe (pe_not (peC a)) fun σ F H s =>
  cE_mono (h (fun r M' => r = T k1 ∧ M' = M1) ⟨rfl, rfl⟩ σ F H s) fun v H' ⟨F', M', r, w, ⟨e1, e2⟩, m, g⟩ => by subst e1 e2; exact ⟨k1, rr_bl w, F', _, _, rrB, q, m, g⟩
theorem ex_if (h : TX X c ds M fun k M1 => if k = true then EX X a ds M1 Q else EX X b ds M1 Q) : EX X (.IfExp c a b pos) ds M Q := ex_pe (pe_ifExp (ptC c) (peC a) (peC b)) fun σ F H s =>
  cT_mono (h σ F H s) fun k H' ⟨F', M', q, m, g⟩ => by
    cases k with
    | true => exact cE_mono (q σ F' H' (s.go g m)) fun v H' o => Out.trans g o
    | false => exact cE_mono (q σ F' H' (s.go g m)) fun v H' o => Out.trans g o
theorem dx_ifT {α : Type} [TD α] {x y : α} (h : DT X c ds M k1 M1) (h1 : k1 = true → DX X a ds M1 (T x) M2) (h2 : k1 = false → DX X b ds M1 (T y) M2) : DX X (.IfExp c a b pos) ds M (T (if k1 = true then x else y)) M2 := fun Q q => ex_if (h _ (by
  cases k1 with
  | true => exact h1 rfl Q q
  | false => exact h2 rfl Q q))
end
end Hq
/-! Stmt: statements, loops, comprehensions. -/
namespace Hq
open PySem PySem.Spec PyProof.Rows L2
section
variable {X : Cx} {e a b c : Expr} {es : List Expr} {st : Stmt} {rest A B : List Stmt} {ds ds' : List R} {M M1 M2 M3 : Mem} {pos p : Pos} {D : Po} {r r1 r2 r3 : R} {rs : List R}
/-- what stands behind goes on -/
abbrev Po.then (D : Po) (X : Cx) (rest : List Stmt) : Po := { D with nx := fun ds M => BX X rest ds M D }
theorem outD_then {K : PySem.W.Frag} {F H : Hp} {σ : L2.St} {H' : Hp} {D : Po} (hK : X.K = K) (h : OutS K M F H (fun ds M => BX X rest ds M D) σ H') : cB X rest (OutD K M F H D) σ H' := by
  subst hK
  obtain ⟨F', M', ds', a, b, c, g⟩ := h
  exact cB_mono (b σ F' H' ⟨a, c⟩) (outD_go g)
theorem bx_cons (h : SX X st ds M (D.then X rest)) : BX X (st :: rest) ds M D := bx_pss (pss_cons (psC st) (pbC rest)) fun σ F H s => by
  have q := h σ F H s
  show cS X st { (OutD X.K M F H D) with nx := cB X rest (OutD X.K M F H D) } σ H
  exact cS_mono q ⟨fun σ' H' z => outD_then rfl z, fun _ _ z => z, fun _ _ z => z, fun _ _ z => z⟩
theorem bx_nil (h : D.nx ds M) : BX X [] ds M D := bx_pss pss_nil fun σ F H s => ⟨F, M, ds, s.sl, h, s.ms, Go.refl⟩
/-- the joining of ways behind a statement -/
theorem bx_cut (P : List R → Mem → Prop) (h : SX X st ds M { D with nx := P }) (h2 : ∀ ds M, P ds M → BX X rest ds M D) : BX X (st :: rest) ds M D :=
  bx_cons fun σ F H s => cS_mono (h σ F H s) ⟨fun σ' H' ⟨F', M', ds', a, b, c, g⟩ => ⟨F', M', ds', a, h2 _ _ b, c, g⟩, fun _ _ z => z, fun _ _ z => z, fun _ _ z => z⟩
/-- the state seen otherwise: slots forgotten -/
theorem bx_weak (w : Wk ds ds') (h : BX X A ds' M D) : BX X A ds M D := fun σ F H s => h σ F H ⟨s.sl.weak w, s.ms⟩
/-- cells forgotten -/
theorem bx_drop (w : M1.Sublist M) (h : BX X A ds M1 D) : BX X A ds M D := fun σ F H s => by
  have k := s.ms.drop w
  exact cB_mono (h σ F H ⟨s.sl, k.1⟩) (outD_go k.2)
theorem bx_perm (w : M1.Perm M) (h : BX X A ds M1 D) : BX X A ds M D := fun σ F H s => by
  have k := s.ms.perm w
  exact cB_mono (h σ F H ⟨s.sl, k.1⟩) (outD_go k.2)
/-- a cell of data frozen -/
def Frz (p : Addr) (x : PyData) : List R → List R → Prop
  | [], [] => True
  | a :: as, b :: bs => (a = b ∨ b = .no ∨ (a = .v (.ref p) ∧ b = .d x)) ∧ Frz p x as bs
  | _, _ => False
theorem Frz.spec {p : Addr} {x : PyData} : ∀ {ds ds' : List R}, Frz p x ds ds' → ds.length = ds'.length ∧ ∀ (i : Nat) (r : R), ds'[i]? = some r → r ≠ R.no → ds[i]? = some r ∨ (ds[i]? = some (.v (.ref p)) ∧ r = .d x)
  | [], [], _ => ⟨rfl, fun i r a _ => .inl a⟩
  | a :: as, b :: bs, h => by
    obtain ⟨h1, h2⟩ := h
    obtain ⟨l, s⟩ := Frz.spec h2
    refine ⟨by simp [l], fun i r e n => ?_⟩
    cases i with
    | zero =>
      have e' : b = r := by simpa using e
      subst e'
      rcases h1 with z | z | ⟨z, z2⟩
      · exact .inl (by simp [z])
      · exact absurd z n
      · exact .inr ⟨by simp [z], z2⟩
    | succ i => simpa using s i r (by simpa using e) n
  | [], _ :: _, h => h.elim
  | _ :: _, [], h => h.elim
theorem bx_freeze (U : Mem) {W : Mem} {q : Addr} {xs : List PyData} (hM : M = U ++ (q, .lst (xs.map R.d)) :: W) (w : Frz q (.list xs) ds ds') (h : BX X A ds' (U ++ W) D) : BX X A ds M D := fun σ F H s => by
  subst hM
  obtain ⟨zs, z1, z2⟩ := (s.ms.mem q _ (List.mem_append_right U (List.mem_cons_self))).2
  have k := s.ms.freeze z1
  have dq : Dq (upd F q (.lst zs)) (.ref q) (.list xs) := .lst upd_same (rrs_dqs (z2.up k.2.ex))
  obtain ⟨l, sp⟩ := w.spec
  refine cB_mono (h σ _ H ⟨⟨s.sl.1.trans l, fun i r a n => ?_⟩, k.1⟩) (outD_go k.2)
  rcases sp i r a n with z | ⟨z, e⟩
  · obtain ⟨v, a, b⟩ := s.sl.2 i r z n
    exact ⟨v, a, b.up k.2.ex⟩
  · subst e
    obtain ⟨v, a, b⟩ := s.sl.2 i _ z (by nofun)
    have b := rr_v.mp b
    subst b
    exact ⟨_, a, rr_d.mpr dq⟩
/-! ### small statements -/
theorem sx_ret (h : EX X e ds M D.rt) : SX X (.Return (some e) pos) ds M D := sx_ps (ps_ret (peC e)) fun σ F H s => h σ F H s
theorem bx_ret (h : EX X e ds M D.rt) : BX X (.Return (some e) pos :: rest) ds M D := bx_cons (sx_ret h)
theorem bx_retD (h : DX X e ds M r M1) (q : D.rt r M1) : BX X (.Return (some e) pos :: rest) ds M D := bx_ret (h _ q)
theorem bx_retN (q : D.rt (.d .none) M) : BX X (.Return none pos :: rest) ds M D := bx_cons (sx_ps ps_retN fun σ F H s => Out.mk0 s.ms rrN q)
theorem bx_expr (h : EX X e ds M fun _ M1 => BX X rest ds M1 D) (hs : swapsWith e none pos.line X.env = pure false := by first | exact sw_not rfl | rfl) : BX X (.Expr e pos :: rest) ds M D := bx_cons (sx_ps (ps_expr (peC e) hs) fun σ F H s =>
  cE_mono (h σ F H s) fun v H' ⟨F', M', r, a, b, c, g⟩ => ⟨F', M', ds, s.sl.up g.ex, b, c, g⟩)
theorem bx_pass (h : BX X rest ds M D) : BX X (.Pass pos :: rest) ds M D := bx_cons (sx_ps ps_pass fun σ F H s => ⟨F, M, ds, s.sl, h, s.ms, Go.refl⟩)
theorem bx_break (h : D.bk ds M) : BX X (.Break pos :: rest) ds M D := bx_cons (sx_ps ps_break fun σ F H s => ⟨F, M, ds, s.sl, h, s.ms, Go.refl⟩)
theorem bx_continue (h : D.ct ds M) : BX X (.Continue pos :: rest) ds M D := bx_cons (sx_ps ps_continue fun σ F H s => ⟨F, M, ds, s.sl, h, s.ms, Go.refl⟩)
/-- x = e -/
theorem bx_set (i : Nat) {x : Str} {pos' : Pos} (hN : X.N.Nodup) (h : EX X e ds M fun r M1 => BX X rest (ds.set i r) M1 D) (hi : X.N[i]? = some x := by rfl) (hx : Loc X.env.scope x := by first | exact Or.inl rfl | exact Or.inr rfl) (hs : swapsWith e (some (.Name x pos')) pos.line X.env = pure false := by first | exact sw_not rfl | rfl)
    (hf : X.fn x = true ∨ X.env.scope.names.lookup x = some .local := by first | exact .inl rfl | exact .inr rfl) : BX X (.Assign [.Name x pos'] e pos :: rest) ds M D := bx_cons (sx_ps (ps_set hN hi hx (peC e) hs hf) fun σ F H s =>
  cE_mono (h σ F H s) fun v H' ⟨F', M', r, a, b, c, g⟩ => ⟨F', M', _, (s.sl.up g.ex).set a, b, c, g⟩)
theorem bx_setD (i : Nat) {x : Str} {pos' : Pos} (hN : X.N.Nodup) (h : DX X e ds M r M1) (k : BX X rest (ds.set i r) M1 D) (hi : X.N[i]? = some x := by rfl) (hx : Loc X.env.scope x := by first | exact Or.inl rfl | exact Or.inr rfl) (hs : swapsWith e (some (.Name x pos')) pos.line X.env = pure false := by first | exact sw_not rfl | rfl)
    (hf : X.fn x = true ∨ X.env.scope.names.lookup x = some .local := by first | exact .inl rfl | exact .inr rfl) : BX X (.Assign [.Name x pos'] e pos :: rest) ds M D := bx_set i hN (h _ k) hi hx hs hf
/-- a, b = x, y -/
theorem bx_par (i j : Nat) {x y : Str} {px py pt : Pos} {kt k2 pt2} (hc : X.calm = true) (hN : X.N.Nodup) (h : AX X [a, b] ds M fun rs M1 => ∃ r1 r2, rs = [r1, r2] ∧ BX X rest ((ds.set i r1).set j r2) M1 D) (hi : X.N[i]? = some x := by rfl) (hj : X.N[j]? = some y := by rfl) (hij : i ≠ j := by decide)
    (hx : X.env.scope.names.lookup x = some .local := by rfl) (hy : X.env.scope.names.lookup y = some .local := by rfl) (hw : swappedStores [.Tuple [.Name x px, .Name y py] kt pt] (.Tuple [a, b] k2 pt2) X.env = pure (some [x, y]) := by rfl)
    (hs : swapsWithSole [.Tuple [.Name x px, .Name y py] kt pt] (.Tuple [a, b] k2 pt2) pos.line X.env = pure false := by rfl) : BX X (.Assign [.Tuple [.Name x px, .Name y py] kt pt] (.Tuple [a, b] k2 pt2) pos :: rest) ds M D := bx_cons (sx_ps (ps_par hc hN hi hj hij hx hy (paC _) hw hs) fun σ F H s =>
  cA_mono (h σ F H s) fun vs H' ⟨F', M', rs, a, ⟨r1, r2, e, b⟩, c, g⟩ => by
    subst e
    obtain ⟨v, w, e, w1, w2⟩ := rrs2 a
    exact ⟨v, w, e, F', M', _, ((s.sl.up g.ex).set w1).set w2, b, c, g⟩)
/-- target = e -/
theorem bx_asg {tg : Expr} (h : EX X e ds M fun r M1 => GX X tg r ds M1 fun ds' M2 => BX X rest ds' M2 D) (hs : swapsWithSole [tg] e pos.line X.env = pure false := by first | exact sws_not rfl | rfl) (hw : swappedStores [tg] e X.env = pure none := by rfl)
    (h1 : (assignEach [tg] X.env).map (·.2) = [assign tg X.env] := by exact as_any rfl) : BX X (.Assign [tg] e pos :: rest) ds M D := bx_cons (sx_ps (ps_asg (peC e) (pgC tg) hs hw h1) fun σ F H s =>
  cE_mono (h σ F H s) fun v H' ⟨F', M', r, a, b, c, g⟩ => cG_mono (b σ F' H' v (s.go g c) a) fun σ' H2 ⟨F2, M2, ds', a2, b2, c2, g2⟩ => ⟨F2, M2, ds', a2, b2, c2, g.trans g2⟩)
/-- x += e, x -= e of ints -/
theorem bx_augI (i : Nat) {x : Str} {pos' : Pos} {op : Operator} {f : Int → Int → Int} {n : Int} (ho : PIp X op (ipI f)) (hN : X.N.Nodup) (hv : ds[i]? = some (T n)) (h : EX X e ds M fun r M1 => ∃ m : Int, r = T m ∧ BX X rest (ds.set i (T (f n m))) M1 D) (hi : X.N[i]? = some x := by rfl) (hx : Loc X.env.scope x := by first | exact Or.inl rfl | exact Or.inr rfl)
    (hf : X.fn x = true ∨ X.env.scope.names.lookup x = some .local := by first | exact .inl rfl | exact .inr rfl) : BX X (.AugAssign (.Name x pos') op e pos :: rest) ds M D := bx_cons (sx_ps (ps_aug hN hi hx (peC e) ho hf) fun σ F H s => by
  obtain ⟨v, a, w⟩ := s.sl.2 i _ hv (by nofun)
  refine ⟨v, a, cE_mono (h σ F H s) fun u H' ⟨F', M', r, a, ⟨m, e, b⟩, c, g⟩ => ?_⟩
  subst e
  exact ⟨n, m, rr_int w, rr_int a, F', M', _, (s.sl.up g.ex).set rrI, b, c, g⟩)
/-- if -/
theorem sx_if (h : TX X c ds M fun k M1 => if k = true then BX X A ds M1 D else BX X B ds M1 D) : SX X (.If c A B pos) ds M D := sx_ps (ps_if (ptC c) (pbC A) (pbC B)) fun σ F H s =>
  cT_mono (h σ F H s) fun k H' ⟨F', M', q, m, g⟩ => by
    cases k with
    | true => exact cB_mono (q σ F' H' (s.go g m)) (outD_go g)
    | false => exact cB_mono (q σ F' H' (s.go g m)) (outD_go g)
theorem bx_if (h : TX X c ds M fun k M1 => if k = true then BX X A ds M1 (D.then X rest) else BX X B ds M1 (D.then X rest)) : BX X (.If c A B pos :: rest) ds M D := bx_cons (sx_if h)
theorem bx_ifD {k : Bool} (h : DT X c ds M k M1) (h1 : k = true → BX X A ds M1 (D.then X rest)) (h2 : k = false → BX X B ds M1 (D.then X rest)) : BX X (.If c A B pos :: rest) ds M D := bx_if (h _ (by
  cases k with
  | true => exact h1 rfl
  | false => exact h2 rfl))
/-! ### targets -/
theorem gx_name (i : Nat) {x : Str} {Q : List R → Mem → Prop} (hN : X.N.Nodup) (q : Q (ds.set i r) M) (hi : X.N[i]? = some x := by rfl) (hx : Loc X.env.scope x := by first | exact Or.inl rfl | exact Or.inr rfl) (hf : X.fn x = true ∨ X.env.scope.names.lookup x = some .local := by first | exact .inl rfl | exact .inr rfl) : GX X (.Name x pos) r ds M Q :=
  gx_pg (pg_name hN hi hx hf) fun σ F H v s w => ⟨F, M, _, s.sl.set w, q, s.ms, Go.refl⟩
def cGs (X : Cx) (ts : List Expr) : TGs := fun vs σ H Q => ∀ pins s us, Inv X pins σ H s → Vals vs us → wpAny (model X.prog X.w) X.A (assignInOrder ((assignEach ts X.env).map (·.2)) us) (fun _ s' => ∃ σ' H', Inv X pins σ' H' s' ∧ Q σ' H') X.xe s
theorem pgsC (ts : List Expr) : PGs X ts (cGs X ts) := ⟨fun pins s _ _ _ us _ I r h => h pins s us I r⟩
def GsX (X : Cx) (ts : List Expr) (rs : List R) (ds : List R) (M : Mem) (Q : List R → Mem → Prop) : Prop := ∀ σ F H vs, Sta X.K σ ds M F H → Rrs X.K F vs rs → cGs X ts vs σ H (OutS X.K M F H Q)
theorem gsx_nil {Q : List R → Mem → Prop} (q : Q ds M) : GsX X [] [] ds M Q := fun σ F H vs s w pins sh us I r => by
  cases w
  exact pgs_nil.run pins sh σ H [] us _ I r ⟨rfl, F, M, ds, s.sl, q, s.ms, Go.refl⟩
theorem gsx_cons {tg : Expr} {ts : List Expr} {Q : List R → Mem → Prop} (h : GX X tg r ds M fun ds' M' => GsX X ts rs ds' M' Q) (hs : (assignEach (tg :: ts) X.env).map (·.2) = assign tg X.env :: (assignEach ts X.env).map (·.2) := by exact as_any rfl) : GsX X (tg :: ts) (r :: rs) ds M Q := fun σ F H vs s w pins sh us I rr => by
  cases w with
  | @cons v _ vs' _ w1 w2 =>
    refine (pgs_cons (pgC tg) (pgsC ts) hs).run pins sh σ H (v :: vs') us _ I rr ⟨v, vs', rfl, cG_mono (h σ F H v s w1) fun σ' H' ⟨F', M', ds', a, b, c, g⟩ => ?_⟩
    intro pins sh us I rr
    refine thn (b σ' F' H' vs' ⟨a, c⟩ (Rrs.up g.ex w2) pins sh us I rr) fun _ _ ⟨σ2, H2, I2, F2, M2, ds2, a2, b2, c2, g2⟩ => ⟨σ2, H2, I2, F2, M2, ds2, a2, b2, c2, g.trans g2⟩
theorem gx_tup {k : Nat} {Q : List R → Mem → Prop} (hc : X.calm = true) (ht : IsT M r rs) (h : GsX X es rs ds M Q) (hn : (assignEach es X.env).length = rs.length := by rfl) (hst : (assignEach es X.env).findIdx? (·.1) = none := by rfl) : GX X (.Tuple es k pos) r ds M Q :=
  gx_pg (pg_tup hc (pgsC es) rfl hst) fun σ F H v s w => by
    obtain ⟨p, xs, e, a, b⟩ := ht.get s.ms w
    exact ⟨p, xs, e, SqT.of a, by rw [b.length, hn], h σ F H xs s b⟩
/-- o[i] = .. of a cell -/
theorem gx_subL {o i : Expr} {Q : List R → Mem → Prop} (h : EX X o ds M fun r1 M1 => EX X i ds M1 fun r2 M2 => ∃ (U W : Mem) (q : Addr) (xs : List R) (k : Int) (j : Nat), r1 = .v (.ref q) ∧ r2 = T k ∧ M2 = U ++ (q, .lst xs) :: W ∧ ixN xs.length k = some j ∧ Q ds (U ++ (q, .lst (xs.set j r)) :: W))
    (ha : ∀ v, assign (.Subscript o i pos) X.env v = (do
      let ov ← holding [v] (eval o X.env)
      let iv ← holding [v, ov] (eval i X.env)
      standAt pos
      holding [v, ov, iv] (setItem ov iv v)
      release [v, ov, iv] []) := by intro _; rfl) : GX X (.Subscript o i pos) r ds M Q :=
  gx_pg (pg_sub (peC o) (peC i) set_list ha) fun σ F H v s w => cE_mono (h σ F H s) fun x H1 ⟨F1, M1, r1, a1, h1, m1, g1⟩ =>
    cE_mono (h1 σ F1 H1 (s.go g1 m1)) fun y H2 ⟨F2, M2, r2, a2, ⟨U, W, q, xs, k, j, e1, e2, e3, e4, qq⟩, m2, g2⟩ => by
      subst e1 e2 e3
      obtain ⟨zs, z1, z2⟩ := (m2.mem q _ (List.mem_append_right U (List.mem_cons_self))).2
      have ex := (g1.trans g2).ex
      have kk := m2.write (c' := .lst (xs.set j r)) (o := .lst (zs.set j v)) ⟨_, upd_same, rrs_set j z2 (w.up ex)⟩
      exact ⟨q, zs, k, j, rr_v.mp a1, rr_int a2, z1, by rw [z2.length]; exact e4, F2, _, ds, s.sl.up ex, qq, kk.1, (g1.trans g2).trans kk.2⟩
where rrs_set {K : PySem.W.Frag} {F : Hp} {v : V} {r : R} (j : Nat) : ∀ {vs : List V} {rs : List R}, Rrs K F vs rs → Rr K F v r → Rrs K F (vs.set j v) (rs.set j r) := by
        induction j with
        | zero => intro vs rs h w; cases h with | nil => exact .nil | cons a b => exact .cons w b
        | succ j ih => intro vs rs h w; cases h with | nil => exact .nil | cons a b => exact .cons a (ih b w)
/-! ### what is walked -/
structure Walk (K : PySem.W.Frag) (J : It) (rs : List R) (F0 : Hp) (keep : Mem → Prop) : Prop where
  stop : ∀ M F H, Same F0 F → keep M → Ms K M F H → J.stop rs.length H
  step : ∀ (i : Nat) r M F H, rs[i]? = some r → Same F0 F → keep M → Ms K M F H → J.go i H ∧ ∀ x H', J.yld i H x H' → ∃ F', Rr K F' x r ∧ Ms K M F' H' ∧ Go M F H M F' H'
def OutI (K : PySem.W.Frag) (M : Mem) (F H : Hp) (Q : List R → (Mem → Prop) → Mem → Prop) : It → Hp → Prop := fun J H' => ∃ F' M' rs keep, Walk K J rs F' keep ∧ Q rs keep M' ∧ keep M' ∧ Ms K M' F' H' ∧ Go M F H M' F' H'
def IX (X : Cx) (tg iter : Expr) (ds : List R) (M : Mem) (Q : List R → (Mem → Prop) → Mem → Prop) : Prop := ∀ σ F H, Sta X.K σ ds M F H → cI X tg iter σ H (OutI X.K M F H Q)
theorem ix_pi {tg iter : Expr} {t : TI} {Q : List R → (Mem → Prop) → Mem → Prop} (h : PI X tg iter t) (q : ∀ σ F H, Sta X.K σ ds M F H → t σ H (OutI X.K M F H Q)) : IX X tg iter ds M Q := fun σ F H s pins sh I => h.run pins sh σ H _ I (q σ F H s)
/-- a list: frozen, or the script -/
inductive IsF : R → List R → Prop
  | fz (xs : List PyData) : IsF (.d (.list xs)) (xs.map R.d)
  | sc (ns : List Int) : IsF (.s ns) (ns.map T)
theorem isF_T {α : Type} [TD α] (xs : List α) : IsF (T xs) (xs.map T) := by rw [← T_map]; exact .fz _
theorem IsF.get {K : PySem.W.Frag} {F : Hp} {v : V} {r : R} {rs : List R} (h : IsF r rs) (q : Rr K F v r) : ∃ p xs, v = .ref p ∧ SqL K F p xs ∧ Rrs K F xs rs := by
  cases h with
  | fz xs =>
    have q := rr_d.mp q
    cases q with
    | lst a b => exact ⟨_, _, rfl, SqL.of a, dqs_rrs b⟩
  | sc ns =>
    obtain ⟨a, rfl, c⟩ := rr_s.mp q
    exact ⟨a, _, rfl, c, ints_rrs ns⟩
theorem walk_list {K : PySem.W.Frag} {F0 : Hp} {q : Addr} {xs : List V} {rs : List R} {keep : Mem → Prop} (hs : ∀ M F H, Same F0 F → keep M → Ms K M F H → SqL K H q xs ∧ Rrs K F xs rs) : Walk K (Itl K q) rs F0 keep := by
  refine ⟨fun M F H e k m => ?_, fun i r M F H hi e k m => ?_⟩
  · obtain ⟨h1, h2⟩ := hs M F H e k m
    exact ⟨xs, h1, by rw [h2.length]; exact Nat.le_refl _⟩
  · obtain ⟨h1, h2⟩ := hs M F H e k m
    obtain ⟨v, a, b⟩ := rrs_get h2 hi
    refine ⟨⟨xs, v, h1, a⟩, fun x H' ⟨e1, y⟩ => ?_⟩
    subst e1
    have e2 : x = v := Option.some.inj ((y xs h1).symm.trans a)
    subst e2
    exact ⟨F, b, m, Go.refl⟩
theorem ix_list {tg : Expr} {Q : List R → (Mem → Prop) → Mem → Prop} (h : EX X e ds M fun r M1 => ∃ rs, (IsF r rs ∧ Q rs (fun _ => True) M1) ∨ ∃ q, r = .v (.ref q) ∧ (q, Cell.lst rs) ∈ M1 ∧ Q rs (fun M => (q, Cell.lst rs) ∈ M) M1) : IX X tg e ds M Q := ix_pi (pi_list (peC e)) fun σ F H s =>
  cE_mono (h σ F H s) fun v H' ⟨F', M', r, w, ⟨rs, q⟩, m, g⟩ => by
    rcases q with ⟨hf, q⟩ | ⟨p, e1, hm, q⟩
    · obtain ⟨p, xs, e1, a, b⟩ := hf.get w
      subst e1
      exact ⟨p, rfl, ⟨xs, m.ex.seq a⟩, F', M', rs, _, walk_list fun M F H e _ mm => ⟨mm.ex.seq (e.seq a), b.up e⟩, q, trivial, m, g⟩
    · subst e1
      have e2 := rr_v.mp w
      subst e2
      obtain ⟨xs, a, b⟩ := (m.mem _ _ hm).2
      refine ⟨p, rfl, ⟨xs, SqL.of a⟩, F', M', rs, _, ⟨fun M F H e k mm => ?_, fun i r M F H hi e k mm => ?_⟩, q, hm, m, g⟩
      · obtain ⟨ys, a, b⟩ := (mm.mem _ _ k).2
        exact ⟨ys, SqL.of a, by rw [b.length]; exact Nat.le_refl _⟩
      · obtain ⟨ys, a, b⟩ := (mm.mem _ _ k).2
        obtain ⟨v, a', b'⟩ := rrs_get b hi
        refine ⟨⟨ys, v, SqL.of a, a'⟩, fun x H' ⟨e1, y⟩ => ?_⟩
        subst e1
        have e2 : x = v := Option.some.inj ((y ys (SqL.of a)).symm.trans a')
        subst e2
        exact ⟨F, b', mm, Go.refl⟩
theorem ix_listT {α : Type} [TD α] {xs : List α} {tg : Expr} {Q : List R → (Mem → Prop) → Mem → Prop} (h : DX X e ds M (T xs) M1) (q : Q (xs.map T) (fun _ => True) M1) : IX X tg e ds M Q := ix_list (h _ ⟨_, .inl ⟨isF_T xs, q⟩⟩)
def rgR (n : Nat) : List R := (List.range n).map fun (i : Nat) => T (i : Int)
theorem rgR_get {n i : Nat} {r : R} (h : (rgR n)[i]? = some r) : i < n ∧ r = T (i : Int) := by
  unfold rgR at h
  rw [List.getElem?_map] at h
  by_cases hi : i < n
  · rw [List.getElem?_range hi] at h
    exact ⟨hi, (Option.some.inj h).symm⟩
  · rw [List.getElem?_eq_none (by simpa using hi)] at h; cases h
theorem rgR_len (n : Nat) : (rgR n).length = n := by simp [rgR]
theorem ix_range {tg : Expr} {Q : List R → (Mem → Prop) → Mem → Prop} (hm : X.mg "range" = none) (h : EX X e ds M fun r M1 => ∃ n : Int, r = T n ∧ n < 2 ^ 62 ∧ -(2 ^ 62) ≤ n ∧ Q (rgR n.toNat) (fun _ => True) M1) (hg : Gl X "range" := by rfl) (hs : starEach [e] X.env = [(false, eval e X.env)] := by exact st_any rfl) : IX X tg (.Call (.Name "range" p) [e] [] pos) ds M Q :=
  ix_pi (pi_range1 hg hm (pa_cons (peC e) pa_nil hs) hs) fun σ F H s => cE_mono (h σ F H s) fun v H' ⟨F', M', r, w, ⟨n, e1, l, l2, q⟩, m, g⟩ => by
    subst e1
    refine ⟨n, by rw [rr_int w], l2, l, F', M', rgR n.toNat, _, ⟨fun M F H e k mm => ?_, fun i r M F H hi e k mm => ?_⟩, q, trivial, m, g⟩
    · show n.toNat ≤ (rgR n.toNat).length
      rw [rgR_len]
      exact Nat.le_refl _
    · obtain ⟨hi2, e3⟩ := rgR_get hi
      subst e3
      refine ⟨hi2, fun x H' ⟨e1, y⟩ => ?_⟩
      subst e1 y
      exact ⟨F, by rw [Int.zero_add]; exact rrI, mm, Go.refl⟩
theorem ix_rangeD {tg : Expr} {n : Int} {Q : List R → (Mem → Prop) → Mem → Prop} (hm : X.mg "range" = none) (h : DX X e ds M (T n) M1) (l : n < 2 ^ 62) (l2 : -(2 ^ 62) ≤ n) (q : Q (rgR n.toNat) (fun _ => True) M1) (hg : Gl X "range" := by rfl) (hs : starEach [e] X.env = [(false, eval e X.env)] := by exact st_any rfl) : IX X tg (.Call (.Name "range" p) [e] [] pos) ds M Q :=
  ix_range hm (h _ ⟨n, rfl, l, l2, q⟩) hg hs
/-! ### for -/
theorem bx_for {tg iter : Expr} {body : List Stmt} (hc : X.calm = true) (hp : PassesOwn (model X.prog X.w) X.A X.env X.xe) (h : IX X tg iter ds M fun rs keep M1 => ∃ I : Nat → List R → Mem → Prop, I 0 ds M1 ∧ (∀ i ds M, I i ds M → keep M) ∧
    (∀ i r ds M, rs[i]? = some r → I i ds M → GX X tg r ds M fun ds' M' => BX X body ds' M' { D with nx := I (i + 1), ct := I (i + 1), bk := fun ds M => BX X rest ds M D }) ∧ ∀ ds M, I rs.length ds M → BX X rest ds M D)
    (hs : ∀ x, foldedSetIterable iter X.env x = pure x := by intro _; rfl) : BX X (.For tg iter body [] pos :: rest) ds M D := bx_cons (sx_ps (ps_for hp hc (piC tg iter) (pgC tg) (pbC body) hs) fun σ F H s =>
  cI_mono (h σ F H s) fun J H1 ⟨F1, M1, rs, keep, wk, ⟨I, h0, hk, hb, hd⟩, k1, m1, g1⟩ => by
    refine ⟨fun i m σ' H' => m = rs.length - i ∧ i ≤ rs.length ∧ ∃ F' M' ds', Sta X.K σ' ds' M' F' H' ∧ Go M F H M' F' H' ∧ Same F1 F' ∧ I i ds' M', ⟨rs.length, by simp, Nat.zero_le _, F1, M1, ds, s.go g1 m1, g1, Same.refl _, h0⟩, ?_⟩
    rintro i m σ' H' ⟨rfl, hi, F', M', ds', s', g', e', inv⟩
    by_cases hlt : i < rs.length
    · have hr : rs[i]? = some rs[i] := by simp [hlt]
      obtain ⟨go, st⟩ := wk.step i rs[i] M' F' H' hr e' (hk _ _ _ inv) s'.ms
      refine .inr ⟨go, fun σ2 H2 => ∃ F2 M2 ds2, Sta X.K σ2 ds2 M2 F2 H2 ∧ Go M F H M2 F2 H2 ∧ Same F1 F2 ∧ I (i + 1) ds2 M2, fun σ2 H2 q => ⟨rs.length - (i + 1), by omega, rfl, hlt, q⟩, fun x H2 y => ?_⟩
      obtain ⟨F2, w2, m2, g2⟩ := st x H2 y
      refine cG_mono (hb i rs[i] ds' M' hr inv σ' F2 H2 x (s'.go g2 m2) w2) fun σ3 H3 ⟨F3, M3, ds3, a3, b3, c3, g3⟩ => ?_
      have g4 := (g'.trans g2).trans g3
      have e4 : Same F1 F3 := e'.trans (g2.ex.trans g3.ex)
      refine cB_mono (b3 σ3 F3 H3 ⟨a3, c3⟩) ⟨?_, ?_, ?_, ?_⟩
      · exact fun σ5 H5 ⟨F5, M5, ds5, a5, b5, c5, g5⟩ => ⟨F5, M5, ds5, ⟨a5, c5⟩, g4.trans g5, e4.trans g5.ex, b5⟩
      · exact fun v5 H5 o => Out.trans g4 o
      · exact fun σ5 H5 ⟨F5, M5, ds5, a5, b5, c5, g5⟩ => ⟨F5, M5, ds5, a5, b5, c5, g4.trans g5⟩
      · exact fun σ5 H5 ⟨F5, M5, ds5, a5, b5, c5, g5⟩ => ⟨F5, M5, ds5, ⟨a5, c5⟩, g4.trans g5, e4.trans g5.ex, b5⟩
    · have e5 : i = rs.length := by omega
      subst e5
      exact .inl ⟨wk.stop M' F' H' e' (hk _ _ _ inv) s'.ms, F', M', ds', s'.sl, hd _ _ inv, s'.ms, g'⟩)
/-- while, by an invariant and a measure -/
theorem bx_while {body : List Stmt} (hp : PassesOwn (model X.prog X.w) X.A X.env X.xe) (I : List R → Mem → Nat → Prop) (n : Nat) (h0 : I ds M n) (hb : ∀ ds M n, I ds M n → TX X c ds M fun k M1 => if k = true then BX X body ds M1 { D with nx := fun ds M => ∃ m, m < n ∧ I ds M m, ct := fun ds M => ∃ m, m < n ∧ I ds M m, bk := fun ds M => BX X rest ds M D } else BX X rest ds M1 D) :
    BX X (.While c body [] pos :: rest) ds M D := bx_cons (sx_ps (ps_while hp (ptC c) (pbC body)) fun σ F H s => by
  refine ⟨fun m σ' H' => ∃ F' M' ds', Sta X.K σ' ds' M' F' H' ∧ Go M F H M' F' H' ∧ I ds' M' m, ⟨n, F, M, ds, s, Go.refl, h0⟩, ?_⟩
  rintro m σ' H' ⟨F', M', ds', s', g', inv⟩
  refine cT_mono (hb ds' M' m inv σ' F' H' s') fun k H2 ⟨F2, M2, q, m2, g2⟩ => ?_
  have g3 := g'.trans g2
  cases k with
  | true =>
    refine ⟨fun σ2 H2 => ∃ m', m' < m ∧ ∃ F' M' ds', Sta X.K σ2 ds' M' F' H2 ∧ Go M F H M' F' H2 ∧ I ds' M' m', fun σ2 H2 ⟨m', l, z⟩ => ⟨m', l, z⟩, ?_⟩
    refine cB_mono (q σ' F2 H2 (s'.go g2 m2)) ⟨?_, ?_, ?_, ?_⟩
    · exact fun σ5 H5 ⟨F5, M5, ds5, a5, ⟨m', l, b5⟩, c5, g5⟩ => ⟨m', l, F5, M5, ds5, ⟨a5, c5⟩, g3.trans g5, b5⟩
    · exact fun v5 H5 o => Out.trans g3 o
    · exact fun σ5 H5 ⟨F5, M5, ds5, a5, b5, c5, g5⟩ => ⟨F5, M5, ds5, a5, b5, c5, g3.trans g5⟩
    · exact fun σ5 H5 ⟨F5, M5, ds5, a5, ⟨m', l, b5⟩, c5, g5⟩ => ⟨m', l, F5, M5, ds5, ⟨a5, c5⟩, g3.trans g5, b5⟩
  | false => exact ⟨F2, M2, ds', s'.sl.up g2.ex, q, m2, g3⟩)
/-! ### list comprehensions -/
def wipeR (ds : List R) : List Nat → List R
  | [] => ds
  | v :: vs => (wipeR ds vs).set v .no
theorem wipe_sl {K : PySem.W.Frag} {F : Hp} {σ : L2.St} {ds : List R} (h : Sl K F σ ds) : ∀ vs : List Nat, Sl K F (wipe σ vs) (wipeR ds vs)
  | [] => h
  | v :: vs => by
    have q := wipe_sl h vs
    unfold wipe wipeR
    refine ⟨by simp [q.1], fun i r a n => ?_⟩
    by_cases hj : v = i
    · subst hj
      by_cases hl : v < (wipeR ds vs).length
      · rw [List.getElem?_set_self hl] at a
        cases a
        exact absurd rfl n
      · rw [List.getElem?_eq_none (by simpa using hl)] at a; cases a
    · rw [List.getElem?_set_ne hj] at a ⊢
      exact q.2 i r a n
theorem wipe_set {σ : L2.St} {i : Nat} {x : Option V} : ∀ {vs : List Nat}, i ∈ vs → wipe (σ.set i x) vs = wipe σ vs
  | v :: vs, h => by
    unfold wipe
    by_cases e : i ∈ vs
    · rw [wipe_set e]
    · have e2 : i = v := by
        rcases List.mem_cons.mp h with z | z
        · exact z
        · exact absurd z e
      subst e2
      clear h
      have : ∀ {vs : List Nat}, i ∉ vs → wipe (σ.set i x) vs = (wipe σ vs).set i x := by
        intro vs
        induction vs with
        | nil => intro _; rfl
        | cons w ws ih =>
          intro h
          rw [List.mem_cons, not_or] at h
          unfold wipe
          rw [ih h.2, List.set_comm _ _ h.1]
      rw [this e, List.set_set]
theorem wipe_wipe {σ : L2.St} : ∀ {us vs : List Nat}, (∀ v ∈ us, v ∈ vs) → wipe (wipe σ us) vs = wipe σ vs
  | [], vs, _ => rfl
  | u :: us, vs, h => by
    show wipe ((wipe σ us).set u none) vs = wipe σ vs
    rw [wipe_set (h u (List.mem_cons_self)), wipe_wipe fun v hv => h v (List.mem_cons_of_mem _ hv)]
/-- a comprehension's target: the slots vs alone are set -/
def TgS (K : PySem.W.Frag) (g : TG) (vs : List Nat) (r : R) (ds ds' : List R) : Prop := ∀ x σ F M H (Z : L2.St → Hp → Prop), Sta K σ ds M F H → Rr K F x r → (∀ σ2, Sta K σ2 ds' M F H → wipe σ2 vs = wipe σ vs → Z σ2 H) → g x σ H Z
theorem tgS_name {K : PySem.W.Frag} {i : Nat} {vs : List Nat} (h : i ∈ vs) : TgS K (gName i) vs r ds (ds.set i r) := fun x σ F M H Z s w k => k _ ⟨s.sl.set w, s.ms⟩ (wipe_set h)
theorem tgS_tup2 {K : PySem.W.Frag} {i j : Nat} {vs : List Nat} (ht : ∀ M, IsT M r [r1, r2]) (h : i ∈ vs) (h2 : j ∈ vs) : TgS K (gTup K 2 (gCons (gName i) (gCons (gName j) gNil))) vs r ds ((ds.set i r1).set j r2) := fun x σ F M H Z s w k => by
  obtain ⟨p, xs, e, a, b⟩ := (ht M).get s.ms w
  obtain ⟨v, v', e2, w1, w2⟩ := rrs2 b
  subst e2
  exact ⟨p, _, e, SqT.of a, rfl, v, [v'], rfl, v', [], rfl, rfl, k _ ⟨(s.sl.set w1).set w2, s.ms⟩ (by rw [wipe_set h2, wipe_set h])⟩
/-! an object aside -/
theorem Ms.newX {K : PySem.W.Frag} {F H : Hp} {q : Addr} {o : HO} (m : Ms K M F H) (np : H q = none) : Ms K M F (upd H q o) := by
  have nF : F q = none := m.ex.free np
  refine ⟨fun b u e => by rw [upd_ne (ne_of_none e nF)]; exact m.ex b u e, fun p c h => ⟨(m.mem p c h).1, (m.mem p c h).2.up (Same.refl F) (upd_ne fun e => ?_)⟩, m.nd⟩
  obtain ⟨u, hu⟩ := (m.mem p c h).2.here
  rw [e, np] at hu; cases hu
theorem Ms.writeX {K : PySem.W.Frag} {F H : Hp} {q : Addr} {o : HO} (m : Ms K M F H) (nF : F q = none) (nM : q ∉ ads M) : Ms K M F (upd H q o) :=
  ⟨fun b u e => by rw [upd_ne (ne_of_none e nF)]; exact m.ex b u e, fun p c h => ⟨(m.mem p c h).1, (m.mem p c h).2.up (Same.refl F) (upd_ne fun e => nM (e ▸ List.mem_map.mpr ⟨_, h, rfl⟩))⟩, m.nd⟩
theorem Go.updX {F H F' H' : Hp} {q : Addr} {o : HO} (g : Go M F H M1 F' H') (hq : ∀ u, H q = some u → q ∈ ads M) : Go M F H M1 F' (upd H' q o) :=
  ⟨g.ex, fun p u h n => by rw [upd_ne fun (e : p = q) => n (by rw [e]; exact hq u (by rw [← e]; exact h))]; exact g.fr p u h n, g.nf, g.nw⟩
theorem Ms.freezeX {K : PySem.W.Frag} {F H : Hp} {q : Addr} {o : HO} (m : Ms K M F H) (nF : F q = none) (nM : q ∉ ads M) (h : H q = some o) : Ms K M (upd F q o) H ∧ Same F (upd F q o) := by
  have sF : Same F (upd F q o) := fun b u e => by rw [upd_ne (ne_of_none e nF)]; exact e
  refine ⟨⟨fun b u e => ?_, fun p c hp => ⟨?_, (m.mem p c hp).2.up sF rfl⟩, m.nd⟩, sF⟩
  · by_cases hb : b = q
    · subst hb; rw [upd_same] at e; cases e; exact h
    · rw [upd_ne hb] at e; exact m.ex b u e
  · rw [upd_ne fun (e : p = q) => nM (by rw [← e]; exact List.mem_map.mpr ⟨_, hp, rfl⟩)]
    exact (m.mem p c hp).1
/-- the parts of a comprehension -/
abbrev blkG (X : Cx) (scope : Scope) (P : Cx → Prop) : Prop := ∀ (s : Shared) (H : Hp) (C : Addr) (cl : List (Str × Addr)) (fp : List Addr), P (X.blk s H scope (compEnvC scope cl C X.env) fp)
def LcI (X : Cx) (scope : Scope) (g : TG) (vs : List Nat) (ifs : List Expr) (elt : Expr) (ds : List R) (rs : List R) (I : Nat → List R → Mem → Prop) : Prop :=
  ∀ i r acc M, rs[i]? = some r → I i acc M → ∃ ds', TgS X.K g vs r (wipeR ds vs) ds' ∧ blkG X scope fun Y => TsX Y ifs ds' M fun k M2 => if k = true then blkG X scope fun Y => EX Y elt ds' M2 fun y M3 => I (i + 1) (acc ++ [y]) M3 else I (i + 1) acc M2
theorem tLc_of {tg iter elt : Expr} {ifs : List Expr} {scope : Scope} {g : TG} {vs : List Nat} {Q : R → Mem → Prop}
    (h : IX X tg iter ds M fun rs keep M1 => ∃ I : Nat → List R → Mem → Prop, I 0 [] M1 ∧ (∀ i acc M, I i acc M → keep M ∧ acc.length ≤ i) ∧ rs.length ≤ sizeLine ∧ LcI X scope g vs ifs elt ds rs I ∧
      ∀ acc M, I rs.length acc M → (∃ ys : List PyData, acc = ys.map R.d ∧ Q (.d (.list ys)) M) ∨ ∃ A B, M = A ++ B ∧ ∀ q, Q (.v (.ref q)) (A ++ (q, .lst acc) :: B)) {σ : L2.St} {F H : Hp} (s : Sta X.K σ ds M F H) :
    tLc (cI X tg iter) g (fun σ H Q => blkG X scope fun Y => cTs Y ifs σ H Q) (fun σ H Q => blkG X scope fun Y => cE Y elt σ H Q) vs σ H (Out X.K M F H Q) := by
  refine cI_mono (h σ F H s) fun J H1 ⟨F1, M1, rs, keep, wk, ⟨I, h0, hk, hlen, hb, hd⟩, k1, m1, g1⟩ D nD => ?_
  have hq : ∀ u, H D = some u → D ∈ ads M := fun u z => by
    by_cases n : D ∈ ads M
    · exact n
    · have := g1.fr D u z n
      rw [nD] at this; cases this
  have notM : ∀ {M' : Mem} {F' H' : Hp}, Ms X.K M' F' H' → H' D = none → D ∉ ads M' := fun m z hm => by
    obtain ⟨⟨q, c⟩, h1, h2⟩ := List.mem_map.mp hm
    obtain ⟨u, hu⟩ := (m.mem q c h1).2.here
    have h2 : q = D := h2
    rw [h2, z] at hu; cases hu
  refine ⟨fun i m H' => m = rs.length - i ∧ i ≤ rs.length ∧ ∃ F' M' acc zs, Ms X.K M' F' H' ∧ Go M F H M' F' H' ∧ Same F1 F' ∧ I i acc M' ∧ H' D = some (.lst zs) ∧ Rrs X.K F' zs acc ∧ F' D = none ∧ D ∉ ads M',
    ⟨rs.length, by simp, Nat.zero_le _, F1, M1, [], [], m1.newX nD, g1.updX hq, Same.refl _, h0, upd_same, .nil, m1.ex.free nD, notM m1 nD⟩, ?_⟩
  rintro i m H' ⟨rfl, hi, F', M', acc, zs, m', g', e', inv, hD, hz, nF, nM⟩
  obtain ⟨hkeep, hacc⟩ := hk _ _ _ inv
  by_cases hlt : i < rs.length
  · have hr : rs[i]? = some rs[i] := by simp [hlt]
    obtain ⟨go, st⟩ := wk.step i rs[i] M' F' H' hr e' hkeep m'
    refine .inr ⟨go, fun H2 => ∃ F' M' acc zs, Ms X.K M' F' H2 ∧ Go M F H M' F' H2 ∧ Same F1 F' ∧ I (i + 1) acc M' ∧ H2 D = some (.lst zs) ∧ Rrs X.K F' zs acc ∧ F' D = none ∧ D ∉ ads M', fun H2 q => ⟨rs.length - (i + 1), by omega, rfl, hlt, q⟩, fun x H2 y => ?_⟩
    obtain ⟨F2, w2, m2, g2⟩ := st x H2 y
    have keepD : ∀ {Ma Mb : Mem} {Fa Fb Ha Hb : Hp}, Go Ma Fa Ha Mb Fb Hb → Ha D = some (.lst zs) → Fa D = none → D ∉ ads Ma → Hb D = some (.lst zs) ∧ Fb D = none ∧ D ∉ ads Mb := fun g a b c =>
      ⟨g.fr D _ a c, g.nf D _ a b c, fun z => (g.nw D z).elim c fun q => by rw [a] at q; cases q⟩
    obtain ⟨ds', tgt, body⟩ := hb i rs[i] acc M' hr inv
    obtain ⟨d2, f2, n2⟩ := keepD g2 hD nF nM
    have sl2 : Sl X.K F2 (wipe σ vs) (wipeR ds vs) := wipe_sl (s.sl.up (g'.ex.trans g2.ex)) vs
    refine tgt x _ F2 M' H2 _ ⟨sl2, m2⟩ w2 fun σ2 s2 ew => ⟨by rw [ew, wipe_wipe fun v hv => hv], fun sh H0 C cl fp => ?_⟩
    refine cTs_mono (body sh H0 C cl fp σ2 F2 H2 s2) fun k H3 ⟨F3, M3, q3, m3, g3⟩ => ?_
    obtain ⟨d3, f3, n3⟩ := keepD g3 d2 f2 n2
    have g23 := (g'.trans g2).trans g3
    have e23 : Same F1 F3 := e'.trans (g2.ex.trans g3.ex)
    cases k with
    | false =>
      rw [if_neg Bool.false_ne_true] at q3 ⊢
      exact ⟨F3, M3, acc, zs, m3, g23, e23, q3, d3, Rrs.up (g2.ex.trans g3.ex) hz, f3, n3⟩
    | true =>
      rw [if_pos rfl] at q3 ⊢
      intro sh H0 C cl fp
      refine cE_mono (q3 sh H0 C cl fp σ2 F3 H3 (s2.go g3 m3)) fun yv H4 ⟨F4, M4, ry, a4, q4, m4, g4⟩ => ?_
      obtain ⟨d4, f4, n4⟩ := keepD g4 d3 f3 n3
      have e4 := (g2.ex.trans g3.ex).trans g4.ex
      refine ⟨zs, d4, ?_, F4, M4, acc ++ [ry], zs ++ [yv], m4.writeX f4 n4, (g23.trans g4).updX hq, e'.trans e4, q4, upd_same, rrs_app (Rrs.up e4 hz) (.cons a4 .nil), f4, n4⟩
      rw [hz.length]
      omega
  · have e5 : i = rs.length := by omega
    subst e5
    refine .inl ⟨wk.stop M' F' H' e' hkeep m', ?_⟩
    rcases hd _ _ inv with ⟨ys, ea, q⟩ | ⟨A, B, ea, q⟩
    · subst ea
      obtain ⟨fz, sF⟩ := m'.freezeX nF nM hD
      refine ⟨_, M', _, rr_d.mpr (.lst upd_same (rrs_dqs (Rrs.up sF hz))), q, fz, ⟨g'.ex.trans sF, g'.fr, fun p u hp hf n => ?_, g'.nw⟩⟩
      rw [upd_ne fun (e : p = D) => n (by rw [e]; exact hq u (by rw [← e]; exact hp))]
      exact g'.nf p u hp hf n
    · subst ea
      refine ⟨F', _, _, rr_v.mpr rfl, q D, ⟨m'.ex, fun p c hp => ?_, ?_⟩, ⟨g'.ex, g'.fr, g'.nf, fun p hp => ?_⟩⟩
      · rcases List.mem_append.mp hp with z | z
        · exact m'.mem p c (List.mem_append_left _ z)
        · rcases List.mem_cons.mp z with z | z
          · cases z; exact ⟨nF, zs, hD, hz⟩
          · exact m'.mem p c (List.mem_append_right _ z)
      · have nd := m'.nd
        simp only [ads, List.map_append, List.map_cons] at nd nM ⊢
        rw [List.nodup_append] at nd ⊢
        obtain ⟨n1, n2, n3⟩ := nd
        rw [List.mem_append, not_or] at nM
        refine ⟨n1, List.nodup_cons.mpr ⟨nM.2, n2⟩, fun a ha b hb => ?_⟩
        rcases List.mem_cons.mp hb with z | z
        · subst z; exact fun e => nM.1 (e ▸ ha)
        · exact n3 a ha b z
      · simp only [ads, List.map_append, List.map_cons, List.mem_append, List.mem_cons] at hp
        have old := fun z => g'.nw p (show p ∈ ads (A ++ B) by simp only [ads, List.map_append, List.mem_append]; exact z)
        rcases hp with z | z | z
        · exact old (.inl z)
        · subst z
          cases hH : H p with
          | none => exact .inr rfl
          | some u => exact .inl (hq u hH)
        · exact old (.inr z)
theorem ex_lc {tg iter elt : Expr} {ifs : List Expr} {scope : Scope} {g : TG} {own : List (Str × Nat)} {Q : R → Mem → Prop} (hc : X.calm = true) (hN : X.N.Nodup) (ok : BlkOk X.N X.env.scope scope own) (hg : blkG X scope fun Y => PG Y tg g)
    (h : IX X tg iter ds M fun rs keep M1 => ∃ I : Nat → List R → Mem → Prop, I 0 [] M1 ∧ (∀ i acc M, I i acc M → keep M ∧ acc.length ≤ i) ∧ rs.length ≤ sizeLine ∧ LcI X scope g (own.map (·.2)) ifs elt ds rs I ∧
      ∀ acc M, I rs.length acc M → (∃ ys : List PyData, acc = ys.map R.d ∧ Q (.d (.list ys)) M) ∨ ∃ A B, M = A ++ B ∧ ∀ q, Q (.v (.ref q)) (A ++ (q, .lst acc) :: B)) (hs : ∀ x, foldedSetIterable iter X.env x = pure x := by intro _; rfl) : EX X (.ListComp elt [⟨tg, iter, ifs, 0⟩] scope pos) ds M Q :=
  ex_pe (pe_lc (tt := fun σ H Q => blkG X scope fun Y => cTs Y ifs σ H Q) (te := fun σ H Q => blkG X scope fun Y => cE Y elt σ H Q) hc hN (piC tg iter) ok hg (fun s H C cl fp => ⟨fun pins sh σ H Q I z => (ptsC ifs).run pins sh σ H Q I (z s _ C cl fp)⟩) (fun s H C cl fp => ⟨fun pins sh σ H Q I z => (peC elt).run pins sh σ H Q I (z s _ C cl fp)⟩) hs) fun σ F H s => tLc_of h s
theorem bx_setLc (i : Nat) {y : Str} {py : Pos} {spos : Pos} {tg iter elt : Expr} {ifs : List Expr} {scope : Scope} {g : TG} {own : List (Str × Nat)} (hc : X.calm = true) (hN : X.N.Nodup) (ok : BlkOk X.N X.env.scope scope own) (hg : blkG X scope fun Y => PG Y tg g)
    (h : IX X tg iter ds M fun rs keep M1 => ∃ I : Nat → List R → Mem → Prop, I 0 [] M1 ∧ (∀ i acc M, I i acc M → keep M ∧ acc.length ≤ i) ∧ rs.length ≤ sizeLine ∧ LcI X scope g (own.map (·.2)) ifs elt ds rs I ∧
      ∀ acc M, I rs.length acc M → (∃ ys : List PyData, acc = ys.map R.d ∧ BX X rest (ds.set i (.d (.list ys))) M D) ∨ ∃ A B, M = A ++ B ∧ ∀ q, BX X rest (ds.set i (.v (.ref q))) (A ++ (q, .lst acc) :: B) D)
    (hy : X.N[i]? = some y := by rfl) (hyl : X.env.scope.names.lookup y = some .local := by rfl) (hsw : swapsWith (.ListComp elt [⟨tg, iter, ifs, 0⟩] scope pos) (some (.Name y py)) spos.line X.env = pure true := by exact sw_true rfl rfl rfl (by decide +kernel))
    (hs : ∀ x, foldedSetIterable iter X.env x = pure x := by intro _; rfl) : BX X (.Assign [.Name y py] (.ListComp elt [⟨tg, iter, ifs, 0⟩] scope pos) spos :: rest) ds M D := bx_cons (sx_ps (ps_setLc (tt := fun σ H Q => blkG X scope fun Y => cTs Y ifs σ H Q) (te := fun σ H Q => blkG X scope fun Y => cE Y elt σ H Q) hc hN hy hyl hsw (piC tg iter) ok hg (fun s H C cl fp => ⟨fun pins sh σ H Q I z => (ptsC ifs).run pins sh σ H Q I (z s _ C cl fp)⟩) (fun s H C cl fp => ⟨fun pins sh σ H Q I z => (peC elt).run pins sh σ H Q I (z s _ C cl fp)⟩) hs) fun σ F H s => by
  have q := tLc_of (Q := fun r M => BX X rest (ds.set i r) M D) h s
  have mono : ∀ (Q Q' : VK), (∀ v H', Q v H' → Q' v H') → ∀ {wi g tt te vs σ H}, (∀ σ H (R R' : It → Hp → Prop), (∀ J H', R J H' → R' J H') → wi σ H R → wi σ H R') → tLc wi g tt te vs σ H Q → tLc wi g tt te vs σ H Q' := by
    intro Q Q' hQ wi g tt te vs σ H hw z
    refine hw _ _ _ _ (fun J H' k D nD => ?_) z
    obtain ⟨W, w0, w⟩ := k D nD
    refine ⟨W, w0, fun i m H hW => ?_⟩
    rcases w i m H hW with ⟨a, b⟩ | b
    · exact .inl ⟨a, hQ _ _ b⟩
    · exact .inr b
  exact mono _ _ (fun v H' ⟨F', M', r, a, b, c, g⟩ => ⟨F', M', _, (s.sl.up g.ex).set a, b, c, g⟩) (fun σ H R R' z w => cI_mono w z) q)
end
end Hq
/-! Fn: defs and their calls where no repr is under way; the law's entry. -/
namespace Hq
open PySem PySem.Spec PyProof.Rows L2
/-- a def keeps its promise wherever no repr is under way -/
structure FnG (P : Program) (w : World) (K : PySem.W.Frag) (mg : Str → Option Value) (base : Heap) (CX : CXT) (k : Nat) (f : Addr) (fd : FuncData) (ps : List Str) (sp : Sp) : Prop where
  len : ∀ xs G R Z, sp xs G R Z → xs.length = ps.length
  go : ∀ (A : Around) (fr : List Env) (s : Shared) (G : Hp) (ar : Args) (us : List Value) (xs : List V) (R : VK) (Z : XK), A.guards = some [] → Room k A → Env0 P w K mg base A fr s G → BindsTo s fd ar (ps.zip us) → Vals xs us → sp xs G R Z →
    codeAny (model P w) A (.call (.ref f) ar) (CR CX fr P w G s R Z) s
theorem FnG.mono {P : Program} {w : World} {K : PySem.W.Frag} {mg : Str → Option Value} {base : Heap} {CX : CXT} {j k : Nat} {f : Addr} {fd : FuncData} {ps : List Str} {sp : Sp} (G : FnG P w K mg base CX j f fd ps sp) (h : j ≤ k) : FnG P w K mg base CX k f fd ps sp :=
  ⟨G.len, fun A fr s H ar us xs R Z g hr => G.go A fr s H ar us xs R Z g (hr.mono h)⟩
theorem deeper_guards (A : Around) (env : Env) (h : A.guards = some []) : (A.deeper env).guards = some [] := h
section
variable {P : Program} {w : World} {K : PySem.W.Frag} {mg : Str → Option Value} {base : Heap}
theorem fnG_of {CX : CXT} {k : Nat} {x qual : Str} {st : Stmt} {f : Addr} {fd : FuncData} {N ps : List Str} {sp : Sp} (D : Fun K x qual st f fd) (S : FnScope N ps (defScope st)) (len : ∀ xs G R Z, sp xs G R Z → xs.length = ps.length)
    (body : ∀ (cd : Value) (A : Around) (fr : List Env) (s : Shared) (G : Hp) (xs : List V) (R : VK) (Z : XK), A.guards = some [] → Room k (A.deeper (envOfC qual (defScope st) s.heap.objs.size f cd)) → sp xs G R Z →
      cB (cxOf CX P w K mg base N qual (defScope st) f cd A fr s G Z) (defBody st) { nx := fun _ G' => R .non G', rt := R } (start N xs) G) : FnG P w K mg base CX (k + 1) f fd ps sp := by
  obtain ⟨oc, od, kV, doc, pm, an, cd, ct, osl, rfl, lk, hcd⟩ := D.ex
  refine ⟨len, fun A fr s G ar us xs R Z hg hr e0 hb r hsp => ?_⟩
  have KX : K.In s.heap := e0.mod.kin.keeps fun b o e => (e0.bs b o e).1
  have kinds : ∀ y ∈ ps.zip us, (defScope st).names.lookup y.1 = some .local ∨ ((defScope st).names.lookup y.1 = some .cell ∧ ((cellsFrom (s.heap.objs.size + 1) (defScope st).names []).lookup y.1).isSome = true) := by
    rintro ⟨n, v⟩ hy
    exact (S.par n (List.of_mem_zip hy).1).imp id fun q => ⟨q, PySem.W.cellsFrom_some _ _ _ (.inl q)⟩
  refine codeAny_call_function hr.depth (KX _ _ lk) rfl S.co S.gen rfl (PySem.W.codeRec_of KX hcd) (hb _ _ _ _ ?_)
  refine wpAny_newFunctionEnv_cells S.kind kinds fun env he s1 x1 => ?_
  subst he
  refine ⟨(e0.mod.nolimit.keeps fun b o e => (e0.bs b o e).1).keeps x1.toInCall.keep, codeAny_func ?_⟩
  have J : Inv (cxOf CX P w K mg base N qual (defScope st) f cd A fr s G Z) [] (start N xs) G s1 := inv_start S hr.hd e0 (len _ _ _ _ hsp) r x1
  refine wpAny_mono (body cd A fr s G xs R Z hg (hr.deeper _) hsp [] s1 J) (fun fl s' h => ?_) fun _ _ h => h
  cases fl with
  | ret u =>
    obtain ⟨v, σ', G', J', rv, q⟩ := h
    exact ⟨v, G', J'.os, J'.bare, J'.base, J'.hok, rv, q⟩
  | next =>
    obtain ⟨σ', G', J', q⟩ := h
    exact ⟨.non, G', J'.os, J'.bare, J'.base, J'.hok, rfl, q⟩
  | brk => obtain ⟨_, _, _, q⟩ := h; exact q.elim
  | cont => obtain ⟨_, _, _, q⟩ := h; exact q.elim
end
/-! ### promises by abstract states -/
abbrev Wp := List R → Mem → (R → Mem → Prop) → Prop
def spW (K : PySem.W.Frag) (W : Wp) : Sp := fun vs H Qv _ => ∃ rs M F Q, Rrs K F vs rs ∧ Ms K M F H ∧ W rs M Q ∧ ∀ v H', Out K M F H Q v H' → Qv v H'
/-- a def of the text that keeps W, k levels deep -/
structure Fx (P : Program) (w : World) (K : PySem.W.Frag) (mg : Str → Option Value) (base : Heap) (k : Nat) (x : Str) (st : Stmt) (ps : List Str) (W : Wp) : Prop where
  ex : ∃ f fd, mg x = some (.ref f) ∧ Fun K x x st f fd ∧ Binds K fd ps [] ∧ FnG P w K mg base CX0 k f fd ps (spW K W)
theorem Fx.mono {P : Program} {w : World} {K : PySem.W.Frag} {mg : Str → Option Value} {base : Heap} {j k : Nat} {x : Str} {st : Stmt} {ps : List Str} {W : Wp} (h : Fx P w K mg base j x st ps W) (l : j ≤ k) : Fx P w K mg base k x st ps W := by
  obtain ⟨f, fd, a, b, c, d⟩ := h.ex
  exact ⟨f, fd, a, b, c, d.mono l⟩
/-- where a def stands -/
structure At (K : PySem.W.Frag) (mg : Str → Option Value) (x : Str) (st : Stmt) : Prop where
  ex : ∃ f fd, mg x = some (.ref f) ∧ Fun K x x st f fd
abbrev bX (P : Program) (w : World) (K : PySem.W.Frag) (mg : Str → Option Value) (base : Heap) (N : List Str) (x : Str) (st : Stmt) (f : Addr) (cd : Value) (A : Around) (fr : List Env) (s : Shared) (G : Hp) (Z : XK) : Cx := (cxOf CX0 P w K mg base N x (defScope st) f cd A fr s G Z).nox
theorem fx_of {P : Program} {w : World} {K : PySem.W.Frag} {mg : Str → Option Value} {base : Heap} {k : Nat} {x : Str} {st : Stmt} {N ps : List Str} {W : Wp} (a : At K mg x st) (S : FnScope N ps (defScope st)) (len : ∀ rs M Q, W rs M Q → rs.length = ps.length)
    (hb : ∀ (kV doc pm : Value) (an : Option Addr) (cdv ct : Value) (us : List Value), us.length = ps.length → bindArgs (PySem.W.fnOf x x (defArgs st) (defBody st) (defScope st) .none kV doc pm an cdv ct) ⟨us, []⟩ = pure (ps.zip us))
    (body : ∀ (f : Addr) (cd : Value) (A : Around) (fr : List Env) (s : Shared) (G : Hp) (Z : XK) (rs : List R) (M : Mem) (Q : R → Mem → Prop), (bX P w K mg base N x st f cd A fr s G Z).A.guards = some [] → Room k (bX P w K mg base N x st f cd A fr s G Z).A → W rs M Q →
      BX (bX P w K mg base N x st f cd A fr s G Z) (defBody st) (rs ++ List.replicate (N.length - ps.length) .no) M { nx := fun _ M' => Q (.d .none) M', rt := Q }) : Fx P w K mg base (k + 1) x st ps W := by
  obtain ⟨f, fd, hm, D⟩ := a.ex
  refine ⟨f, fd, hm, D, D.binds hb, fnG_of D S (fun xs G R Z h => ?_) (fun cd A fr s G xs R Z hg hr h => ?_)⟩
  · obtain ⟨rs, M, F, Q, a, b, c, d⟩ := h
    rw [a.length]
    exact len _ _ _ c
  · obtain ⟨rs, M, F, Q, a, b, c, d⟩ := h
    have hl := len _ _ _ c
    have hx : xs.length = ps.length := a.length.trans hl
    have sl : Sl K F (start N xs) (rs ++ List.replicate (N.length - ps.length) .no) := by
      refine ⟨by simp [L2.start, a.length, hl], fun i r hi n => ?_⟩
      unfold L2.start
      by_cases h1 : i < rs.length
      · rw [List.getElem?_append_left h1] at hi
        obtain ⟨v, e1, e2⟩ := rrs_get a hi
        refine ⟨v, ?_, e2⟩
        rw [List.getElem?_append_left (by simpa [a.length] using h1), List.getElem?_map, e1]
        rfl
      · rw [List.getElem?_append_right (by omega), List.getElem?_replicate] at hi
        split at hi
        · cases hi; exact absurd rfl n
        · cases hi
    have q := body f cd A fr s G Z rs M Q hg hr c (start N xs) F G ⟨sl, b⟩
    intro pins sh I
    refine wpAny_mono (q pins sh (I.wish _)) (fun fl s' h => ?_) fun _ _ z => False.elim z
    have h := h.unwish
    refine sp_mono h ⟨fun σ' H' ⟨F', M', ds', a', b', c', g'⟩ => d _ _ ⟨F', M', _, rrN, b', c', g'⟩, fun v H' o => d v H' o, fun _ _ ⟨_, _, _, _, z, _⟩ => z.elim, fun _ _ ⟨_, _, _, _, z, _⟩ => z.elim⟩
/-! ### calls -/
section
variable {X : Cx} {e : Expr} {es : List Expr} {kws : List Keyword} {ds : List R} {M M1 : Mem} {pos p kpos : Pos} {Q : R → Mem → Prop} {k : Nat} {x : Str} {st : Stmt} {ps ks : List Str} {W : Wp}
theorem runG {CX : CXT} {f : Addr} {fd : FuncData} {sp : Sp} {Z : XK} {pins : List (Addr × Obj)} {σ : L2.St} {H : Hp} {s : Shared} {R : VK} {us : List Value} {ar : Args} {xs : List V} (G : FnG X.prog X.w X.K X.mg X.base CX k f fd ps sp) (hg : X.A.guards = some []) (hr : Room k X.A) (hb : BindsTo s fd ar (ps.zip us)) (hx : Passes CX X Z)
    (I : Inv X pins σ H s) (r : Vals xs us) (h : sp xs H R Z) : codeAny (model X.prog X.w) X.A (.call (.ref f) ar) (fun r s' => match r with | .ok (.ret u) => EP X pins σ R u s' | .ok _ => False | .error e => X.xe e s') s :=
  codeAny_mono (G.go X.A X.stack s H ar us xs R Z hg hr I.env0 hb r h) fun r s' q => by
    cases r with
    | error e => exact hx pins σ H s e s' I q
    | ok fl =>
      cases fl with
      | ret u => exact I.after q
      | next => exact q.elim
      | brk => exact q.elim
      | cont => exact q.elim
theorem spW_out {F H H1 F1 : Hp} {vs : List V} {rs : List R} {Z : XK} (g : Go M F H M1 F1 H1) (a : Rrs X.K F1 vs rs) (m : Ms X.K M1 F1 H1) (h : W rs M1 Q) : spW X.K W vs H1 (Out X.K M F H Q) Z := ⟨rs, M1, F1, Q, a, m, h, fun v H' o => Out.trans g o⟩
theorem call_thn {f : Value} {us : List Value} {kw : List (Str × Value)} {pins : List (Addr × Obj)} {σ : L2.St} {R : VK} {s : Shared} (h : codeAny (model X.prog X.w) X.A (.call f ⟨us, kw⟩) (fun r s' => match r with | .ok (.ret u) => EP X pins σ R u s' | .ok _ => False | .error e => X.xe e s') s) :
    wpAny (model X.prog X.w) X.A (call f us kw) (EP X pins σ R) X.xe s := wpAny_call (codeAny_mono h fun r s' q => by
  cases r with
  | error e => exact q
  | ok fl =>
    cases fl with
    | ret u => exact q
    | next => exact q.elim
    | brk => exact q.elim
    | cont => exact q.elim)
/-- f(e, ..) -/
theorem ex_call (G : Fx X.prog X.w X.K X.mg X.base k x st ps W) (hg : X.A.guards = some []) (hr : Room k X.A) (h : AX X (e :: es) ds M fun rs M1 => W rs M1 Q) (gl : Gl X x := by rfl) (hdb : (x == ("__debug__" : Str)) = false := by decide) (he : starEach (e :: es) X.env = (false, eval e X.env) :: starEach es X.env := by exact st_any rfl)
    (hpl : (backTo pos (starEach es X.env)).any (·.1) = false := by rfl) : EX X (.Call (.Name x p) (e :: es) [] pos) ds M Q := fun σ F H s pins sh I => by
  obtain ⟨f, fd, hm, D, hb, G⟩ := G.ex
  refine wpAny_Call_Name_kw (ld_glob I gl hm ?_ hdb)
  refine PySem.W.callWith_K (h₀ := X.base) I.ok.mod.kin D.kp (thn (h σ F H s pos pins sh I) fun us s1 ⟨vs, H1, I1, r, F1, M1, rs, a, w, m, g⟩ => ⟨I1.kIn, ?_⟩) he hpl
  have sp := spW_out (Z := E0) g a m w
  have hl := G.len _ _ _ _ sp
  have hb1 := hb s1 us I1.kIn (by rw [List.append_nil, ← r.length]; exact hl)
  rw [List.append_nil] at hb1
  exact call_thn (runG G hg hr hb1 pass0 I1 r sp)
/-- f() -/
theorem ex_call0 (G : Fx X.prog X.w X.K X.mg X.base k x st ps W) (hg : X.A.guards = some []) (hr : Room k X.A) (h : W [] M Q) (gl : Gl X x := by rfl) (hdb : (x == ("__debug__" : Str)) = false := by decide) : EX X (.Call (.Name x p) [] [] pos) ds M Q := fun σ F H s pins sh I => by
  obtain ⟨f, fd, hm, D, hb, G⟩ := G.ex
  refine wpAny_Call_Name_kw (ld_glob I gl hm ?_ hdb)
  have sp := spW_out (Z := E0) (X := X) (vs := []) Go.refl .nil s.ms h
  have hl := G.len _ _ _ _ sp
  have hb1 := hb sh [] I.kIn hl
  exact PySem.W.callWith_K0 I.kIn D.kp (call_thn (runG G hg hr hb1 pass0 I .nil sp))
theorem kx_nil {QA : List R → Mem → Prop} (q : QA [] M) : KX X [] ds M QA := fun σ F H s pos pins sh I => pk_nil.run pos pins sh σ H _ I ⟨F, M, [], .nil, q, s.ms, Go.refl⟩
theorem kx_cons {nm : Option Str} {QA : List R → Mem → Prop} (h : EX X e ds M fun r M1 => KX X kws ds M1 fun rs M2 => QA (r :: rs) M2) : KX X (⟨nm, e, kpos⟩ :: kws) ds M QA := fun σ F H s pos pins sh I => (pk_cons (peC e) (pkC kws)).run pos pins sh σ H _ I
  (cE_mono (h σ F H s) fun x H1 ⟨F1, M1, r1, a1, h1, m1, g1⟩ => cK_mono (h1 σ F1 H1 (s.go g1 m1)) fun xs H2 ⟨F2, M2, rs, a2, h2, m2, g2⟩ => ⟨F2, M2, r1 :: rs, .cons (a1.up g2.ex) a2, h2, m2, g1.trans g2⟩)
theorem rrs_perm {K : PySem.W.Frag} {F : Hp} {vs : List V} {rs : List R} {us : List Value} (a : Rrs K F vs rs) (r : Vals vs us) (ix : List Nat) (h : ∀ i ∈ ix, i < rs.length) : ∃ vs', Rrs K F vs' (ix.map fun i => rs.getD i .no) ∧ Vals vs' (ix.map fun i => us.getD i .none) := by
  induction ix with
  | nil => exact ⟨[], .nil, .nil⟩
  | cons i ix ih =>
    obtain ⟨vs', h1, h2⟩ := ih fun j hj => h j (List.mem_cons_of_mem _ hj)
    have hi := h i List.mem_cons_self
    obtain ⟨v, e1, e2⟩ := rrs_get a (show rs[i]? = some rs[i] by simp [hi])
    obtain ⟨u, e3, e4⟩ := r.get e1
    refine ⟨v :: vs', .cons ?_ h1, .cons ?_ h2⟩
    · show Rr K F v (rs.getD i .no)
      rw [List.getD_eq_getElem?_getD, show rs[i]? = some rs[i] by simp [hi]]; exact e2
    · show L2.RelV v (us.getD i .none)
      rw [List.getD_eq_getElem?_getD, e3]; exact e4
/-- f(a = .., b = ..): all by name; ix: where each parameter stands among the names given -/
theorem ex_callKw (ix : List Nat) (ks : List Str) (G : Fx X.prog X.w X.K X.mg X.base k x st ps W) (hg : X.A.guards = some []) (hr : Room k X.A) (h : KX X kws ds M fun rs M1 => rs.length = ks.length ∧ W (ix.map fun i => rs.getD i .no) M1 Q)
    (hix : ∀ i ∈ ix, i < ks.length) (hb : ∀ (kV doc pm : Value) (an : Option Addr) (cdv ct : Value) (ws : List Value), ws.length = ks.length → bindArgs (PySem.W.fnOf x x (defArgs st) (defBody st) (defScope st) .none kV doc pm an cdv ct) ⟨[], ks.zip ws⟩ = pure (ps.zip (ix.map fun i => ws.getD i .none)))
    (gl : Gl X x := by rfl) (hall : (backToKw pos (keywordEach kws X.env)).all (·.1.isSome) = true := by rfl) (hks : (backToKw pos (keywordEach kws X.env)).filterMap (·.1) = ks := by rfl) (hdb : (x == ("__debug__" : Str)) = false := by decide)
    (hpl : ((backTo pos (starEach [] X.env)).any (·.1) || (backToKw pos (keywordEach kws X.env)).any (·.1.isNone)) = false := by rfl) : EX X (.Call (.Name x p) [] kws pos) ds M Q := fun σ F H s pins sh I => by
  obtain ⟨f, fd, hm, D, _, G⟩ := G.ex
  refine wpAny_Call_Name_kw (ld_glob I gl hm ?_ hdb)
  refine PySem.W.callWith_KW0 (h₀ := X.base) I.ok.mod.kin D.kp hall (thn (h σ F H s pos pins sh I) fun us s1 ⟨vs, H1, I1, r, F1, M1, rs, a, ⟨hl, w⟩, m, g⟩ => ⟨I1.kIn, ?_⟩) hpl
  rw [hks]
  obtain ⟨vs', w1, w2⟩ := rrs_perm a r ix fun i hi => by rw [hl]; exact hix i hi
  have sp := spW_out (Z := E0) g w1 m w
  obtain ⟨oc, od, kV, doc, pm, an, cd, ct, osl, rfl, lk, hcd⟩ := D.ex
  exact call_thn (runG G hg hr (.of_eq (hb kV doc pm an cd ct us (by rw [← r.length, a.length]; exact hl))) pass0 I1 w2 sp)
end
/-! ### the law's entry -/
theorem enterG {P : Program} {w : World} {K : PySem.W.Frag} {mg mb : Str → Option Value} {k : Nat} {fa a : Addr} {x : Str} {st : Stmt} {W : Wp} {s1 : Shared} {vs : List Value} {ns : List Int} (kx : K.In s1.heap) (hn : s1.heap.Ns mainGlobals mg) (hb : s1.heap.Ns builtinsNs mb)
    (hbb : ∀ x : Str, x ≠ "__name__" → mb x = bootBuiltins x) (lim : s1.heap.NoLimit) (hg : s1.gens = #[]) (ha : s1.heap.get? a = some { cls := .type "list", data := .seq vs.toArray }) (hi : IntsAre vs ns) (hl : ns.length ≤ sizeLine) (hr : Room k callerA) (hmg : mg "law" = some (.ref fa))
    (G : ∀ base : Heap, K.In base → base.Ns mainGlobals mg → Fx P w K mg base k "law" st [x] W) (hW : W [.s ns] [] fun r _ => r = T true) :
    codeAny (model P w) callerA (.call (.ref fa) ⟨[.ref a], []⟩) (fun r s' => r = .ok (.ret (.bool true)) ∧ OldK s1.heap s'.heap ∧ s'.os = s1.os ∧ AllBare s'.gens) s1 := by
  have vv := vals_ints hi
  -- H: the script alone may be tracked
  have main : ∀ H : Hp, Only H → SqL K H a (ns.map V.int) → HOk P w H s1.heap → (∀ b, H b ≠ none → b = a) → (H a ≠ none → K.lookup a = none) →
      codeAny (model P w) callerA (.call (.ref fa) ⟨[.ref a], []⟩) (fun r s' => r = .ok (.ret (.bool true)) ∧ OldK s1.heap s'.heap ∧ s'.os = s1.os ∧ AllBare s'.gens) s1 := by
    intro H only sq ok one apart
    have noDict : ∀ {b : Addr} {o : Obj} {es : Array DictEntry} {ep : Nat}, s1.heap.get? b = some o → o.data = .dict es ep → H b = none := by
      intro b o es ep e d
      cases q : H b with
      | none => rfl
      | some u =>
        obtain rfl := one b (by simp [q])
        obtain rfl := Option.some.inj (ha.symm.trans e)
        cases (show Data.seq vs.toArray _ = Data.dict es ep from d)
    have ns1 : ∀ {b : Addr} {m : Str → Option Value}, s1.heap.Ns b m → (hidT s1.heap H).Ns b m := fun ⟨o, es, ep, e, d, r⟩ => ⟨o, es, ep, hidT_get e (noDict e d), d, r⟩
    have kin : K.In (hidT s1.heap H) := fun b o e => hidT_get (kx b o e) (by
      cases q : H b with
      | none => rfl
      | some u =>
        obtain rfl := one b (by simp [q])
        have z := apart (by simp [q])
        rw [z] at e; cases e)
    have md : Mod K mg (hidT s1.heap H) := ⟨kin, ns1 hn, ⟨mb, ns1 hb, hbb⟩, let ⟨mc, h1, h2⟩ := lim; ⟨mc, ns1 h1, h2⟩⟩
    have e0 : Env0 P w K mg (hidT s1.heap H) callerA [] s1 H := ⟨rfl, md, fun _ _ e => of_hidT e, Nat.le_of_eq (hidT_size _ _), trivial, (fun b hb => by cases hb), ok, .of_eq hg⟩
    obtain ⟨f, fd, hm, D, hbind, g⟩ := (G _ kin (ns1 hn)).ex
    obtain rfl : f = fa := by rw [hmg] at hm; cases hm; rfl
    have sp : spW K W [.ref a] H (fun v _ => v = .bl true) E0 := ⟨[.s ns], [], H, _, .cons (rr_s.mpr ⟨a, rfl, sq⟩) .nil, ⟨Same.refl H, (fun _ _ h => by cases h), List.nodup_nil⟩, hW, fun v H' ⟨F', M', r, q1, q2, _⟩ => by subst q2; exact rr_bl q1⟩
    have bd := hbind s1 [.ref a] kx rfl
    refine codeAny_mono (g.go callerA [] s1 H ⟨[.ref a], []⟩ [.ref a] [.ref a] _ _ rfl hr e0 bd (.cons rfl .nil) sp) fun r s' h => ?_
    cases r with
    | error e => exact h.elim
    | ok fl =>
      cases fl with
      | next => exact h.elim
      | brk => exact h.elim
      | cont => exact h.elim
      | ret u =>
        obtain ⟨v, H', os, bare, un, ok', r', q⟩ := h
        obtain rfl : v = .bl true := q
        obtain rfl : u = Value.bool true := r'
        refine ⟨rfl, OldK.of_keep fun b o e => ?_, os, bare⟩
        cases q : H b with
        | none => exact un.keep b o e q (fun z => by cases z) (fun z => by cases z)
        | some u =>
          rcases only b with z | ⟨ob, xs, z⟩
          · rw [q] at z; cases z
          · have l1 := (ok b _ z).1
            have l2 := (ok' b _ (un.frzs b ob _ z)).1
            exact (Option.some.inj (l1.symm.trans e)) ▸ l2
  cases hk : K.lookup a with
  | some o =>
    obtain rfl := Option.some.inj (ha.symm.trans (kx a o hk))
    exact main (fun _ => none) (fun _ => .inl rfl) (.inr ⟨_, vs.toArray, _, hk, rfl, rfl, rfl, by rw [List.size_toArray, hi.length]; exact hl, by simpa using vv⟩) (fun b u z => by cases z) (fun b z => (z rfl).elim) fun z => (z rfl).elim
  | none =>
    refine main (upd (fun _ => none) a (.frz { cls := .type "list", data := .seq vs.toArray } (.lst (ns.map V.int)))) (fun b => ?_) (.inl (.inr ⟨_, upd_same⟩)) (fun b u z => ?_) (fun b z => ?_) fun _ => hk
    · by_cases e : b = a
      · subst e; exact .inr ⟨_, _, upd_same⟩
      · exact .inl (upd_ne e)
    · by_cases e : b = a
      · subst e
        rw [upd_same] at z; cases z
        exact ⟨ha, by rw [List.length_map]; exact hl, vs, _, vv, ha⟩
      · rw [upd_ne e] at z; cases z
    · by_cases e : b = a
      · exact e
      · exact absurd (upd_ne e) z
/-- the goal that k_head leaves -/
theorem walkG {l : PySem.W.OpenLaw} {n k : Nat} {q : Program} {loose : List Str} {XP : (Str → Option Value) → Heap → Prop} {YP : World → Heap → Prop} {d : DefRec} {K : Params → PySem.W.Frag} {x : Str} {st : Stmt} {W : Wp} (hn : l.most = some n) (hn2 : n ≤ sizeLine) (hdf : d.params.defaults = []) (hr : Room k callerA) (hdn : d.name = "law")
    (hY : ∀ (w : World) (h : Heap), YP w h → (K w.params).In h) (G : ∀ (w : World) (mg : Str → Option Value) (h : Heap), (K w.params).In h → h.Ns mainGlobals mg → ∀ base : Heap, (K w.params).In base → base.Ns mainGlobals mg → Fx l.prog w (K w.params) mg base k "law" st [x] W)
    (hW : ∀ ns : List Int, ns.length ≤ n → W [.s ns] [] fun r _ => r = T true) : PySem.W.WalkO q loose XP YP l.row.toRowW d [] (fun f vs => PySem.call f vs) := by
  refine Att.attach_call hn hdf fun w s₀ s1 mg mb fa o pm cd doc a vs ns g Y ho hd hcd hmg hobj hints hlen hg => ?_
  rw [hdn] at hmg
  exact enterG (hY w _ Y) g.T.g g.T.b g.T.builtins g.T.nolimit hg hobj hints (Nat.le_trans hlen hn2) hr hmg (G w mg _ (hY w _ Y) g.T.g) (hW ns hlen)
end Hq
/-! Expr3: equality, in, repr, isinstance, list(), methods of lists, zip, enumerate, all, a look at cells as data. -/
namespace Hq
open PySem PySem.Spec PyProof.Rows L2
/-! ### what data are as a whole -/
inductive IsD (M : Mem) : R → PyData → Prop
  | d (x : PyData) : IsD M (.d x) x
  | cl {p : Addr} {xs : List PyData} : (p, Cell.lst (xs.map R.d)) ∈ M → IsD M (.v (.ref p)) (.list xs)
theorem IsD.get {K : PySem.W.Frag} {M : Mem} {F H : Hp} {v : V} {r : R} {x : PyData} (h : IsD M r x) (m : Ms K M F H) (q : Rr K F v r) : Dq H v x := by
  cases h with
  | d => exact dq_up m.ex _ _ (rr_d.mp q)
  | cl h =>
    have q := rr_v.mp q
    subst q
    obtain ⟨xs, a, b⟩ := (m.mem _ _ h).2
    exact .lst a (dqs_up m.ex _ _ (rrs_dqs b))
theorem isD_T {α : Type} [TD α] {M : Mem} (x : α) : IsD M (T x) (td x) := .d _
/-- typed data whose == is equality -/
class TQ (α : Type) [TD α] [DecidableEq α] where
  dep : Nat
  lay : ∀ x : α, (td x).canLay0 = true
  dle : ∀ x : α, (td x).depth ≤ dep
  eqv : ∀ x y : α, PyData.eqv (td x) (td y) = decide (x = y)
instance : TQ Int := ⟨0, fun _ => rfl, fun _ => Nat.le_refl _, fun x y => by show (x == y) = _; exact Bool.beq_eq_decide_eq ..⟩
instance : TQ Bool := ⟨0, fun _ => rfl, fun _ => Nat.le_refl _, fun x y => by show (x == y) = _; exact Bool.beq_eq_decide_eq ..⟩
theorem lay_map {α : Type} [TD α] (h : ∀ x : α, (td x).canLay0 = true) : ∀ xs : List α, PyData.canLayAll0 (xs.map td) = true
  | [] => rfl
  | x :: xs => by
    show (PyData.canLay0 (td x) && PyData.canLayAll0 (xs.map td)) = true
    rw [h x, lay_map h xs]; rfl
theorem dep_map {α : Type} [TD α] {n : Nat} (h : ∀ x : α, (td x).depth ≤ n) : ∀ xs : List α, PyData.depthAll (xs.map td) ≤ n
  | [] => Nat.zero_le _
  | x :: xs => Nat.max_le.mpr ⟨h x, dep_map h xs⟩
theorem eqv_map {α : Type} [TD α] [DecidableEq α] (h : ∀ x y : α, PyData.eqv (td x) (td y) = decide (x = y)) : ∀ xs ys : List α, PyData.eqvAll (xs.map td) (ys.map td) = decide (xs = ys)
  | [], [] => rfl
  | [], _ :: _ => rfl
  | _ :: _, [] => rfl
  | x :: xs, y :: ys => by
    show (PyData.eqv (td x) (td y) && PyData.eqvAll (xs.map td) (ys.map td)) = _
    rw [h, eqv_map h xs ys]
    by_cases e : x = y <;> by_cases e2 : xs = ys <;> simp [e, e2]
instance {α : Type} [TD α] [DecidableEq α] [TQ α] : TQ (List α) := ⟨TQ.dep α + 1, fun xs => lay_map TQ.lay xs, fun xs => Nat.succ_le_succ (dep_map TQ.dle xs), fun xs ys => eqv_map TQ.eqv xs ys⟩
instance {α β : Type} [TD α] [DecidableEq α] [TQ α] [TD β] [DecidableEq β] [TQ β] : TQ (α × β) :=
  ⟨max (TQ.dep α) (TQ.dep β) + 1, fun p => by
    show (PyData.canLay0 (td p.1) && (PyData.canLay0 (td p.2) && true)) = true
    rw [TQ.lay, TQ.lay]; rfl, fun p => Nat.succ_le_succ (Nat.max_le.mpr ⟨Nat.le_trans (TQ.dle p.1) (Nat.le_max_left ..), Nat.max_le.mpr ⟨Nat.le_trans (TQ.dle p.2) (Nat.le_max_right ..), Nat.zero_le _⟩⟩), fun p q => by
    show (PyData.eqv (td p.1) (td q.1) && (PyData.eqv (td p.2) (td q.2) && true)) = _
    rw [TQ.eqv, TQ.eqv]
    obtain ⟨a, b⟩ := p
    obtain ⟨c, d⟩ := q
    by_cases e : a = c <;> by_cases e2 : b = d <;> simp [e, e2]⟩
theorem shaped_T {α : Type} [TD α] [DecidableEq α] [TQ α] (x : α) (h : TQ.dep α ≤ 64) : SeqAt.shaped (td x) = true := by
  unfold SeqAt.shaped
  rw [TQ.lay, Bool.true_and, decide_eq_true_eq]
  exact Nat.le_trans (TQ.dle x) h
section
variable {X : Cx} {e a b c : Expr} {es rest : List Expr} {ds : List R} {M M1 M2 M3 : Mem} {pos p : Pos} {Q : R → Mem → Prop} {QB : Bool → Mem → Prop} {r r1 r2 r3 : R} {rs : List R} {k : Nat}
theorem mo_eqD {K : PySem.W.Frag} : Mo2 (rEqD K) := fun x y H Q Q' m ⟨d, e, a, b, c, f, q⟩ => ⟨d, e, a, b, c, f, m _ _ q⟩
theorem mo_neD {K : PySem.W.Frag} : Mo2 (rNeD K) := fun x y H Q Q' m ⟨d, e, a, b, c, f, q⟩ => ⟨d, e, a, b, c, f, m _ _ q⟩
theorem ow_eq {x y : PyData} (h1 : IsD M r1 x) (h2 : IsD M r2 y) (s1 : SeqAt.shaped x = true) (s2 : SeqAt.shaped y = true) (q : Q (T (PyData.eqv x y)) M) : OpW X.K (rEqD X.K) r1 r2 M Q := fun F H u v m w1 w2 => ⟨x, y, dq_dp _ _ (h1.get m w1), dq_dp _ _ (h2.get m w2), s1, s2, Out.mk0 m rrB q⟩
theorem ow_ne {x y : PyData} (h1 : IsD M r1 x) (h2 : IsD M r2 y) (s1 : SeqAt.shaped x = true) (s2 : SeqAt.shaped y = true) (q : Q (T (!PyData.eqv x y)) M) : OpW X.K (rNeD X.K) r1 r2 M Q := fun F H u v m w1 w2 => ⟨x, y, dq_dp _ _ (h1.get m w1), dq_dp _ _ (h2.get m w2), s1, s2, Out.mk0 m rrB q⟩
variable {α : Type} [TD α] [DecidableEq α] [TQ α] {x y : α}
theorem dx_eq (hr : Room k X.A) (ha : DX X a ds M r1 M1) (hb : DX X b ds M1 r2 M2) (h1 : IsD M2 r1 (td x)) (h2 : IsD M2 r2 (td y)) (hd : TQ.dep α ≤ 64 := by decide) : DX X (.Compare a [.Eq] [b] pos) ds M (T (decide (x = y))) M2 :=
  dx_cmp (op_eqD hr.units) mo_eqD (nobehind _ (by decide) (by decide)) ha hb fun Q q => ow_eq h1 h2 (shaped_T x hd) (shaped_T y hd) (by rw [TQ.eqv]; exact q)
theorem dx_ne (hr : Room k X.A) (ha : DX X a ds M r1 M1) (hb : DX X b ds M1 r2 M2) (h1 : IsD M2 r1 (td x)) (h2 : IsD M2 r2 (td y)) (hd : TQ.dep α ≤ 64 := by decide) : DX X (.Compare a [.NotEq] [b] pos) ds M (T (!decide (x = y))) M2 :=
  dx_cmp (op_neD hr.units) mo_neD (nobehind _ (by decide) (by decide)) ha hb fun Q q => ow_ne h1 h2 (shaped_T x hd) (shaped_T y hd) (by rw [TQ.eqv]; exact q)
theorem dt_eq (hr : Room k X.A) (ha : DX X a ds M r1 M1) (hb : DX X b ds M1 r2 M2) (h1 : IsD M2 r1 (td x)) (h2 : IsD M2 r2 (td y)) (hd : TQ.dep α ≤ 64 := by decide) : DT X (.Compare a [.Eq] [b] pos) ds M (decide (x = y)) M2 :=
  dt_cmp (op_eqD hr.units) mo_eqD (nobehind _ (by decide) (by decide)) ha hb fun Q q => ow_eq h1 h2 (shaped_T x hd) (shaped_T y hd) (by rw [TQ.eqv]; exact q)
theorem dt_ne (hr : Room k X.A) (ha : DX X a ds M r1 M1) (hb : DX X b ds M1 r2 M2) (h1 : IsD M2 r1 (td x)) (h2 : IsD M2 r2 (td y)) (hd : TQ.dep α ≤ 64 := by decide) : DT X (.Compare a [.NotEq] [b] pos) ds M (!decide (x = y)) M2 :=
  dt_cmp (op_neD hr.units) mo_neD (nobehind _ (by decide) (by decide)) ha hb fun Q q => ow_ne h1 h2 (shaped_T x hd) (shaped_T y hd) (by rw [TQ.eqv]; exact q)
/-- data in general -/
theorem dx_eqv {u v : PyData} (hr : Room k X.A) (ha : DX X a ds M r1 M1) (hb : DX X b ds M1 r2 M2) (h1 : IsD M2 r1 u) (h2 : IsD M2 r2 v) (s1 : SeqAt.shaped u = true) (s2 : SeqAt.shaped v = true) : DX X (.Compare a [.Eq] [b] pos) ds M (T (PyData.eqv u v)) M2 :=
  dx_cmp (op_eqD hr.units) mo_eqD (nobehind _ (by decide) (by decide)) ha hb fun Q q => ow_eq h1 h2 s1 s2 q
theorem dt_neqv {u v : PyData} (hr : Room k X.A) (ha : DX X a ds M r1 M1) (hb : DX X b ds M1 r2 M2) (h1 : IsD M2 r1 u) (h2 : IsD M2 r2 v) (s1 : SeqAt.shaped u = true) (s2 : SeqAt.shaped v = true) : DT X (.Compare a [.NotEq] [b] pos) ds M (!PyData.eqv u v) M2 :=
  dt_cmp (op_neD hr.units) mo_neD (nobehind _ (by decide) (by decide)) ha hb fun Q q => ow_ne h1 h2 s1 s2 q
/-- texts -/
theorem mo_scE : Mo2 rEq := fun x y H Q Q' m ⟨a, q⟩ => ⟨a, m _ _ q⟩
theorem mo_scN : Mo2 rNe := fun x y H Q Q' m ⟨a, q⟩ => ⟨a, m _ _ q⟩
theorem ow_eqS {u v : Str} (q : Q (T (decide (u = v))) M) : OpW X.K rEq (T u) (T v) M Q := fun F H x y m w1 w2 => by
  rw [rr_str w1, rr_str w2]
  refine ⟨rfl, Out.mk0 m ?_ q⟩
  rw [show decide (V.str u = V.str v) = decide (u = v) by by_cases e : u = v <;> simp [e]]
  exact rrB
theorem ow_neS {u v : Str} (q : Q (T (!decide (u = v))) M) : OpW X.K rNe (T u) (T v) M Q := fun F H x y m w1 w2 => by
  rw [rr_str w1, rr_str w2]
  refine ⟨rfl, Out.mk0 m ?_ q⟩
  rw [show decide (V.str u = V.str v) = decide (u = v) by by_cases e : u = v <;> simp [e]]
  exact rrB
theorem dx_eqS {u v : Str} (ha : DX X a ds M (T u) M1) (hb : DX X b ds M1 (T v) M2) : DX X (.Compare a [.Eq] [b] pos) ds M (T (decide (u = v))) M2 := dx_cmp op_eq mo_scE (nobehind _ (by decide) (by decide)) ha hb fun Q q => ow_eqS q
theorem dt_eqS {u v : Str} (ha : DX X a ds M (T u) M1) (hb : DX X b ds M1 (T v) M2) : DT X (.Compare a [.Eq] [b] pos) ds M (decide (u = v)) M2 := dt_cmp op_eq mo_scE (nobehind _ (by decide) (by decide)) ha hb fun Q q => ow_eqS q
theorem dx_neS {u v : Str} (ha : DX X a ds M (T u) M1) (hb : DX X b ds M1 (T v) M2) : DX X (.Compare a [.NotEq] [b] pos) ds M (T (!decide (u = v))) M2 := dx_cmp op_ne mo_scN (nobehind _ (by decide) (by decide)) ha hb fun Q q => ow_neS q
theorem dt_neS {u v : Str} (ha : DX X a ds M (T u) M1) (hb : DX X b ds M1 (T v) M2) : DT X (.Compare a [.NotEq] [b] pos) ds M (!decide (u = v)) M2 := dt_cmp op_ne mo_scN (nobehind _ (by decide) (by decide)) ha hb fun Q q => ow_neS q
/-! ### x in a list of ints, of texts -/
theorem inV_ints (i : Int) (ns : List Int) : inV (.int i) (ns.map V.int) = decide (i ∈ ns) := by
  unfold inV
  induction ns with
  | nil => rfl
  | cons n ns ih =>
    rw [List.map_cons, List.any_cons, ih]
    show ((n == i) || _) = _
    by_cases e : i = n
    · subst e; simp
    · simp [e, Ne.symm e]
theorem inV_strs (i : Str) (ns : List Str) : inV (.str i) (ns.map V.str) = decide (i ∈ ns) := by
  unfold inV
  induction ns with
  | nil => rfl
  | cons n ns ih =>
    rw [List.map_cons, List.any_cons, ih]
    show ((n == i) || _) = _
    by_cases e : i = n
    · subst e; simp
    · simp [e, Ne.symm e]
theorem all_flat {β : Type} (f : β → V) (h : ∀ b, flatV (f b) = true) (ns : List β) : (ns.map f).all flatV = true := by
  rw [List.all_eq_true]
  intro v hv
  obtain ⟨b, _, rfl⟩ := List.mem_map.mp hv
  exact h b
theorem mo_in {K : PySem.W.Frag} {neg : Bool} : Mo2 (rIn K neg) := fun x y H Q Q' m ⟨p, xs, a, b, c, d, q⟩ => ⟨p, xs, a, b, c, d, m _ _ q⟩
theorem ow_inI {i : Int} {ns : List Int} {neg : Bool} (hl : IsL M r2 (ns.map T) ∨ IsT M r2 (ns.map T)) (q : Q (T (if neg = true then !decide (i ∈ ns) else decide (i ∈ ns))) M) : OpW X.K (rIn X.K neg) (T i) r2 M Q := fun F H u v m w1 w2 => by
  rw [rr_int w1]
  rcases hl with hl | hl
  · obtain ⟨p, xs, rfl, a, b⟩ := hl.get m w2
    obtain rfl := rrs_ints b
    exact ⟨p, _, rfl, .inl a, rfl, all_flat _ (fun _ => rfl) _, Out.mk0 m (by rw [inV_ints]; exact rrB) q⟩
  · obtain ⟨p, xs, rfl, a, b⟩ := hl.get m w2
    obtain rfl := rrs_ints b
    exact ⟨p, _, rfl, .inr (SqT.of a), rfl, all_flat _ (fun _ => rfl) _, Out.mk0 m (by rw [inV_ints]; exact rrB) q⟩
theorem dx_inI {i : Int} {ns : List Int} (ha : DX X a ds M (T i) M1) (hb : DX X b ds M1 r2 M2) (hl : IsL M2 r2 (ns.map T)) (hm : behindInMarks .In b = false := by rfl) : DX X (.Compare a [.In] [b] pos) ds M (T (decide (i ∈ ns))) M2 := dx_cmp op_in_seq mo_in hm ha hb fun Q q => ow_inI (.inl hl) q
theorem dx_niI {i : Int} {ns : List Int} (ha : DX X a ds M (T i) M1) (hb : DX X b ds M1 r2 M2) (hl : IsL M2 r2 (ns.map T)) (hm : behindInMarks .NotIn b = false := by rfl) : DX X (.Compare a [.NotIn] [b] pos) ds M (T (!decide (i ∈ ns))) M2 := dx_cmp op_notIn_seq mo_in hm ha hb fun Q q => ow_inI (.inl hl) q
theorem dt_inI {i : Int} {ns : List Int} (ha : DX X a ds M (T i) M1) (hb : DX X b ds M1 r2 M2) (hl : IsL M2 r2 (ns.map T)) (hm : behindInMarks .In b = false := by rfl) : DT X (.Compare a [.In] [b] pos) ds M (decide (i ∈ ns)) M2 := dt_cmp op_in_seq mo_in hm ha hb fun Q q => ow_inI (.inl hl) q
theorem dt_niI {i : Int} {ns : List Int} (ha : DX X a ds M (T i) M1) (hb : DX X b ds M1 r2 M2) (hl : IsL M2 r2 (ns.map T)) (hm : behindInMarks .NotIn b = false := by rfl) : DT X (.Compare a [.NotIn] [b] pos) ds M (!decide (i ∈ ns)) M2 := dt_cmp op_notIn_seq mo_in hm ha hb fun Q q => ow_inI (.inl hl) q
theorem ow_inS {i : Str} {ns : List Str} {neg : Bool} (hl : IsL M r2 (ns.map T) ∨ IsT M r2 (ns.map T)) (q : Q (T (if neg = true then !decide (i ∈ ns) else decide (i ∈ ns))) M) : OpW X.K (rIn X.K neg) (T i) r2 M Q := fun F H u v m w1 w2 => by
  rw [rr_str w1]
  rcases hl with hl | hl
  · obtain ⟨p, xs, rfl, a, b⟩ := hl.get m w2
    obtain rfl := rrs_strs b
    exact ⟨p, _, rfl, .inl a, rfl, all_flat _ (fun _ => rfl) _, Out.mk0 m (by rw [inV_strs]; exact rrB) q⟩
  · obtain ⟨p, xs, rfl, a, b⟩ := hl.get m w2
    obtain rfl := rrs_strs b
    exact ⟨p, _, rfl, .inr (SqT.of a), rfl, all_flat _ (fun _ => rfl) _, Out.mk0 m (by rw [inV_strs]; exact rrB) q⟩
/-! ### repr -/
def rRepr (K : PySem.W.Frag) : List V → Hp → VK → Prop := fun xs H Q => ∃ (p : Addr) (d : PyData), xs = [.ref p] ∧ Dp K H (.ref p) d ∧ d.showable = true ∧ d.hasDict = false ∧ d.depth ≤ 100 ∧ d.shown.length ≤ sizeLine ∧ Q (.str d.shown) H
theorem call_reprD {k : Nat} (hg : X.A.guards = some []) (hr : Room k X.A) : CallR X (.builtin "repr") (rRepr X.K) := by
  intro pins s σ H xs us Q I rv h
  obtain ⟨p, d, e, hd, h1, h2, h3, h4, q⟩ := h
  subst e
  obtain ⟨u, e, ru⟩ := vals1 rv
  subst e
  obtain ⟨as, rd⟩ := Dp.reads I d _ u hd ru
  obtain rfl : u = Value.ref p := ru
  refine PySem.repr_of_reads' rd h1 (PySem.PyData.noDict_hsm h2) hg (by have := hr.un; omega) (fun b o e => e) (fun h' u tk hk => ?_) h4
  exact ⟨.str d.shown, H, I.kept hk, ⟨u, rfl⟩, q⟩
theorem ex_repr (hg : X.A.guards = some []) (hr : Room k X.A) (hm : X.mg "repr" = none) (h : EX X e ds M fun r M1 => ∃ xs : List PyData, IsD M1 r (.list xs) ∧ PyData.showable (.list xs) = true ∧ PyData.hasDict (.list xs) = false ∧ PyData.depth (.list xs) ≤ 100 ∧ (PyData.shown (.list xs)).length ≤ sizeLine ∧ Q (T (PyData.shown (.list xs))) M1) (gl : Gl X "repr" := by rfl) (he : starEach [e] X.env = (false, eval e X.env) :: starEach [] X.env := by exact st_any rfl) : EX X (.Call (.Name "repr" p) [e] [] pos) ds M Q :=
  ex_callB (call_reprD hg hr) (fun x H Q Q' m ⟨p, d, a, b, c, e, f, g, q⟩ => ⟨p, d, a, b, c, e, f, g, m _ _ q⟩) hm (by decide +kernel) (ax_cons (h.mono fun r M1 ⟨xs, h1, h2, h3, h4, h5, q⟩ => ax_nil fun F H vs m w => by
    obtain ⟨v, ev, w1⟩ := rrs1 w
    subst ev
    have dq := h1.get m w1
    have dp : Dp X.K H v (.list xs) := dq_dp _ _ dq
    cases dq with
    | lst a b => exact ⟨_, _, rfl, dp, h2, h3, h4, h5, Out.mk0 m rrS q⟩) he) gl (he := he)
/-! ### isinstance -/
def tyN : PyData → String
  | .none => "NoneType"
  | .bool _ => "bool"
  | .int _ => "int"
  | .str _ => "str"
  | .list _ => "list"
  | .tuple _ => "tuple"
  | .dict _ => "dict"
theorem tyx_d {K : PySem.W.Frag} {H : Hp} {v : V} {d : PyData} (h : Dq H v d) : TyX K H v (.type (tyN d)) := by
  cases h with
  | non => exact .base .non
  | bl b => exact .base (.bl b)
  | int i => exact .base (.int i)
  | str x => exact .base (.str x)
  | lst a b => exact .base (.lst a)
  | tup a b => exact .base (.tup a)
def isK (c : String) (d : PyData) : Bool := (kitB (tyN d) c).getD false
def kitsAll (c : String) : Bool := ["NoneType", "bool", "int", "str", "list", "tuple"].all fun n => (kitB n c).isSome
theorem kit_d {K : PySem.W.Frag} {H : Hp} {c : String} (hc : kitsAll c = true) {v : V} {d : PyData} (h : Dq H v d) : PySem.W.kitOne K (.type (tyN d)) (.type c) = some (isK c d) := by
  refine kit_ty ?_
  have hs : (kitB (tyN d) c).isSome = true := by
    unfold kitsAll at hc
    rw [List.all_eq_true] at hc
    refine hc (tyN d) ?_
    cases h <;> simp [tyN]
  unfold isK
  obtain ⟨b, e⟩ := Option.isSome_iff_exists.mp hs
  rw [e]; rfl
theorem ex_isi {c : Str} {cn : String} {p2 : Pos} (hk : kitsAll cn = true) (hv : bootBuiltins c = some (.type cn)) (hm : X.mg "isinstance" = none) (hm2 : X.mg c = none) (h : EX X e ds M fun r M1 => ∃ d, IsD M1 r d ∧ Q (T (isK cn d)) M1) (gl : Gl X "isinstance" := by rfl) (gl2 : Gl X c := by rfl)
    (he : starEach [e, .Name c p2] X.env = (false, eval e X.env) :: starEach [.Name c p2] X.env := by exact st_any rfl) (he2 : starEach [.Name c p2] X.env = (false, eval (.Name c p2) X.env) :: starEach [] X.env := by exact st_any rfl) (hpl : (backTo pos (starEach [.Name c p2] X.env)).any (·.1) = false := by rfl) (hn : c ≠ "__name__" := by decide) (hd : (c == ("__debug__" : Str)) = false := by decide) : EX X (.Call (.Name "isinstance" p) [e, .Name c p2] [] pos) ds M Q :=
  ex_pe (pe_callB call_isi gl hm (by decide +kernel) (pa_cons (peC e) (pa_cons (pe_bltn gl2 hm2 hv (v := .ty cn) rfl hn hd) pa_nil he2) he) (he := he) (hpl := hpl)) fun σ F H s =>
    cE_mono (h σ F H s) fun v H1 ⟨F1, M1, r, w, ⟨d, hD, q⟩, m, g⟩ => ⟨v, .ty cn, _, _, _, rfl, .ty cn, tyx_d (hD.get m w), kit_d hk (hD.get m w), F1, M1, _, rrB, q, m, g⟩
/-- isinstance(x, (list, tuple)) -/
def isSeq : PyData → Bool
  | .list _ => true
  | .tuple _ => true
  | _ => false
theorem ex_isLT {p1 p2 pt : Pos} {kk} (hm : X.mg "isinstance" = none) (hm1 : X.mg "list" = none) (hm2 : X.mg "tuple" = none) (h : EX X e ds M fun r M1 => ∃ d, IsD M1 r d ∧ Q (T (isSeq d)) M1) (gl : Gl X "isinstance" := by rfl) (gl1 : Gl X "list" := by rfl) (gl2 : Gl X "tuple" := by rfl)
    (he : starEach [e, .Tuple [.Name "list" p1, .Name "tuple" p2] kk pt] X.env = (false, eval e X.env) :: starEach [.Tuple [.Name "list" p1, .Name "tuple" p2] kk pt] X.env := by exact st_any rfl) (he2 : starEach [.Tuple [.Name "list" p1, .Name "tuple" p2] kk pt] X.env = (false, eval (.Tuple [.Name "list" p1, .Name "tuple" p2] kk pt) X.env) :: starEach [] X.env := by exact st_any rfl)
    (he3 : starEach [.Name "list" p1, .Name "tuple" p2] X.env = (false, eval (.Name "list" p1) X.env) :: starEach [.Name "tuple" p2] X.env := by exact st_any rfl) (he4 : starEach [.Name "tuple" p2] X.env = (false, eval (.Name "tuple" p2) X.env) :: starEach [] X.env := by exact st_any rfl)
    (hpl : (backTo pos (starEach [.Tuple [.Name "list" p1, .Name "tuple" p2] kk pt] X.env)).any (·.1) = false := by rfl) : EX X (.Call (.Name "isinstance" p) [e, .Tuple [.Name "list" p1, .Name "tuple" p2] kk pt] [] pos) ds M Q :=
  ex_pe (pe_callB call_isiT gl hm (by decide +kernel) (pa_cons (peC e) (pa_cons (pe_tup (pa_cons (pe_bltn gl1 hm1 (by decide +kernel) (v := .ty "list") rfl) (pa_cons (pe_bltn gl2 hm2 (by decide +kernel) (v := .ty "tuple") rfl) pa_nil he4) he3)) pa_nil he2) he) (he := he) (hpl := hpl)) fun σ F H s =>
    cE_mono (h σ F H s) fun v H1 ⟨F1, M1, r, w, ⟨d, hD, q⟩, m, g⟩ => ⟨small64 (show 2 < 64 by decide), fun tp np => by
      have k := m.newF (o := .tup [.ty "list", .ty "tuple"]) np
      have hD2 := dq_up (fun b o e => by rw [upd_ne (ne_of_none e np)]; exact e : Same H1 (upd H1 tp (.tup [.ty "list", .ty "tuple"]))) d v (hD.get m w)
      refine ⟨v, tp, [.ty "list", .ty "tuple"], .type (tyN d), [.type "list", .type "tuple"], isSeq d, rfl, upd_same, .cons (.ty _) (.cons (.ty _) .nil), tyx_d hD2, ?_, Out.trans g (Out.mk k rrB q)⟩
      have h2 : ∀ n : String, kitB n "list" = some false → kitB n "tuple" = some false → PySem.W.kitAny X.K (.type n) [.type "list", .type "tuple"] = some false := fun n a b => kitAny_cons (b := false) (kit_ty a) (fun _ => kitAny_cons (b := false) (kit_ty b) (fun _ => rfl) nofun) nofun
      cases hD2 with
      | non => exact h2 "NoneType" (by decide +kernel) (by decide +kernel)
      | bl b => exact h2 "bool" (by decide +kernel) (by decide +kernel)
      | int i => exact h2 "int" (by decide +kernel) (by decide +kernel)
      | str x => exact h2 "str" (by decide +kernel) (by decide +kernel)
      | lst a b => exact kitAny_cons (b := true) (kit_ty (show kitB "list" "list" = some true by decide +kernel)) nofun fun _ => rfl
      | tup a b => exact kitAny_cons (b := false) (kit_ty (show kitB "tuple" "list" = some false by decide +kernel)) (fun _ => kitAny_cons (b := true) (kit_ty (show kitB "tuple" "tuple" = some true by decide +kernel)) nofun fun _ => rfl) nofun⟩
/-! ### list(x), all, methods -/
theorem ex_list (hm : X.mg "list" = none) (h : EX X e ds M fun r M1 => ∃ rs, IsL M1 r rs ∧ ((∃ ys : List PyData, rs = ys.map R.d ∧ Q (.d (.list ys)) M1) ∨ ∃ A B, M1 = A ++ B ∧ ∀ q, Q (.v (.ref q)) (A ++ (q, .lst rs) :: B))) (gl : Gl X "list" := by rfl) (he : starEach [e] X.env = (false, eval e X.env) :: starEach [] X.env := by exact st_any rfl) : EX X (.Call (.Name "list" p) [e] [] pos) ds M Q :=
  ex_callTy call_list_of (fun x H Q Q' m ⟨p, ys, a, b, q⟩ => ⟨p, ys, a, b, fun l nl => m _ _ (q l nl)⟩) hm (by decide +kernel) (ax_cons (h.mono fun r M1 ⟨rs, h1, q⟩ => ax_nil fun F H vs m w => by
    obtain ⟨v, ev, w1⟩ := rrs1 w
    subst ev
    obtain ⟨p, xs, rfl, a, b⟩ := h1.get m w1
    refine ⟨p, xs, rfl, .inl a, fun l nl => ?_⟩
    rcases q with ⟨ys, e, q⟩ | ⟨A, B, e, q⟩
    · subst e; exact newL m b nl q
    · subst e; exact newLc m b nl (q l)) he) gl (he := he)
theorem dx_listT {β : Type} [TD β] {xs : List β} (hm : X.mg "list" = none) (h : DX X e ds M (T xs) M1) (gl : Gl X "list" := by rfl) (he : starEach [e] X.env = (false, eval e X.env) :: starEach [] X.env := by exact st_any rfl) : DX X (.Call (.Name "list" p) [e] [] pos) ds M (T xs) M1 := fun Q q => ex_list hm (h _ ⟨_, isL_T xs, .inl ⟨xs.map td, by rw [T_map], q⟩⟩) gl he
theorem ex_all (hc : CallR X (.builtin "all") (rAll X.K)) (hm : X.mg "all" = none) (h : EX X e ds M fun r M1 => ∃ bs : List Bool, IsL M1 r (bs.map T) ∧ Q (T (bs.all id)) M1) (gl : Gl X "all" := by rfl) (he : starEach [e] X.env = (false, eval e X.env) :: starEach [] X.env := by exact st_any rfl) : EX X (.Call (.Name "all" p) [e] [] pos) ds M Q :=
  ex_callB hc (fun x H Q Q' m ⟨p, ys, a, b, q⟩ => ⟨p, ys, a, b, m _ _ q⟩) hm (by decide +kernel) (ax_cons (h.mono fun r M1 ⟨bs, h1, q⟩ => ax_nil fun F H vs m w => by
    obtain ⟨v, ev, w1⟩ := rrs1 w
    subst ev
    obtain ⟨p, xs, rfl, a, b⟩ := h1.get m w1
    obtain rfl := rrs_bls b
    exact ⟨p, bs, rfl, a, Out.mk0 m rrB q⟩) he) gl (he := he)
/-- x.append(e), x a cell -/
theorem ex_append {o : Expr} {apos : Pos} (h : EX X o ds M fun r1 M1 => ∃ q, r1 = .v (.ref q) ∧ (∃ ys, (q, Cell.lst ys) ∈ M1) ∧ EX X e ds M1 fun y M2 => ∃ U W xs, M2 = U ++ (q, .lst xs) :: W ∧ xs.length < sizeLine ∧ Q (.d .none) (U ++ (q, .lst (xs ++ [y])) :: W))
    (hb : ∀ {to : TE} {t : TA} {r}, MtR X "list.append" r → PE X o to → PA X [e] t → PE X (.Call (.Attribute o "append" apos) [e] [] pos) (tBM X.K "list" r to t) := by intro _ _ _ h1 h2 h3; exact pe_bm PySem.F.plainAttrs_list PySem.F.slot_list_append PySem.F.type_list_append h1 h2 h3)
    (he : starEach [e] X.env = (false, eval e X.env) :: starEach [] X.env := by exact st_any rfl) : EX X (.Call (.Attribute o "append" apos) [e] [] pos) ds M Q :=
  ex_pe (hb mt_append (peC o) (pa_cons (peC e) pa_nil he)) fun σ F H s => cE_mono (h σ F H s) fun x H1 ⟨F1, M1, r1, w1, ⟨q, e1, ⟨ys, hy⟩, h1⟩, m1, g1⟩ => by
    subst e1
    obtain rfl := rr_v.mp w1
    obtain ⟨zs, z1, z2⟩ := (m1.mem _ _ hy).2
    refine ⟨.inl ⟨rfl, _, SqL.of z1⟩, cE_mono (h1 σ F1 H1 (s.go g1 m1)) fun yv H2 ⟨F2, M2, y, w2, ⟨U, W, xs, e2, l, qq⟩, m2, g2⟩ => ?_⟩
    subst e2
    obtain ⟨zs, z1, z2⟩ := (m2.mem q _ (List.mem_append_right U List.mem_cons_self)).2
    have kk := m2.write (c' := .lst (xs ++ [y])) (o := .lst (zs ++ [yv])) ⟨_, upd_same, rrs_app z2 (.cons w2 .nil)⟩
    exact ⟨q, zs, yv, rfl, rfl, z1, by rw [z2.length]; exact l, F2, _, _, rrN, qq, kk.1, (g1.trans g2).trans kk.2⟩
/-- x.pop(e), x a cell -/
theorem ex_popAt {o : Expr} {apos : Pos} (h : EX X o ds M fun r1 M1 => ∃ q, r1 = .v (.ref q) ∧ (∃ ys, (q, Cell.lst ys) ∈ M1) ∧ EX X e ds M1 fun r2 M2 => ∃ (U W : Mem) (xs : List R) (i : Int) (j : Nat) (y : R), r2 = T i ∧ M2 = U ++ (q, .lst xs) :: W ∧ ixN xs.length i = some j ∧ xs.length ≤ sizeLine ∧ xs[j]? = some y ∧ Q y (U ++ (q, .lst (xs.eraseIdx j)) :: W))
    (hb : ∀ {to : TE} {t : TA} {r}, MtR X "list.pop" r → PE X o to → PA X [e] t → PE X (.Call (.Attribute o "pop" apos) [e] [] pos) (tBM X.K "list" r to t) := by intro _ _ _ h1 h2 h3; exact pe_bm PySem.F.plainAttrs_list PySem.F.slot_list_pop PySem.F.type_list_pop h1 h2 h3)
    (he : starEach [e] X.env = (false, eval e X.env) :: starEach [] X.env := by exact st_any rfl) : EX X (.Call (.Attribute o "pop" apos) [e] [] pos) ds M Q :=
  ex_pe (hb mt_popAt (peC o) (pa_cons (peC e) pa_nil he)) fun σ F H s => cE_mono (h σ F H s) fun x H1 ⟨F1, M1, r1, w1, ⟨q, e1, ⟨ys, hy⟩, h1⟩, m1, g1⟩ => by
    subst e1
    obtain rfl := rr_v.mp w1
    obtain ⟨zs, z1, z2⟩ := (m1.mem _ _ hy).2
    refine ⟨.inl ⟨rfl, _, SqL.of z1⟩, cE_mono (h1 σ F1 H1 (s.go g1 m1)) fun yv H2 ⟨F2, M2, r2, w2, ⟨U, W, xs, i, j, y, e3, e2, hi, hlen, hy, qq⟩, m2, g2⟩ => ?_⟩
    subst e2 e3
    obtain ⟨zs, z1, z2⟩ := (m2.mem q _ (List.mem_append_right U List.mem_cons_self)).2
    obtain ⟨yy, a1, a2⟩ := rrs_get z2 hy
    have kk := m2.write (c' := .lst (xs.eraseIdx j)) (o := .lst (zs.eraseIdx j)) ⟨_, upd_same, rrs_erase j z2⟩
    obtain ⟨b1, b2, b3, b4⟩ := ixN_seq hi
    have hz : (sizeLine : Nat) < 2 ^ 63 := by decide
    exact ⟨q, zs, i, j, yy, rfl, by rw [rr_int w2], z1, by omega, by omega, by rw [z2.length]; exact b1, a1, F2, _, _, a2, qq, kk.1, (g1.trans g2).trans kk.2⟩
where rrs_erase {K : PySem.W.Frag} {F : Hp} : ∀ {vs : List V} {rs : List R} (j : Nat), Rrs K F vs rs → Rrs K F (vs.eraseIdx j) (rs.eraseIdx j)
  | _, _, 0, .nil => .nil
  | _, _, 0, .cons _ t => t
  | _, _, _ + 1, .nil => .nil
  | _, _, j + 1, .cons a t => .cons a (rrs_erase j t)
/-! ### zip, enumerate -/
theorem ix_enum {elts : List Expr} {kk : Nat} {tpos : Pos} {QI : List R → (Mem → Prop) → Mem → Prop} (hm : X.mg "enumerate" = none) (h : EX X e ds M fun r M1 => ∃ rs, IsF r rs ∧ QI ((List.range rs.length).map fun (i : Nat) => .t [T (i : Int), rs.getD i .no]) (fun _ => True) M1) (gl : Gl X "enumerate" := by rfl)
    (he : starEach [e] X.env = [(false, eval e X.env)] := by exact st_any rfl) : IX X (.Tuple elts kk tpos) (.Call (.Name "enumerate" p) [e] [] pos) ds M QI := ix_pi (pi_enum gl hm (pa_cons (peC e) pa_nil he) he) fun σ F H s =>
  cE_mono (h σ F H s) fun v H' ⟨F', M', r, w, ⟨rs, hf, q⟩, m, g⟩ => by
    obtain ⟨q0, xs, rfl, a, b⟩ := hf.get w
    refine ⟨q0, xs, rfl, m.ex.seq a, F', M', _, _, ⟨fun M F H e _ mm => ?_, fun i r M F H hi e _ mm => ?_⟩, q, trivial, m, g⟩
    · exact ⟨xs, mm.ex.seq (e.seq a), by rw [b.length]; simp⟩
    · rw [List.getElem?_map] at hi
      by_cases hl : i < rs.length
      · rw [List.getElem?_range hl] at hi
        obtain rfl := Option.some.inj hi
        obtain ⟨y, c1, c2⟩ := rrs_get b (show rs[i]? = some rs[i] by simp [hl])
        refine ⟨⟨xs, y, mm.ex.seq (e.seq a), c1⟩, fun x H' ⟨t, z, e1, nt, e2, hz⟩ => ?_⟩
        subst e1 e2
        obtain rfl : z = y := Option.some.inj ((hz xs (mm.ex.seq (e.seq a))).symm.trans c1)
        have k := mm.newF (o := .tup [.int (i : Nat), z]) nt
        refine ⟨_, rr_t.mpr ⟨t, _, rfl, upd_same, .cons rrI (.cons ?_ .nil)⟩, k.1, k.2⟩
        have e3 : rs.getD i R.no = rs[i] := by rw [List.getD_eq_getElem?_getD, show rs[i]? = some rs[i] by simp [hl]]; rfl
        show Rr X.K _ z (rs.getD i .no)
        rw [e3]
        exact c2.up (e.trans k.2.ex)
      · rw [List.getElem?_eq_none (by simpa using hl)] at hi; cases hi
theorem walk_zip {K : PySem.W.Frag} {F0 : Hp} {xs ys : List V} {rs qs : List R} {J : It} (hl : rs.length = qs.length) (b1 : Rrs K F0 xs rs) (b2 : Rrs K F0 ys qs)
    (go : ∀ i H x y, (∃ F, Same F0 F ∧ Same F H) → xs[i]? = some x → ys[i]? = some y → J.go i H ∧ ∀ v H', J.yld i H v H' → ∃ t, v = .ref t ∧ H t = none ∧ H' = upd H t (.tup [x, y])) (stop : ∀ H, (∃ F, Same F0 F ∧ Same F H) → J.stop rs.length H) : Walk K J ((List.range rs.length).map fun i => .t [rs.getD i .no, qs.getD i .no]) F0 fun _ => True := by
  refine ⟨fun M F H e _ m => by rw [List.length_map, List.length_range]; exact stop H ⟨F, e, m.ex⟩, fun i r M F H hi e _ mm => ?_⟩
  rw [List.getElem?_map] at hi
  by_cases hlt : i < rs.length
  · rw [List.getElem?_range hlt] at hi
    obtain rfl := Option.some.inj hi
    have hlt2 : i < qs.length := by omega
    obtain ⟨x, c1, c2⟩ := rrs_get b1 (show rs[i]? = some rs[i] by simp [hlt])
    obtain ⟨y, c3, c4⟩ := rrs_get b2 (show qs[i]? = some qs[i] by simp [hlt2])
    obtain ⟨g1, g2⟩ := go i H x y ⟨F, e, mm.ex⟩ c1 c3
    refine ⟨g1, fun v H' yl => ?_⟩
    obtain ⟨t, e1, nt, e2⟩ := g2 v H' yl
    subst e1 e2
    have k := mm.newF (o := .tup [x, y]) nt
    have e3 : rs.getD i R.no = rs[i] := by rw [List.getD_eq_getElem?_getD, show rs[i]? = some rs[i] by simp [hlt]]; rfl
    have e4 : qs.getD i R.no = qs[i] := by rw [List.getD_eq_getElem?_getD, show qs[i]? = some qs[i] by simp [hlt2]]; rfl
    refine ⟨_, rr_t.mpr ⟨t, _, rfl, upd_same, .cons ?_ (.cons ?_ .nil)⟩, k.1, k.2⟩
    · rw [e3]; exact c2.up (e.trans k.2.ex)
    · rw [e4]; exact c4.up (e.trans k.2.ex)
  · rw [List.getElem?_eq_none (by simpa using hlt)] at hi; cases hi
/-- both lists, or both tuples, of one length -/
theorem ix_zip {elts : List Expr} {kk : Nat} {tpos : Pos} {QI : List R → (Mem → Prop) → Mem → Prop} (hm : X.mg "zip" = none) (h : EX X a ds M fun r1 M1 => EX X b ds M1 fun r2 M2 => ∃ rs qs, ((IsF r1 rs ∧ IsF r2 qs) ∨ ((∀ M, IsT M r1 rs) ∧ ∀ M, IsT M r2 qs)) ∧ rs.length = qs.length ∧ QI ((List.range rs.length).map fun i => .t [rs.getD i .no, qs.getD i .no]) (fun _ => True) M2) (gl : Gl X "zip" := by rfl)
    (hp : ∀ {ta : TA}, X.mg "zip" = none → PA X [a, b] ta → PI X (.Tuple elts kk tpos) (.Call (.Name "zip" p) [a, b] [] pos) (RZ.iZipA X.K ta) := by intro _ hm h; exact RZ.pi_zipA rfl hm h)
    (he : starEach [a, b] X.env = (false, eval a X.env) :: starEach [b] X.env := by exact st_any rfl) (he2 : starEach [b] X.env = (false, eval b X.env) :: starEach [] X.env := by exact st_any rfl) : IX X (.Tuple elts kk tpos) (.Call (.Name "zip" p) [a, b] [] pos) ds M QI := ix_pi (hp hm (pa_cons (peC a) (pa_cons (peC b) pa_nil he2) he)) fun σ F H s =>
  cE_mono (h σ F H s) fun v H1 ⟨F1, M1, r1, w1, h1, m1, g1⟩ => cE_mono (h1 σ F1 H1 (s.go g1 m1)) fun u H2 ⟨F2, M2, r2, w2, ⟨rs, qs, hf, hl, q⟩, m2, g2⟩ => by
    have w1 := w1.up g2.ex
    rcases hf with ⟨f1, f2⟩ | ⟨f1, f2⟩
    · obtain ⟨q1, xs, rfl, a1, b1⟩ := f1.get w1
      obtain ⟨q2, ys, rfl, a2, b2⟩ := f2.get w2
      refine ⟨q1, q2, xs, ys, rfl, .inl ⟨m2.ex.seq a1, m2.ex.seq a2, F2, M2, _, _, walk_zip hl b1 b2 (fun i H x y ⟨F, e1, e2⟩ c1 c2 => ?_) (fun H ⟨F, e1, e2⟩ => ?_), q, trivial, m2, g1.trans g2⟩⟩
      · have s1 := (e1.trans e2).seq a1
        have s2 := (e1.trans e2).seq a2
        exact ⟨⟨xs, ys, x, y, s1, s2, c1, c2⟩, fun v H' ⟨t, x', y', e1, nt, e2, z1, z2⟩ => ⟨t, e1, nt, by rw [e2, Option.some.inj ((z1 xs s1).symm.trans c1), Option.some.inj ((z2 ys s2).symm.trans c2)]⟩⟩
      · exact ⟨xs, ys, (e1.trans e2).seq a1, (e1.trans e2).seq a2, .inl (by rw [b1.length]; exact Nat.le_refl _)⟩
    · have fz : ∀ {r : R} {rs : List R} {v : V}, (∀ M, IsT M r rs) → Rr X.K F2 v r → ∃ p xs, v = .ref p ∧ SqT X.K F2 p xs ∧ Rrs X.K F2 xs rs := fun {r rs v} h w => by
        cases h [] with
        | fz xs => have w := rr_d.mp w; cases w with | tup a b => exact ⟨_, _, rfl, SqT.of a, dqs_rrs b⟩
        | pt rs => obtain ⟨a, xs, b, c, d⟩ := rr_t.mp w; exact ⟨a, xs, b, SqT.of c, d⟩
      obtain ⟨q1, xs, rfl, a1, b1⟩ := fz f1 w1
      obtain ⟨q2, ys, rfl, a2, b2⟩ := fz f2 w2
      refine ⟨q1, q2, xs, ys, rfl, .inr ⟨sameT m2.ex a1, sameT m2.ex a2, F2, M2, _, _, walk_zip hl b1 b2 (fun i H x y ⟨F, e1, e2⟩ c1 c2 => ?_) (fun H ⟨F, e1, e2⟩ => ?_), q, trivial, m2, g1.trans g2⟩⟩
      · have s1 := sameT (e1.trans e2) a1
        have s2 := sameT (e1.trans e2) a2
        exact ⟨⟨xs, ys, x, y, s1, s2, c1, c2⟩, fun v H' ⟨t, x', y', e1, nt, e2, z1, z2⟩ => ⟨t, e1, nt, by rw [e2, Option.some.inj ((z1 xs s1).symm.trans c1), Option.some.inj ((z2 ys s2).symm.trans c2)]⟩⟩
      · exact ⟨xs, ys, sameT (e1.trans e2) a1, sameT (e1.trans e2) a2, .inl (by rw [b1.length]; exact Nat.le_refl _)⟩
end
end Hq
/-! Lc: comprehensions and loops in their usual forms. -/
namespace Hq
open PySem PySem.Spec PyProof.Rows L2
theorem blkOk_in {X : Cx} {s : Shared} {H : Hp} {C : Addr} {cl : List (Str × Addr)} {fp : List Addr} {scope1 scope : Scope} {own : List (Str × Nat)} (N : List Str) (sc : Scope) (hN : X.N = N := by rfl) (hs : X.env.scope = sc := by rfl) (h : blkC N (relS scope1 sc) scope own = true := by decide +kernel) :
    BlkOk (X.blk s H scope1 (compEnvC scope1 cl C X.env) fp).N (X.blk s H scope1 (compEnvC scope1 cl C X.env) fp).env.scope scope own := by subst hN hs; exact blkOk_by h
theorem eraseIdx_map {α β : Type} (f : α → β) : ∀ (xs : List α) (i : Nat), (xs.map f).eraseIdx i = (xs.eraseIdx i).map f
  | [], _ => rfl
  | _ :: _, 0 => rfl
  | x :: xs, i + 1 => by simp [eraseIdx_map f xs i]
theorem perm_erase {α : Type} : ∀ {xs : List α} {i : Nat} (h : i < xs.length), ([xs[i]] ++ xs.eraseIdx i).Perm xs
  | x :: xs, 0, _ => .refl _
  | x :: xs, i + 1, h => by
    have ih := perm_erase (xs := xs) (i := i) (by simpa using h)
    simp only [List.getElem_cons_succ, List.eraseIdx_cons_succ]
    exact .trans (.swap ..) (.cons x ih)
/-- a new list comes: frozen, or a cell (as the asker wishes) -/
def NewT {α : Type} [TD α] (xs : List α) (M : Mem) (Q : R → Mem → Prop) : Prop := Q (T xs) M ∨ ∃ A B, M = A ++ B ∧ ∀ q, Q (.v (.ref q)) (A ++ (q, .lst (xs.map T)) :: B)
theorem NewT.out {α : Type} [TD α] {xs : List α} {M : Mem} {Q : R → Mem → Prop} (h : NewT xs M Q) : (∃ ys : List PyData, xs.map T = ys.map R.d ∧ Q (.d (.list ys)) M) ∨ ∃ A B, M = A ++ B ∧ ∀ q, Q (.v (.ref q)) (A ++ (q, .lst (xs.map T)) :: B) := by
  rcases h with h | h
  · exact .inl ⟨xs.map td, (T_map xs).symm, h⟩
  · exact .inr h
theorem NewT.mono {α : Type} [TD α] {xs : List α} {M : Mem} {Q Q' : R → Mem → Prop} (h : NewT xs M Q) (k : ∀ r M', Q r M' → Q' r M') : NewT xs M Q' := by
  rcases h with h | ⟨A, B, e, h⟩
  · exact .inl (k _ _ h)
  · exact .inr ⟨A, B, e, fun q => k _ _ (h q)⟩
section
variable {X : Cx} {tg iter elt c : Expr} {scope : Scope} {g : TG} {own : List (Str × Nat)} {ds : List R} {M : Mem} {pos : Pos} {Q : R → Mem → Prop}
theorem tsx_nil {QB : Bool → Mem → Prop} (q : QB true M) : TsX X [] ds M QB := fun σ F H s pins sh I => pts_nil.run pins sh σ H _ I ⟨F, M, q, s.ms, Go.refl⟩
theorem tsx_one {QB : Bool → Mem → Prop} (h : TX X c ds M QB) : TsX X [c] ds M QB := fun σ F H s pins sh I => (pts_one (ptC c)).run pins sh σ H _ I (h σ F H s)
/-- what a comprehension of pure elements asks -/
abbrev LcM {γ β : Type} [TD β] (X : Cx) (tg iter elt : Expr) (scope : Scope) (g : TG) (vs : List Nat) (ds : List R) (M : Mem) (xs : List γ) (φ : γ → R) (f : γ → β) (Q : List β → Mem → Prop) : Prop :=
  IX X tg iter ds M fun rs keep M1 => rs = xs.map φ ∧ keep M1 ∧ xs.length ≤ sizeLine ∧ (∀ x ∈ xs, ∃ ds', TgS X.K g vs (φ x) (wipeR ds vs) ds' ∧ blkG X scope fun Y => DX Y elt ds' M1 (T (f x)) M1) ∧ Q (xs.map f) M1
abbrev LcF {γ β : Type} [TD β] (X : Cx) (tg iter c elt : Expr) (scope : Scope) (g : TG) (vs : List Nat) (ds : List R) (M : Mem) (xs : List γ) (φ : γ → R) (p : γ → Bool) (f : γ → β) (Q : List β → Mem → Prop) : Prop :=
  IX X tg iter ds M fun rs keep M1 => rs = xs.map φ ∧ keep M1 ∧ xs.length ≤ sizeLine ∧ (∀ x ∈ xs, ∃ ds', TgS X.K g vs (φ x) (wipeR ds vs) ds' ∧ (blkG X scope fun Y => DT Y c ds' M1 (p x) M1) ∧ (p x = true → blkG X scope fun Y => DX Y elt ds' M1 (T (f x)) M1)) ∧ Q ((xs.filter p).map f) M1
abbrev LcR {γ β : Type} [TD β] (X : Cx) (tg iter elt : Expr) (scope : Scope) (g : TG) (vs : List Nat) (ds : List R) (M : Mem) (xs : List γ) (φ : γ → R) (J : Nat → List β → Mem → Prop) (Q : List β → Mem → Prop) : Prop :=
  IX X tg iter ds M fun rs keep M1 => rs = xs.map φ ∧ (∀ i ys M, J i ys M → keep M) ∧ xs.length ≤ sizeLine ∧ J 0 [] M1 ∧ (∀ (i : Nat) x ys M, xs[i]? = some x → ys.length = i → J i ys M → ∃ ds', TgS X.K g vs (φ x) (wipeR ds vs) ds' ∧ blkG X scope fun Y => EX Y elt ds' M fun r M' => ∃ y : β, r = T y ∧ J (i + 1) (ys ++ [y]) M') ∧ ∀ ys M, ys.length = xs.length → J xs.length ys M → Q ys M
theorem map_get {γ δ : Type} {xs : List γ} {φ : γ → δ} {i : Nat} {r : δ} (h : (xs.map φ)[i]? = some r) : ∃ x, xs[i]? = some x ∧ φ x = r := by
  rw [List.getElem?_map] at h
  cases e : xs[i]? with
  | none => rw [e] at h; cases h
  | some x => rw [e] at h; exact ⟨x, rfl, Option.some.inj h⟩
theorem take_succ' {γ : Type} {xs : List γ} {i : Nat} {x : γ} (h : xs[i]? = some x) : xs.take (i + 1) = xs.take i ++ [x] := by
  rw [List.take_add_one, h]; rfl
theorem lcM_core {γ β : Type} [TD β] {xs : List γ} {φ : γ → R} {f : γ → β} {Q : List β → Mem → Prop} {Z : List R → Mem → Prop} {vs : List Nat} (hz : ∀ M, Q (xs.map f) M → Z ((xs.map f).map T) M) (h : LcM X tg iter elt scope g vs ds M xs φ f Q) :
    IX X tg iter ds M fun rs keep M1 => ∃ I : Nat → List R → Mem → Prop, I 0 [] M1 ∧ (∀ i acc M, I i acc M → keep M ∧ acc.length ≤ i) ∧ rs.length ≤ sizeLine ∧ LcI X scope g vs [] elt ds rs I ∧ ∀ acc M, I rs.length acc M → Z acc M := fun σ F H s => cI_mono (h σ F H s) fun J H1 ⟨F1, M1, rs, keep, wk, ⟨e, k, l, hb, q⟩, k1, m1, g1⟩ => by
  subst e
  refine ⟨F1, M1, _, keep, wk, ⟨fun i acc M' => acc = ((xs.take i).map f).map T ∧ M' = M1, ⟨rfl, rfl⟩, fun i acc M' ⟨e1, e2⟩ => ⟨by rw [e2]; exact k, by rw [e1]; simp; omega⟩, by rw [List.length_map]; exact l, fun i r acc M' hr ⟨e1, e2⟩ => ?_, fun acc M' ⟨e1, e2⟩ => ?_⟩, k1, m1, g1⟩
  · obtain ⟨x, hx, rfl⟩ := map_get hr
    obtain ⟨ds', t, b⟩ := hb x (List.mem_of_getElem? hx)
    refine ⟨ds', t, fun s H C cl fp => tsx_nil ?_⟩
    rw [if_pos rfl]
    intro s H C cl fp
    subst e1 e2
    exact b s H C cl fp _ ⟨by rw [take_succ' hx, List.map_append, List.map_append]; rfl, rfl⟩
  · subst e1 e2
    have e3 : xs.take ((xs.map φ).length) = xs := by rw [List.length_map]; exact List.take_length
    rw [e3]
    exact hz _ q
theorem lcF_core {γ β : Type} [TD β] {xs : List γ} {φ : γ → R} {p : γ → Bool} {f : γ → β} {Q : List β → Mem → Prop} {Z : List R → Mem → Prop} {vs : List Nat} (hz : ∀ M, Q ((xs.filter p).map f) M → Z (((xs.filter p).map f).map T) M) (h : LcF X tg iter c elt scope g vs ds M xs φ p f Q) :
    IX X tg iter ds M fun rs keep M1 => ∃ I : Nat → List R → Mem → Prop, I 0 [] M1 ∧ (∀ i acc M, I i acc M → keep M ∧ acc.length ≤ i) ∧ rs.length ≤ sizeLine ∧ LcI X scope g vs [c] elt ds rs I ∧ ∀ acc M, I rs.length acc M → Z acc M := fun σ F H s => cI_mono (h σ F H s) fun J H1 ⟨F1, M1, rs, keep, wk, ⟨e, k, l, hb, q⟩, k1, m1, g1⟩ => by
  subst e
  refine ⟨F1, M1, _, keep, wk, ⟨fun i acc M' => acc = (((xs.take i).filter p).map f).map T ∧ M' = M1, ⟨rfl, rfl⟩, fun i acc M' ⟨e1, e2⟩ => ⟨by rw [e2]; exact k, by rw [e1, List.length_map, List.length_map]; exact Nat.le_trans (List.length_filter_le ..) (by rw [List.length_take]; omega)⟩, by rw [List.length_map]; exact l, fun i r acc M' hr ⟨e1, e2⟩ => ?_, fun acc M' ⟨e1, e2⟩ => ?_⟩, k1, m1, g1⟩
  · obtain ⟨x, hx, rfl⟩ := map_get hr
    obtain ⟨ds', t, b, b2⟩ := hb x (List.mem_of_getElem? hx)
    subst e1 e2
    refine ⟨ds', t, fun s H C cl fp => tsx_one (b s H C cl fp _ ?_)⟩
    cases hp : p x with
    | true =>
      rw [if_pos rfl]
      intro s H C cl fp
      exact b2 hp s H C cl fp _ ⟨by rw [take_succ' hx, List.filter_append, List.filter_cons_of_pos hp, List.filter_nil, List.map_append, List.map_append]; rfl, rfl⟩
    | false =>
      rw [if_neg Bool.false_ne_true]
      exact ⟨by rw [take_succ' hx, List.filter_append, List.filter_cons_of_neg (by rw [hp]; exact Bool.false_ne_true), List.filter_nil, List.append_nil], rfl⟩
  · subst e1 e2
    have e3 : xs.take ((xs.map φ).length) = xs := by rw [List.length_map]; exact List.take_length
    rw [e3]
    exact hz _ q
theorem lcR_core {γ β : Type} [TD β] {xs : List γ} {φ : γ → R} {J : Nat → List β → Mem → Prop} {Q : List β → Mem → Prop} {Z : List R → Mem → Prop} {vs : List Nat} (hz : ∀ ys M, Q ys M → Z (ys.map T) M) (h : LcR X tg iter elt scope g vs ds M xs φ J Q) :
    IX X tg iter ds M fun rs keep M1 => ∃ I : Nat → List R → Mem → Prop, I 0 [] M1 ∧ (∀ i acc M, I i acc M → keep M ∧ acc.length ≤ i) ∧ rs.length ≤ sizeLine ∧ LcI X scope g vs [] elt ds rs I ∧ ∀ acc M, I rs.length acc M → Z acc M := fun σ F H s => cI_mono (h σ F H s) fun J' H1 ⟨F1, M1, rs, keep, wk, ⟨e, k, l, j0, hb, q⟩, k1, m1, g1⟩ => by
  subst e
  refine ⟨F1, M1, _, keep, wk, ⟨fun i acc M' => ∃ ys : List β, acc = ys.map T ∧ ys.length = i ∧ J i ys M', ⟨[], rfl, rfl, j0⟩, fun i acc M' ⟨ys, e1, e2, j⟩ => ⟨k _ _ _ j, by rw [e1, List.length_map, e2]; exact Nat.le_refl _⟩, by rw [List.length_map]; exact l, fun i r acc M' hr ⟨ys, e1, e2, j⟩ => ?_, fun acc M' ⟨ys, e1, e2, j⟩ => ?_⟩, k1, m1, g1⟩
  · obtain ⟨x, hx, rfl⟩ := map_get hr
    subst e1
    obtain ⟨ds', t, b⟩ := hb i x ys M' hx e2 j
    refine ⟨ds', t, fun s H C cl fp => tsx_nil ?_⟩
    rw [if_pos rfl]
    intro s H C cl fp
    refine (b s H C cl fp).mono fun r M'' ⟨y, e3, j2⟩ => ?_
    subst e3
    exact ⟨ys ++ [y], by rw [List.map_append]; rfl, by simp [e2], j2⟩
  · subst e1
    rw [List.length_map] at e2 j
    exact hz _ _ (q ys M' e2 j)
theorem ex_lcM {γ β : Type} [TD β] {xs : List γ} {φ : γ → R} {f : γ → β} (hc : X.calm = true) (hN : X.N.Nodup) (ok : BlkOk X.N X.env.scope scope own) (hg : blkG X scope fun Y => PG Y tg g) (h : LcM X tg iter elt scope g (own.map (·.2)) ds M xs φ f fun ys M1 => NewT ys M1 Q)
    (hs : ∀ x, foldedSetIterable iter X.env x = pure x := by intro _; rfl) : EX X (.ListComp elt [⟨tg, iter, [], 0⟩] scope pos) ds M Q := ex_lc hc hN ok hg (lcM_core (Z := fun acc M => (∃ ys : List PyData, acc = ys.map R.d ∧ Q (.d (.list ys)) M) ∨ ∃ A B, M = A ++ B ∧ ∀ q, Q (.v (.ref q)) (A ++ (q, .lst acc) :: B)) (fun M q => q.out) h) hs
theorem ex_lcF {γ β : Type} [TD β] {xs : List γ} {φ : γ → R} {p : γ → Bool} {f : γ → β} (hc : X.calm = true) (hN : X.N.Nodup) (ok : BlkOk X.N X.env.scope scope own) (hg : blkG X scope fun Y => PG Y tg g) (h : LcF X tg iter c elt scope g (own.map (·.2)) ds M xs φ p f fun ys M1 => NewT ys M1 Q)
    (hs : ∀ x, foldedSetIterable iter X.env x = pure x := by intro _; rfl) : EX X (.ListComp elt [⟨tg, iter, [c], 0⟩] scope pos) ds M Q := ex_lc hc hN ok hg (lcF_core (Z := fun acc M => (∃ ys : List PyData, acc = ys.map R.d ∧ Q (.d (.list ys)) M) ∨ ∃ A B, M = A ++ B ∧ ∀ q, Q (.v (.ref q)) (A ++ (q, .lst acc) :: B)) (fun M q => q.out) h) hs
theorem ex_lcR {γ β : Type} [TD β] {xs : List γ} {φ : γ → R} {J : Nat → List β → Mem → Prop} (hc : X.calm = true) (hN : X.N.Nodup) (ok : BlkOk X.N X.env.scope scope own) (hg : blkG X scope fun Y => PG Y tg g) (h : LcR X tg iter elt scope g (own.map (·.2)) ds M xs φ J fun ys M1 => NewT ys M1 Q)
    (hs : ∀ x, foldedSetIterable iter X.env x = pure x := by intro _; rfl) : EX X (.ListComp elt [⟨tg, iter, [], 0⟩] scope pos) ds M Q := ex_lc hc hN ok hg (lcR_core (Z := fun acc M => (∃ ys : List PyData, acc = ys.map R.d ∧ Q (.d (.list ys)) M) ∨ ∃ A B, M = A ++ B ∧ ∀ q, Q (.v (.ref q)) (A ++ (q, .lst acc) :: B)) (fun _ M q => q.out) h) hs
variable {rest : List Stmt} {D : Po} {spos py : Pos} {y : Str}
theorem bx_setLcM (i : Nat) {γ β : Type} [TD β] {xs : List γ} {φ : γ → R} {f : γ → β} (hc : X.calm = true) (hN : X.N.Nodup) (ok : BlkOk X.N X.env.scope scope own) (hg : blkG X scope fun Y => PG Y tg g) (h : LcM X tg iter elt scope g (own.map (·.2)) ds M xs φ f fun ys M1 => NewT ys M1 fun r M2 => BX X rest (ds.set i r) M2 D)
    (hy : X.N[i]? = some y := by rfl) (hyl : X.env.scope.names.lookup y = some .local := by rfl) (hsw : swapsWith (.ListComp elt [⟨tg, iter, [], 0⟩] scope pos) (some (.Name y py)) spos.line X.env = pure true := by exact sw_true rfl rfl rfl (by decide +kernel))
    (hs : ∀ x, foldedSetIterable iter X.env x = pure x := by intro _; rfl) : BX X (.Assign [.Name y py] (.ListComp elt [⟨tg, iter, [], 0⟩] scope pos) spos :: rest) ds M D := bx_setLc i hc hN ok hg (lcM_core (Z := fun acc M => (∃ ys : List PyData, acc = ys.map R.d ∧ BX X rest (ds.set i (.d (.list ys))) M D) ∨ ∃ A B, M = A ++ B ∧ ∀ q, BX X rest (ds.set i (.v (.ref q))) (A ++ (q, .lst acc) :: B) D) (fun M q => q.out) h) hy hyl hsw hs
theorem bx_setLcF (i : Nat) {γ β : Type} [TD β] {xs : List γ} {φ : γ → R} {p : γ → Bool} {f : γ → β} (hc : X.calm = true) (hN : X.N.Nodup) (ok : BlkOk X.N X.env.scope scope own) (hg : blkG X scope fun Y => PG Y tg g) (h : LcF X tg iter c elt scope g (own.map (·.2)) ds M xs φ p f fun ys M1 => NewT ys M1 fun r M2 => BX X rest (ds.set i r) M2 D)
    (hy : X.N[i]? = some y := by rfl) (hyl : X.env.scope.names.lookup y = some .local := by rfl) (hsw : swapsWith (.ListComp elt [⟨tg, iter, [c], 0⟩] scope pos) (some (.Name y py)) spos.line X.env = pure true := by exact sw_true rfl rfl rfl (by decide +kernel))
    (hs : ∀ x, foldedSetIterable iter X.env x = pure x := by intro _; rfl) : BX X (.Assign [.Name y py] (.ListComp elt [⟨tg, iter, [c], 0⟩] scope pos) spos :: rest) ds M D := bx_setLc i hc hN ok hg (lcF_core (Z := fun acc M => (∃ ys : List PyData, acc = ys.map R.d ∧ BX X rest (ds.set i (.d (.list ys))) M D) ∨ ∃ A B, M = A ++ B ∧ ∀ q, BX X rest (ds.set i (.v (.ref q))) (A ++ (q, .lst acc) :: B) D) (fun M q => q.out) h) hy hyl hsw hs
theorem bx_setLcR (i : Nat) {γ β : Type} [TD β] {xs : List γ} {φ : γ → R} {J : Nat → List β → Mem → Prop} (hc : X.calm = true) (hN : X.N.Nodup) (ok : BlkOk X.N X.env.scope scope own) (hg : blkG X scope fun Y => PG Y tg g) (h : LcR X tg iter elt scope g (own.map (·.2)) ds M xs φ J fun ys M1 => NewT ys M1 fun r M2 => BX X rest (ds.set i r) M2 D)
    (hy : X.N[i]? = some y := by rfl) (hyl : X.env.scope.names.lookup y = some .local := by rfl) (hsw : swapsWith (.ListComp elt [⟨tg, iter, [], 0⟩] scope pos) (some (.Name y py)) spos.line X.env = pure true := by exact sw_true rfl rfl rfl (by decide +kernel))
    (hs : ∀ x, foldedSetIterable iter X.env x = pure x := by intro _; rfl) : BX X (.Assign [.Name y py] (.ListComp elt [⟨tg, iter, [], 0⟩] scope pos) spos :: rest) ds M D := bx_setLc i hc hN ok hg (lcR_core (Z := fun acc M => (∃ ys : List PyData, acc = ys.map R.d ∧ BX X rest (ds.set i (.d (.list ys))) M D) ∨ ∃ A B, M = A ++ B ∧ ∀ q, BX X rest (ds.set i (.v (.ref q))) (A ++ (q, .lst acc) :: B) D) (fun _ M q => q.out) h) hy hyl hsw hs
end
end Hq
/-! Lp: loops by typed states, the built-ins' names, small helps. -/
namespace Hq
open PySem PySem.Spec PyProof.Rows L2
/-- no name of these is the module's own -/
structure Bt (mg : Str → Option Value) : Prop where
  len : mg "len" = none
  range : mg "range" = none
  sum : mg "sum" = none
  abs : mg "abs" = none
  list : mg "list" = none
  tuple : mg "tuple" = none
  zip : mg "zip" = none
  enumerate : mg "enumerate" = none
  all : mg "all" = none
  isinstance : mg "isinstance" = none
  int : mg "int" = none
  bool : mg "bool" = none
  str : mg "str" = none
  repr : mg "repr" = none
  min : mg "min" = none
  max : mg "max" = none
  sorted : mg "sorted" = none
  set : mg "set" = none
theorem IsD.clT {M : Mem} {α : Type} [TD α] {p : Addr} {xs : List α} (h : (p, Cell.lst (xs.map T)) ∈ M) : IsD M (.v (.ref p)) (td xs) := .cl (by rw [T_map]; exact h)
section
variable {X : Cx} {e a b c tg iter : Expr} {ds ds' : List R} {M M1 M2 : Mem} {pos p p2 : Pos} {D : Po} {r r1 : R} {body rest : List Stmt} {k : Nat}
theorem dt_neNil {xs : List PyData} (hr : Room k X.A) (ha : DX X a ds M r1 M1) (h : IsD M1 r1 (.list xs)) (hs : SeqAt.shaped (.list xs) = true) : DT X (.Compare a [.NotEq] [.List [] p2] pos) ds M (!xs.isEmpty) M1 := fun Q q => dt_neqv hr ha (dx_lst da_nil) h (.d (.list [])) hs rfl Q (by
  rw [show PyData.eqv (.list xs) (.list []) = xs.isEmpty by cases xs <;> rfl]; exact q)
theorem dx_eqNil {xs : List PyData} (hr : Room k X.A) (ha : DX X a ds M r1 M1) (h : IsD M1 r1 (.list xs)) (hs : SeqAt.shaped (.list xs) = true) : DX X (.Compare a [.Eq] [.List [] p2] pos) ds M (T xs.isEmpty) M1 := fun Q q => dx_eqv hr ha (dx_lst da_nil) h (.d (.list [])) hs rfl Q (by
  rw [show PyData.eqv (.list xs) (.list []) = xs.isEmpty by cases xs <;> rfl]; exact q)
/-- for, by a typed state s whose slots are st s -/
theorem bx_forT {γ S : Type} (xs : List γ) (φ : γ → R) (st : S → List R) (J : Nat → S → Mem → Prop) (hc : X.calm = true) (hp : PassesOwn (model X.prog X.w) X.A X.env X.xe) (h : IX X tg iter ds M fun rs keep M1 => rs = xs.map φ ∧ (∀ i s M, J i s M → keep M) ∧ (∃ s, Wk ds (st s) ∧ J 0 s M1) ∧
    (∀ i x s M, xs[i]? = some x → J i s M → GX X tg (φ x) (st s) M fun ds' M' => BX X body ds' M' { D with nx := fun ds M => ∃ s, Wk ds (st s) ∧ J (i + 1) s M, ct := fun ds M => ∃ s, Wk ds (st s) ∧ J (i + 1) s M, bk := fun ds M => BX X rest ds M D }) ∧
    ∀ s M, J xs.length s M → BX X rest (st s) M D) (hs : ∀ x, foldedSetIterable iter X.env x = pure x := by intro _; rfl) : BX X (.For tg iter body [] pos :: rest) ds M D :=
  bx_for hc hp (fun σ F H s => cI_mono (h σ F H s) fun J' H1 ⟨F1, M1, rs, keep, wk, ⟨e, hk, ⟨s0, w0, j0⟩, hb, hd⟩, k1, m1, g1⟩ => by
    subst e
    refine ⟨F1, M1, _, keep, wk, ⟨fun i ds M => ∃ s, Wk ds (st s) ∧ J i s M, ⟨s0, w0, j0⟩, fun i ds M ⟨s, _, j⟩ => hk _ _ _ j, fun i r ds M hr ⟨s, w, j⟩ => ?_, fun ds M ⟨s, w, j⟩ => bx_weak w (hd s M (by rw [List.length_map] at j; exact j))⟩, k1, m1, g1⟩
    obtain ⟨x, hx, rfl⟩ := map_get hr
    intro σ F H v ss wv
    exact hb i x s M hx j σ F H v ⟨ss.sl.weak w, ss.ms⟩ wv) hs
/-- while, by a typed state and a measure -/
theorem bx_whileT {S : Type} (st : S → List R) (J : S → Mem → Prop) (μ : S → Nat) (s0 : S) (hp : PassesOwn (model X.prog X.w) X.A X.env X.xe) (w0 : Wk ds (st s0)) (j0 : J s0 M)
    (hb : ∀ s M, J s M → TX X c (st s) M fun k M1 => if k = true then BX X body (st s) M1 { D with nx := fun ds M => ∃ s', Wk ds (st s') ∧ μ s' < μ s ∧ J s' M, ct := fun ds M => ∃ s', Wk ds (st s') ∧ μ s' < μ s ∧ J s' M, bk := fun ds M => BX X rest ds M D } else BX X rest (st s) M1 D) : BX X (.While c body [] pos :: rest) ds M D :=
  bx_weak w0 (bx_while hp (fun ds M n => ∃ s, ds = st s ∧ n = μ s ∧ J s M) (μ s0) ⟨s0, rfl, rfl, j0⟩ fun ds M n ⟨s, e1, e2, j⟩ => by
    subst e1 e2
    refine (hb s M j).mono fun k M1 q => ?_
    cases k with
    | true =>
      rw [if_pos rfl] at q ⊢
      -- the ends are to be exact: weaken at the end
      intro σ F H ss
      refine cB_mono (q σ F H ss) ⟨?_, fun _ _ z => z, fun _ _ z => z, ?_⟩
      · exact fun σ' H' ⟨F', M', ds', a, ⟨s', w, l, j⟩, c, g⟩ => ⟨F', M', _, a.weak w, ⟨μ s', l, s', rfl, rfl, j⟩, c, g⟩
      · exact fun σ' H' ⟨F', M', ds', a, ⟨s', w, l, j⟩, c, g⟩ => ⟨F', M', _, a.weak w, ⟨μ s', l, s', rfl, rfl, j⟩, c, g⟩
    | false => exact q)
/-- the joining of ways, by a typed state -/
theorem bx_cutT {S : Type} {st : Stmt} (sl : S → List R) (J : S → Mem → Prop) (h : SX X st ds M { D with nx := fun ds M => ∃ s, Wk ds (sl s) ∧ J s M }) (h2 : ∀ s M, J s M → BX X rest (sl s) M D) : BX X (st :: rest) ds M D := bx_cut _ h fun ds M ⟨s, w, j⟩ => bx_weak w (h2 s M j)
theorem sx_ifD {A B : List Stmt} {k : Bool} (h : DT X c ds M k M1) (h1 : k = true → BX X A ds M1 D) (h2 : k = false → BX X B ds M1 D) : SX X (.If c A B pos) ds M D := sx_if (h _ (by
  cases k with
  | true => exact h1 rfl
  | false => exact h2 rfl))
end
/-! cells looked at as data for one expression whose value is a truth -/
mutual
inductive Vw (M : Mem) : R → PyData → Prop
  | d (x : PyData) : Vw M (.d x) x
  | l {p : Addr} {rs : List R} {xs : List PyData} : (p, Cell.lst rs) ∈ M → VwL M rs xs → Vw M (.v (.ref p)) (.list xs)
  | t {rs : List R} {xs : List PyData} : VwL M rs xs → Vw M (.t rs) (.tuple xs)
inductive VwL (M : Mem) : List R → List PyData → Prop
  | nil : VwL M [] []
  | cons {r : R} {rs : List R} {x : PyData} {xs : List PyData} : Vw M r x → VwL M rs xs → VwL M (r :: rs) (x :: xs)
end
theorem vwL_map {M : Mem} : ∀ xs : List PyData, VwL M (xs.map R.d) xs
  | [] => .nil
  | x :: xs => .cons (.d x) (vwL_map xs)
theorem vwL_T {α : Type} [TD α] {M : Mem} (xs : List α) : VwL M (xs.map T) (xs.map td) := by rw [← T_map]; exact vwL_map _
theorem vwL_app {M : Mem} : ∀ {rs qs : List R} {xs ys : List PyData}, VwL M rs xs → VwL M qs ys → VwL M (rs ++ qs) (xs ++ ys)
  | _, _, _, _, .nil, h => h
  | _, _, _, _, .cons a t, h => .cons a (vwL_app t h)
def Vws (M : Mem) : List R → List R → Prop
  | [], [] => True
  | a :: as, b :: bs => (a = b ∨ b = .no ∨ ∃ x, Vw M a x ∧ b = .d x) ∧ Vws M as bs
  | _, _ => False
section
variable {K : PySem.W.Frag} {M : Mem} {F F2 H : Hp}
mutual
theorem vw_dq (m : Ms K M F H) (s1 : Same F F2) (s2 : ∀ p c, (p, c) ∈ M → F2 p = H p) : ∀ (x : PyData) (r : R) (v : V), Vw M r x → Rr K F v r → Dq F2 v x
  | x, .d y, v, h, w => by
    cases h with
    | d => exact dq_up s1 _ _ (rr_d.mp w)
  | .list xs, .v _, v, h, w => by
    cases h with
    | l h1 h2 =>
      have w := rr_v.mp w
      subst w
      obtain ⟨zs, a, b⟩ := (m.mem _ _ h1).2
      exact .lst ((s2 _ _ h1).trans a) (vw_dqs m s1 s2 xs _ zs h2 b)
  | .tuple xs, .t rs, v, h, w => by
    cases h with
    | t h2 =>
      obtain ⟨a, zs, rfl, c, d⟩ := rr_t.mp w
      exact .tup (s1 _ _ c) (vw_dqs m s1 s2 xs _ zs h2 d)
  | _, .no, _, h, _ => by cases h
  | _, .s _, _, h, _ => by cases h
  | .none, .v _, _, h, _ => by cases h
  | .bool _, .v _, _, h, _ => by cases h
  | .int _, .v _, _, h, _ => by cases h
  | .str _, .v _, _, h, _ => by cases h
  | .tuple _, .v _, _, h, _ => by cases h
  | .dict _, .v _, _, h, _ => by cases h
  | .none, .t _, _, h, _ => by cases h
  | .bool _, .t _, _, h, _ => by cases h
  | .int _, .t _, _, h, _ => by cases h
  | .str _, .t _, _, h, _ => by cases h
  | .list _, .t _, _, h, _ => by cases h
  | .dict _, .t _, _, h, _ => by cases h
theorem vw_dqs (m : Ms K M F H) (s1 : Same F F2) (s2 : ∀ p c, (p, c) ∈ M → F2 p = H p) : ∀ (xs : List PyData) (rs : List R) (vs : List V), VwL M rs xs → Rrs K F vs rs → Dqs F2 vs xs
  | [], _, _, h, w => by cases h; cases w; exact .nil
  | x :: xs, _, _, h, w => by
    cases h with
    | cons h1 h2 =>
      cases w with
      | cons w1 w2 => exact .cons (vw_dq m s1 s2 x _ _ h1 w1) (vw_dqs m s1 s2 xs _ _ h2 w2)
end
theorem Vws.spec : ∀ {ds ds' : List R}, Vws M ds ds' → ds.length = ds'.length ∧ ∀ (i : Nat) (r : R), ds'[i]? = some r → r ≠ R.no → ds[i]? = some r ∨ ∃ r0 x, ds[i]? = some r0 ∧ Vw M r0 x ∧ r = .d x
  | [], [], _ => ⟨rfl, fun i r a _ => .inl a⟩
  | a :: as, b :: bs, h => by
    obtain ⟨h1, h2⟩ := h
    obtain ⟨l, s⟩ := Vws.spec h2
    refine ⟨by simp [l], fun i r e n => ?_⟩
    cases i with
    | zero =>
      have e' : b = r := by simpa using e
      subst e'
      rcases h1 with z | z | ⟨x, z, z2⟩
      · exact .inl (by simp [z])
      · exact absurd z n
      · exact .inr ⟨a, x, by simp, z, z2⟩
    | succ i => simpa using s i r (by simpa using e) n
  | [], _ :: _, h => h.elim
  | _ :: _, [], h => h.elim
end
theorem dx_look {X : Cx} {e : Expr} {ds ds' : List R} {M : Mem} {b : Bool} (hv : Vws M ds ds') (h : DX X e ds' [] (T b) []) : DX X e ds M (T b) M := fun Q q σ F H s => by
  let F2 : Hp := fun p => if p ∈ ads M then H p else F p
  have out : ∀ p o, F p = some o → p ∉ ads M := fun p o e z => by
    obtain ⟨⟨a, c⟩, h1, h2⟩ := List.mem_map.mp z
    have h2 : a = p := h2
    subst h2
    rw [(s.ms.mem a c h1).1] at e; cases e
  have s1 : Same F F2 := fun p o e => by show (if p ∈ ads M then H p else F p) = _; rw [if_neg (out p o e)]; exact e
  have s2 : ∀ p c, (p, c) ∈ M → F2 p = H p := fun p c hm => if_pos (List.mem_map.mpr ⟨_, hm, rfl⟩)
  have m2 : Ms X.K [] F2 H := ⟨fun p o e => by
    by_cases z : p ∈ ads M
    · have e : (if p ∈ ads M then H p else F p) = some o := e
      rw [if_pos z] at e; exact e
    · have e : (if p ∈ ads M then H p else F p) = some o := e
      rw [if_neg z] at e; exact s.ms.ex p o e, fun _ _ z => (nomatch z), List.nodup_nil⟩
  obtain ⟨l, sp⟩ := hv.spec
  have sl2 : Sl X.K F2 σ ds' := ⟨s.sl.1.trans l, fun i r a n => by
    rcases sp i r a n with z | ⟨r0, x, z, hx, e⟩
    · obtain ⟨v, c, d⟩ := s.sl.2 i r z n
      exact ⟨v, c, d.up s1⟩
    · subst e
      obtain ⟨v, c, d⟩ := s.sl.2 i r0 z (by cases hx <;> nofun)
      exact ⟨v, c, rr_d.mpr (vw_dq s.ms s1 s2 x r0 v hx d)⟩⟩
  refine cE_mono (h (fun r M' => r = T b ∧ M' = []) ⟨rfl, rfl⟩ σ F2 H ⟨sl2, m2⟩) fun v H' ⟨F3, M3, r, w, ⟨e1, e2⟩, m3, g3⟩ => ?_
  subst e1 e2
  have hv := rr_bl w
  subst hv
  have s3 : Same F (fun p => if p ∈ ads M then none else F3 p) := fun p o e => by
    show (if p ∈ ads M then none else F3 p) = _
    rw [if_neg (out p o e)]
    exact g3.ex p o (s1 p o e)
  refine ⟨fun p => if p ∈ ads M then none else F3 p, M, _, rrB, q, ⟨fun p o e => ?_, fun p c hm => ⟨if_pos (List.mem_map.mpr ⟨_, hm, rfl⟩), ?_⟩, s.ms.nd⟩, ⟨s3, fun p o e _ => g3.fr p o e (by simp [ads]), fun p o e f n => ?_, fun p z => .inl z⟩⟩
  · have e : (if p ∈ ads M then none else F3 p) = some o := e
    by_cases z : p ∈ ads M
    · rw [if_pos z] at e; cases e
    · rw [if_neg z] at e; exact m3.ex p o e
  · obtain ⟨o, ho⟩ := (s.ms.mem p c hm).2.here
    exact (s.ms.mem p c hm).2.up s3 ((g3.fr p o ho (by simp [ads])).trans ho.symm)
  · show (if p ∈ ads M then none else F3 p) = none
    rw [if_neg n]
    refine g3.nf p o e ?_ (by simp [ads])
    show (if p ∈ ads M then H p else F p) = none
    rw [if_neg n]
    exact f
/-! ### xs[::-1] -/
theorem ex_revL {X : Cx} {e : Expr} {ds : List R} {M : Mem} {k : Nat} {p1 p2 p3 pos : Pos} {Q : R → Mem → Prop} (h : EX X e ds M fun r M1 => ∃ ys : List PyData, IsL M1 r (ys.map R.d) ∧ Q (.d (.list ys.reverse)) M1) : EX X (.Subscript e (.Slice none none (some (.UnaryOp .USub (.Constant (.int 1) k p1) p2)) p3) pos) ds M Q :=
  ex_pe (pe_revL (peC e)) fun σ F H s => cE_mono (h σ F H s) fun v H' ⟨F', M', r, w, ⟨ys, hl, q⟩, m, g⟩ => by
    obtain ⟨p, xs, rfl, a, b⟩ := hl.get m w
    refine ⟨p, xs, rfl, a, fun z nz => Out.trans g (newL m ?_ nz q)⟩
    rw [List.map_reverse]
    exact rrs_rev b
where rrs_rev {K : PySem.W.Frag} {F : Hp} : ∀ {vs : List V} {rs : List R}, Rrs K F vs rs → Rrs K F vs.reverse rs.reverse
  | _, _, .nil => .nil
  | _, _, .cons a t => by rw [List.reverse_cons, List.reverse_cons]; exact rrs_app (rrs_rev t) (.cons a .nil)
theorem dx_revT {X : Cx} {e : Expr} {ds : List R} {M M1 : Mem} {k : Nat} {p1 p2 p3 pos : Pos} {α : Type} [TD α] {xs : List α} (h : DX X e ds M (T xs) M1) : DX X (.Subscript e (.Slice none none (some (.UnaryOp .USub (.Constant (.int 1) k p1) p2)) p3) pos) ds M (T xs.reverse) M1 :=
  fun Q q => ex_revL (h _ ⟨xs.map td, by rw [T_map]; exact isL_T xs, by rw [← List.map_reverse]; exact q⟩)
/-! ### how long a repr is -/
mutual
def cost : PyData → Nat
  | .none => 4
  | .bool _ => 5
  | .int _ => 1922
  | .str x => (reprText x).length
  | .list xs => 2 + costs xs
  | .tuple xs => 3 + costs xs
  | .dict _ => 0
def costs : List PyData → Nat
  | [] => 0
  | x :: xs => cost x + 2 + costs xs
end
theorem len_app (x y : Str) : (x ++ y).length = x.length + y.length := strLen_append x y
theorem ofS_len (s : String) : (Str.ofString s).length = s.length := PySem.ofString_length s
def lens (ts : List Str) : Nat := (ts.map fun t => t.length + 2).sum
theorem lens_cons (t : Str) (ts : List Str) : lens (t :: ts) = t.length + 2 + lens ts := by simp [lens]
theorem textFrom_le : ∀ (ts : List Str) (k : Nat) (acc : Str), (textFrom k acc ts).length ≤ acc.length + lens ts
  | [], k, acc => Nat.le_add_right _ _
  | t :: ts, k, acc => by
    have h := textFrom_le ts (k + 1) (acc ++ (if k > 0 then ", " else "" : String) ++ t)
    have e : (acc ++ ((if k > 0 then ", " else "" : String) : Str) ++ t).length ≤ acc.length + 2 + t.length := by
      rw [len_app, len_app]
      have : ((if k > 0 then ", " else "" : String) : Str).length ≤ 2 := by split <;> decide
      omega
    rw [lens_cons]
    refine Nat.le_trans (show (textFrom k acc (t :: ts)).length ≤ _ from h) ?_
    omega
theorem piled_le : ∀ ts : List Str, (Str.join ", " ts).length ≤ lens ts
  | [] => by show (0 : Nat) ≤ 0; omega
  | t :: ts => by
    have h := join_length_add (t :: ts) (by simp)
    have e : ∀ us : List Str, piled us = lens us := by
      intro us
      induction us with
      | nil => rfl
      | cons u us ih => rw [lens_cons, ← ih]; simp [piled]
    rw [e] at h
    omega
mutual
theorem shown_le : ∀ d : PyData, d.showable = true → d.hasDict = false → d.shown.length ≤ cost d
  | .none, _, _ => by simp only [PyData.shown, cost]; decide
  | .bool b, _, _ => by cases b <;> simp only [PyData.shown, cost] <;> decide
  | .int i, h, _ => by
    simp only [PyData.showable, decide_eq_true_eq] at h
    simp only [PyData.shown, cost]
    have e := int_text_length_le (a := i) (k := 1920) (by decide) h
    rw [ofS_len]
    omega
  | .str x, _, _ => by simp only [PyData.shown, cost]; exact Nat.le_refl _
  | .list xs, h, h2 => by
    simp only [PyData.showable] at h
    simp only [PyData.hasDict] at h2
    simp only [PyData.shown, cost]
    have e := shownAll_le xs h h2
    unfold listText
    rw [len_app]
    have e2 := textFrom_le (PyData.shownAll xs) 0 "["
    have e3 : (("[" : String) : Str).length = 1 := by decide
    have e4 : (("]" : String) : Str).length = 1 := by decide
    rw [e4]
    omega
  | .tuple xs, h, h2 => by
    simp only [PyData.showable] at h
    simp only [PyData.hasDict] at h2
    simp only [PyData.shown, cost]
    have e := shownAll_le xs h h2
    unfold tupleText
    rw [len_app, len_app]
    have e2 := piled_le (PyData.shownAll xs)
    have e3 : (("(" : String) : Str).length = 1 := by decide
    have e4 : ((if (PyData.shownAll xs).length == 1 then ",)" else ")" : String) : Str).length ≤ 2 := by split <;> decide
    omega
  | .dict _, _, h => by simp [PyData.hasDict] at h
theorem shownAll_le : ∀ ds : List PyData, PyData.showableAll ds = true → PyData.hasDictAll ds = false → lens (PyData.shownAll ds) ≤ costs ds
  | [], _, _ => Nat.le_refl _
  | d :: ds, h, h2 => by
    simp only [PyData.showableAll, Bool.and_eq_true] at h
    simp only [PyData.hasDictAll, Bool.or_eq_false_iff] at h2
    simp only [PyData.shownAll, costs]
    rw [lens_cons]
    have a := shown_le d h.1 h2.1
    have b := shownAll_le ds h.2 h2.2
    omega
end
/-- fit to be shown -/
structure Sho (c n : Nat) (d : PyData) : Prop where
  s : d.showable = true
  h : d.hasDict = false
  dep : d.depth ≤ n
  le : cost d ≤ c
theorem Sho.mono {c c' n n' : Nat} {d : PyData} (h : Sho c n d) (h1 : c ≤ c') (h2 : n ≤ n') : Sho c' n' d := ⟨h.s, h.h, Nat.le_trans h.dep h2, Nat.le_trans h.le h1⟩
theorem Sho.int {i : Int} (h : i.natAbs < 2 ^ 1919) : Sho 1922 0 (.int i) := ⟨by
  simp only [PyData.showable, decide_eq_true_eq]
  rcases Nat.eq_zero_or_pos i.natAbs with h0 | hp
  · rw [h0]; decide
  · exact Nat.lt_succ_of_lt ((Nat.log2_lt (by omega)).mpr h), rfl, Nat.le_refl _, by simp only [cost]; exact Nat.le_refl _⟩
theorem Sho.alls {c n : Nat} : ∀ {ds : List PyData}, (∀ d ∈ ds, Sho c n d) → PyData.showableAll ds = true ∧ PyData.hasDictAll ds = false ∧ PyData.depthAll ds ≤ n ∧ costs ds ≤ ds.length * (c + 2)
  | [], _ => ⟨rfl, rfl, Nat.zero_le _, Nat.zero_le _⟩
  | d :: ds, h => by
    obtain ⟨a1, a2, a3, a4⟩ := h d List.mem_cons_self
    obtain ⟨b1, b2, b3, b4⟩ := Sho.alls fun x hx => h x (List.mem_cons_of_mem _ hx)
    refine ⟨by simp [PyData.showableAll, a1, b1], by simp [PyData.hasDictAll, a2, b2], Nat.max_le.mpr ⟨a3, b3⟩, ?_⟩
    simp only [costs, List.length_cons, Nat.add_mul, Nat.one_mul]
    omega
theorem Sho.list {c n k : Nat} {ds : List PyData} (h : ∀ d ∈ ds, Sho c n d) (l : ds.length ≤ k) : Sho (2 + k * (c + 2)) (n + 1) (.list ds) := by
  obtain ⟨a, b, d, e⟩ := Sho.alls h
  exact ⟨by simpa only [PyData.showable] using a, by simpa only [PyData.hasDict] using b, Nat.succ_le_succ d, by simp only [cost]; have := Nat.mul_le_mul_right (c + 2) l; omega⟩
theorem Sho.tuple {c n k : Nat} {ds : List PyData} (h : ∀ d ∈ ds, Sho c n d) (l : ds.length ≤ k) : Sho (3 + k * (c + 2)) (n + 1) (.tuple ds) := by
  obtain ⟨a, b, d, e⟩ := Sho.alls h
  exact ⟨by simpa only [PyData.showable] using a, by simpa only [PyData.hasDict] using b, Nat.succ_le_succ d, by simp only [cost]; have := Nat.mul_le_mul_right (c + 2) l; omega⟩
theorem Sho.listT {α : Type} [TD α] {c n k : Nat} {xs : List α} (h : ∀ x ∈ xs, Sho c n (td x)) (l : xs.length ≤ k) : Sho (2 + k * (c + 2)) (n + 1) (td xs) := Sho.list (fun d hd => by obtain ⟨x, hx, rfl⟩ := List.mem_map.mp hd; exact h x hx) (by rw [List.length_map]; exact l)
theorem dx_repr {X : Cx} {e : Expr} {ds : List R} {M M1 : Mem} {r : R} {xs : List PyData} {pos p : Pos} {k c n : Nat} (hg : X.A.guards = some []) (hr : Room k X.A) (hm : X.mg "repr" = none) (h : DX X e ds M r M1) (hd : IsD M1 r (.list xs)) (s : Sho c n (.list xs)) (hc : c ≤ 16000000) (hn : n ≤ 100) (gl : Gl X "repr" := by rfl) (he : starEach [e] X.env = (false, eval e X.env) :: starEach [] X.env := by exact st_any rfl) : DX X (.Call (.Name "repr" p) [e] [] pos) ds M (T (PyData.shown (.list xs))) M1 :=
  fun Q q => ex_repr hg hr hm (h _ ⟨xs, hd, s.s, s.h, Nat.le_trans s.dep hn, Nat.le_trans (shown_le _ s.s s.h) (Nat.le_trans s.le (Nat.le_trans hc (by rw [sizeLine_eq]; decide))), q⟩) gl he
/-- cells of the answer forgotten -/
theorem ex_drop {X : Cx} {e : Expr} {ds : List R} {M : Mem} {Q : R → Mem → Prop} (h : EX X e ds M fun r M1 => ∃ M2, M2.Sublist M1 ∧ Q r M2) : EX X e ds M Q := fun σ F H s =>
  cE_mono (h σ F H s) fun v H' ⟨F', M1, r, a, ⟨M2, w, q⟩, m, g⟩ => ⟨F', M2, r, a, q, (m.drop w).1, g.trans (m.drop w).2⟩
end Hq
/-! Lq: enumerate of a cell; comprehensions whose elements are not data. -/
namespace Hq
open PySem PySem.Spec PyProof.Rows L2
section
variable {X : Cx} {e tg iter elt c : Expr} {scope : Scope} {g : TG} {own : List (Str × Nat)} {ds : List R} {M : Mem} {pos p : Pos} {Q : R → Mem → Prop} {rest : List Stmt} {D : Po} {y : Str} {py spos : Pos}
theorem ix_enumC {elts : List Expr} {kk : Nat} {tpos : Pos} {QI : List R → (Mem → Prop) → Mem → Prop} (hm : X.mg "enumerate" = none) (h : EX X e ds M fun r M1 => ∃ q rs, r = .v (.ref q) ∧ (q, Cell.lst rs) ∈ M1 ∧ QI ((List.range rs.length).map fun (i : Nat) => .t [T (i : Int), rs.getD i .no]) (fun M => (q, Cell.lst rs) ∈ M) M1) (gl : Gl X "enumerate" := by rfl)
    (he : starEach [e] X.env = [(false, eval e X.env)] := by exact st_any rfl) : IX X (.Tuple elts kk tpos) (.Call (.Name "enumerate" p) [e] [] pos) ds M QI := ix_pi (pi_enum gl hm (pa_cons (peC e) pa_nil he) he) fun σ F H s =>
  cE_mono (h σ F H s) fun v H' ⟨F', M', r, w, ⟨q0, rs, e1, hq, q⟩, m, g⟩ => by
    subst e1
    have e2 := rr_v.mp w
    subst e2
    obtain ⟨xs, a, b⟩ := (m.mem _ _ hq).2
    refine ⟨q0, xs, rfl, SqL.of a, F', M', _, _, ⟨fun M F H e k mm => ?_, fun i r M F H hi e k mm => ?_⟩, q, hq, m, g⟩
    · obtain ⟨ys, a, b⟩ := (mm.mem _ _ k).2
      exact ⟨ys, SqL.of a, by rw [b.length]; simp⟩
    · obtain ⟨ys, a, b⟩ := (mm.mem _ _ k).2
      rw [List.getElem?_map] at hi
      by_cases hl : i < rs.length
      · rw [List.getElem?_range hl] at hi
        obtain rfl := Option.some.inj hi
        obtain ⟨y, c1, c2⟩ := rrs_get b (show rs[i]? = some rs[i] by simp [hl])
        refine ⟨⟨ys, y, SqL.of a, c1⟩, fun x H' ⟨t, z, e1, nt, e2, hz⟩ => ?_⟩
        subst e1 e2
        obtain rfl : z = y := Option.some.inj ((hz ys (SqL.of a)).symm.trans c1)
        have k := mm.newF (o := .tup [.int (i : Nat), z]) nt
        refine ⟨_, rr_t.mpr ⟨t, _, rfl, upd_same, .cons rrI (.cons ?_ .nil)⟩, k.1, k.2⟩
        have e3 : rs.getD i R.no = rs[i] := by rw [List.getD_eq_getElem?_getD, show rs[i]? = some rs[i] by simp [hl]]; rfl
        show Rr X.K _ z (rs.getD i .no)
        rw [e3]
        exact c2.up k.2.ex
      · rw [List.getElem?_eq_none (by simpa using hl)] at hi; cases hi
/-- elements of any kind: the result is a cell -/
abbrev LcG {γ : Type} (X : Cx) (tg iter elt : Expr) (scope : Scope) (g : TG) (vs : List Nat) (ds : List R) (M : Mem) (xs : List γ) (φ f : γ → R) (Q : List R → Mem → Prop) : Prop :=
  IX X tg iter ds M fun rs keep M1 => rs = xs.map φ ∧ keep M1 ∧ xs.length ≤ sizeLine ∧ (∀ x ∈ xs, ∃ ds', TgS X.K g vs (φ x) (wipeR ds vs) ds' ∧ blkG X scope fun Y => DX Y elt ds' M1 (f x) M1) ∧ Q (xs.map f) M1
theorem lcG_core {γ : Type} {xs : List γ} {φ f : γ → R} {Q : List R → Mem → Prop} {Z : List R → Mem → Prop} {vs : List Nat} (hz : ∀ M, Q (xs.map f) M → Z (xs.map f) M) (h : LcG X tg iter elt scope g vs ds M xs φ f Q) :
    IX X tg iter ds M fun rs keep M1 => ∃ I : Nat → List R → Mem → Prop, I 0 [] M1 ∧ (∀ i acc M, I i acc M → keep M ∧ acc.length ≤ i) ∧ rs.length ≤ sizeLine ∧ LcI X scope g vs [] elt ds rs I ∧ ∀ acc M, I rs.length acc M → Z acc M := fun σ F H s => cI_mono (h σ F H s) fun J H1 ⟨F1, M1, rs, keep, wk, ⟨e, k, l, hb, q⟩, k1, m1, g1⟩ => by
  subst e
  refine ⟨F1, M1, _, keep, wk, ⟨fun i acc M' => acc = (xs.take i).map f ∧ M' = M1, ⟨rfl, rfl⟩, fun i acc M' ⟨e1, e2⟩ => ⟨by rw [e2]; exact k, by rw [e1]; simp; omega⟩, by rw [List.length_map]; exact l, fun i r acc M' hr ⟨e1, e2⟩ => ?_, fun acc M' ⟨e1, e2⟩ => ?_⟩, k1, m1, g1⟩
  · obtain ⟨x, hx, rfl⟩ := map_get hr
    obtain ⟨ds', t, b⟩ := hb x (List.mem_of_getElem? hx)
    refine ⟨ds', t, fun s H C cl fp => tsx_nil ?_⟩
    rw [if_pos rfl]
    intro s H C cl fp
    subst e1 e2
    exact b s H C cl fp _ ⟨by rw [take_succ' hx, List.map_append]; rfl, rfl⟩
  · subst e1 e2
    have e3 : xs.take ((xs.map φ).length) = xs := by rw [List.length_map]; exact List.take_length
    rw [e3]
    exact hz _ q
def NewC (rs : List R) (M : Mem) (Q : R → Mem → Prop) : Prop := ∃ A B, M = A ++ B ∧ ∀ q, Q (.v (.ref q)) (A ++ (q, .lst rs) :: B)
theorem ex_lcG {γ : Type} {xs : List γ} {φ f : γ → R} (hc : X.calm = true) (hN : X.N.Nodup) (ok : BlkOk X.N X.env.scope scope own) (hg : blkG X scope fun Y => PG Y tg g) (h : LcG X tg iter elt scope g (own.map (·.2)) ds M xs φ f fun ys M1 => NewC ys M1 Q)
    (hs : ∀ x, foldedSetIterable iter X.env x = pure x := by intro _; rfl) : EX X (.ListComp elt [⟨tg, iter, [], 0⟩] scope pos) ds M Q := ex_lc hc hN ok hg (lcG_core (Z := fun acc M => (∃ ys : List PyData, acc = ys.map R.d ∧ Q (.d (.list ys)) M) ∨ ∃ A B, M = A ++ B ∧ ∀ q, Q (.v (.ref q)) (A ++ (q, .lst acc) :: B)) (fun M q => .inr q) h) hs
theorem bx_setLcG (i : Nat) {γ : Type} {xs : List γ} {φ f : γ → R} (hc : X.calm = true) (hN : X.N.Nodup) (ok : BlkOk X.N X.env.scope scope own) (hg : blkG X scope fun Y => PG Y tg g) (h : LcG X tg iter elt scope g (own.map (·.2)) ds M xs φ f fun ys M1 => NewC ys M1 fun r M2 => BX X rest (ds.set i r) M2 D)
    (hy : X.N[i]? = some y := by rfl) (hyl : X.env.scope.names.lookup y = some .local := by rfl) (hsw : swapsWith (.ListComp elt [⟨tg, iter, [], 0⟩] scope pos) (some (.Name y py)) spos.line X.env = pure true := by exact sw_true rfl rfl rfl (by decide +kernel))
    (hs : ∀ x, foldedSetIterable iter X.env x = pure x := by intro _; rfl) : BX X (.Assign [.Name y py] (.ListComp elt [⟨tg, iter, [], 0⟩] scope pos) spos :: rest) ds M D := bx_setLc i hc hN ok hg (lcG_core (Z := fun acc M => (∃ ys : List PyData, acc = ys.map R.d ∧ BX X rest (ds.set i (.d (.list ys))) M D) ∨ ∃ A B, M = A ++ B ∧ ∀ q, BX X rest (ds.set i (.v (.ref q))) (A ++ (q, .lst acc) :: B) D) (fun M q => .inr q) h) hy hyl hsw hs
theorem rrs_rg {K : PySem.W.Frag} {F : Hp} : ∀ (l : List Nat), Rrs K F (l.map fun (i : Nat) => V.int (0 + (i : Int))) ((l.map fun (i : Nat) => td (i : Int)).map R.d)
  | [] => .nil
  | i :: l => .cons (by show Rr K F (V.int (0 + (i : Int))) (R.d (td (i : Int))); rw [Int.zero_add]; exact rrI) (rrs_rg l)
/-- list(range(n)) -/
theorem ex_listRg {p2 p3 : Pos} (hc : X.calm = true) (hm : X.mg "list" = none) (hm2 : X.mg "range" = none) (h : EX X e ds M fun r M1 => ∃ n : Nat, r = T (n : Int) ∧ n ≤ 16777216 ∧ Q (T ((List.range n).map fun (i : Nat) => (i : Int))) M1) (gl : Gl X "list" := by rfl) (gl2 : Gl X "range" := by rfl)
    (he : starEach [e] X.env = (false, eval e X.env) :: starEach [] X.env := by exact st_any rfl) (he2 : starEach [.Call (.Name "range" p2) [e] [] p3] X.env = (false, eval (.Call (.Name "range" p2) [e] [] p3) X.env) :: starEach [] X.env := by exact st_any rfl) : EX X (.Call (.Name "list" p) [.Call (.Name "range" p2) [e] [] p3] [] pos) ds M Q :=
  ex_pe (pe_listRg hc gl hm (prg_1 gl2 hm2 (peC e) he) he2) fun σ F H s => cE_mono (h σ F H s) fun v H' ⟨F', M', r, w, ⟨n, e, hn, q⟩, m, g⟩ => by
    subst e
    refine ⟨n, rr_int w, RgOk.of_le (Int.le_refl 0) (by omega) (by decide) (by omega), fun q' nq => Out.trans g (newL (ys := (List.range n).map fun (i : Nat) => td (i : Int)) m ?_ nq ?_)⟩
    · unfold rgV
      rw [Int.sub_zero, Int.toNat_natCast]
      exact rrs_rg _
    · have e : (T ((List.range n).map fun (i : Nat) => (i : Int))) = R.d (.list ((List.range n).map fun (i : Nat) => td (i : Int))) := by
        show R.d (.list _) = _
        rw [List.map_map]; rfl
      rw [← e]; exact q
theorem dx_listRg {p2 p3 : Pos} {n : Nat} {M1 : Mem} (hc : X.calm = true) (hm : X.mg "list" = none) (hm2 : X.mg "range" = none) (h : DX X e ds M (T (n : Int)) M1) (hn : n ≤ 16777216) (gl : Gl X "list" := by rfl) (gl2 : Gl X "range" := by rfl)
    (he : starEach [e] X.env = (false, eval e X.env) :: starEach [] X.env := by exact st_any rfl) (he2 : starEach [.Call (.Name "range" p2) [e] [] p3] X.env = (false, eval (.Call (.Name "range" p2) [e] [] p3) X.env) :: starEach [] X.env := by exact st_any rfl) : DX X (.Call (.Name "list" p) [.Call (.Name "range" p2) [e] [] p3] [] pos) ds M (T ((List.range n).map fun (i : Nat) => (i : Int))) M1 :=
  fun Q q => ex_listRg hc hm hm2 (h _ ⟨n, rfl, hn, q⟩) gl gl2 he he2
/-- a == b of ints -/
theorem tx_eqI {a b : Expr} {k : Nat} {QB : Bool → Mem → Prop} (hr : Room k X.A) (h : EX X a ds M fun r1 M1 => ∃ i : Int, r1 = T i ∧ EX X b ds M1 fun r2 M2 => ∃ j : Int, r2 = T j ∧ QB (decide (i = j)) M2) : TX X (.Compare a [.Eq] [b] pos) ds M QB :=
  tx_cmp (op_eqD hr.units) mo_eqD (nobehind _ (by decide) (by decide)) (h.mono fun r1 M1 ⟨i, e1, h⟩ => h.mono fun r2 M2 ⟨j, e2, q⟩ => by
    subst e1 e2
    exact ow_eq (.d _) (.d _) (shaped_T i (by decide)) (shaped_T j (by decide)) ⟨_, rfl, by rw [TQ.eqv]; exact q⟩)
theorem tx_neI {a b : Expr} {k : Nat} {QB : Bool → Mem → Prop} (hr : Room k X.A) (h : EX X a ds M fun r1 M1 => ∃ i : Int, r1 = T i ∧ EX X b ds M1 fun r2 M2 => ∃ j : Int, r2 = T j ∧ QB (!decide (i = j)) M2) : TX X (.Compare a [.NotEq] [b] pos) ds M QB :=
  tx_cmp (op_neD hr.units) mo_neD (nobehind _ (by decide) (by decide)) (h.mono fun r1 M1 ⟨i, e1, h⟩ => h.mono fun r2 M2 ⟨j, e2, q⟩ => by
    subst e1 e2
    exact ow_ne (.d _) (.d _) (shaped_T i (by decide)) (shaped_T j (by decide)) ⟨_, rfl, by rw [TQ.eqv]; exact q⟩)
end
end Hq
/-! Lr: unpacking with a star; wide powers; count, min, max of a list; chains; unpacking of lists. -/
namespace Hq
open PySem PySem.Spec PyProof.Rows L2
theorem go {X : Cx} {e : Expr} {ds : List R} {M M1 : Mem} {r : R} {Q : R → Mem → Prop} (h : DX X e ds M r M1) (q : Q r M1) : EX X e ds M Q := h Q q
/-! ### a, *b = a tuple -/
section
variable {prog : Program} {w : World} {A : Around} {E : Value → Shared → Prop} {s : Shared}
theorem walks_from1 {it t : Addr} (hh : A.handled = none) (hne : t ≠ it) (items : Array Value) {n : Nat} (hn : items.size = n + 1) :
    Walks prog w A it [it, t] [it] n (fun i v => items[i + 1]? = some v) (fun i h => h.IsTupleIter it t (i + 1) ∧ h.IsTuple t items) := by
  have W := Walks.tuple (prog := prog) (w := w) hh it t hne items
  rw [hn] at W
  exact ⟨W.sub, fun i => W.frame (i + 1), fun i s Q E hi st hQ => W.item (i + 1) s Q E (by omega) st hQ, W.done, fun i => W.self (i + 1)⟩
theorem star_items {t : Addr} {items : Array Value} {n : Nat} {x : Value} {Q : List Value → Shared → Prop} (hh : A.handled = none) (ht : IsTup s.heap t items) (hn : items.size = n + 1) (hx : items[0]? = some x) (hz : n ≤ sizeLine)
    (hQ : ∀ (h' : Heap) (tk : Nat), (∀ b o, s.heap.get? b = some o → h'.get? b = some o) → Q [x, .ref h'.objs.size] { s with heap := h'.push { cls := .type "list", data := .seq (items.toList.drop 1).toArray }, toks := tk }) : wpAny (model prog w) A (unpackItems (.ref t) 2 (some 1)) Q E s := by
  have hlt : t ≠ s.heap.objs.size := by obtain ⟨o, ho, _⟩ := ht; exact Nat.ne_of_lt (Heap.lt_size ho)
  unfold unpackItems
  refine wpAny_bind ?_
  unfold notIterableAtAll
  refine wpAny_bind (wpAny_specialOf ht.typeIs slot_tuple_iter.lookup ?_)
  refine wpAny_pure ?_
  rw [if_neg (by decide)]
  refine wpAny_bind (wpAny_holding (iter_tuple ht ?_))
  refine wpAny_bind (wpAny_holding (draw_tuple hlt 1 0 _ _ ⟨_, Heap.get?_push_size _ rfl, rfl, rfl⟩ (ht.push _) (by omega) fun h1 hit1 same1 => ?_))
  have e1 : List.take 1 (List.drop 0 items.toList) = [x] := by
    rw [List.drop_zero]
    cases hi : items.toList with
    | nil => rw [← Array.length_toList, hi] at hn; cases hn
    | cons y ys =>
      rw [← Array.getElem?_toList, hi] at hx
      cases hx; rfl
  rw [e1, if_neg (show ¬ [x].length < 1 by simp)]
  have ht1 : IsTup h1 t items := (ht.push _).extBut same1.extBut hlt
  have keep1 : ∀ b o, s.heap.get? b = some o → h1.get? b = some o := fun b o e => same1.extBut b o (Nat.ne_of_lt (Heap.lt_size e)) (Heap.get?_push_of_some _ e)
  obtain ⟨o1, ho1, _⟩ := id hit1
  obtain ⟨o2, ho2, _⟩ := id ht1
  refine wpAny_bind (wpAny_holding (wpAny_collect_iter (s := { s with heap := h1 }) (T := "tuple_iterator") (.inr (.inr (.inr rfl))) (walks_from1 (A := A.in1) hh hlt items hn).toS (fun i s st => by obtain ⟨⟨o, a, b, _⟩, _⟩ := st; exact ⟨o, a, b⟩) ⟨hit1, ht1⟩
    (fun b hb => by
      rcases List.mem_cons.mp hb with e | hb
      · subst e; exact Heap.lt_size ho1
      · rw [List.mem_singleton.mp hb]; exact Heap.lt_size ho2) List.mem_cons_self (fun s2 acc mv it => ?_) hz))
  have ea : acc.toList = items.toList.drop 1 := by
    refine List.ext_getElem? fun i => ?_
    rw [List.getElem?_drop, Array.getElem?_toList, Array.getElem?_toList]
    by_cases hi : i < acc.size
    · rw [Nat.add_comm 1 i, it.2 i acc[i] (by simp [hi])]
      simp [hi]
    · have hs := it.1
      rw [Array.getElem?_eq_none (by omega), Array.getElem?_eq_none (by omega)]
  have el : ¬ acc.toList.length < 2 - 1 - 1 := by omega
  show wpAny _ _ (if acc.toList.length < 2 - 1 - 1 then _ else _) _ _ _
  rw [if_neg el]
  have e2 : acc.toList.take (acc.toList.length - (2 - 1 - 1)) = items.toList.drop 1 := by rw [show (2 - 1 - 1 : Nat) = 0 from rfl, Nat.sub_zero, List.take_length, ea]
  have e3 : acc.toList.drop (acc.toList.length - (2 - 1 - 1)) = [] := by rw [show (2 - 1 - 1 : Nat) = 0 from rfl, Nat.sub_zero, List.drop_length]
  show wpAny _ _ (newList (acc.toList.take (acc.toList.length - (2 - 1 - 1))) >>= fun l => pure ([x] ++ [l] ++ acc.toList.drop (acc.toList.length - (2 - 1 - 1)))) _ _ _
  rw [e2, e3]
  refine wpAny_bind (wpAny_newObj_type ?_ ?_)
  · refine wpAny_pure ?_
    obtain ⟨g1, g2, g3, g4, g5⟩ := s2
    obtain ⟨m1, m2, m3, m4, m5⟩ := mv
    simp only at m1 m2 m3 m4 m5
    subst m2 m3 m4
    exact hQ g1 _ fun b o e => m1 b o (by rw [List.mem_singleton]; exact Nat.ne_of_lt (Heap.lt_size e)) (keep1 b o e)
  · show (items.toList.drop 1).toArray.size ≤ sizeLine
    rw [List.size_toArray, List.length_drop, Array.length_toList, hn]
    exact hz
end
section
variable {X : Cx} {pos : Pos} {es : List Expr} {ds : List R} {M : Mem} {r r1 : R}
def gStar (K : PySem.W.Frag) (t : TGs) : TG := fun v σ H Q => ∃ a x xs, v = .ref a ∧ SqT K H a (x :: xs) ∧ ∀ p, H p = none → t [x, .ref p] σ (upd H p (.lst xs)) Q
theorem pg_star {k : Nat} {t : TGs} (hc : X.calm = true) (h : PGs X es t) (hn : (assignEach es X.env).length = 2) (hst : (assignEach es X.env).findIdx? (·.1) = some 1) : PG X (.Tuple es k pos) (gStar X.K t) := by
  refine ⟨fun pins s σ H v u Q I r hw => ?_⟩
  obtain ⟨a, x, xs, e1, hq, hw⟩ := hw
  subst e1
  cases r
  obtain ⟨its, rv, ht, hz⟩ := I.tuple hq
  cases rv with
  | @cons _ u0 _ us r0 rr =>
    rw [PyProof.Rows.assign_Tuple]
    refine wpAny_bind (wpAny_standAt ?_)
    unfold unpack
    rw [hn, hst]
    have hl := rr.length
    refine wpAny_bind (wpAny_holding (star_items (I.ok.hd hc) ht (n := us.length) (by simp) rfl (by rw [List.length_cons] at hz; omega) fun h' tk hx => ?_))
    have I1 : Inv X pins σ H { s with heap := h', toks := tk } := I.kept hx
    have I2 : Inv X pins σ (upd H h'.objs.size (.lst xs)) { s with heap := h'.push { cls := .type "list", data := .seq us.toArray }, toks := tk } :=
      I1.laid (fun b o e => Heap.get?_push_of_some _ e) (Nat.le_refl _) ⟨by rw [List.length_cons] at hz; omega, us, 0, rr, Heap.get?_push_size _ rfl⟩
    exact h.run pins _ σ _ [x, .ref h'.objs.size] _ Q I2 (.cons r0 (.cons rfl .nil)) (hw _ (I1.hok.fresh (Nat.le_refl _)))
theorem gsx_starred {tg : Expr} {ts : List Expr} {p : Pos} {rs : List R} {Q : List R → Mem → Prop} (h : GsX X (tg :: ts) rs ds M Q) (e : (assignEach (.Starred tg p :: ts) X.env).map (·.2) = (assignEach (tg :: ts) X.env).map (·.2) := by rfl) : GsX X (.Starred tg p :: ts) rs ds M Q := fun σ F H vs s w pins sh us I r => by
  rw [e]; exact h σ F H vs s w pins sh us I r
theorem gx_star {k : Nat} {Q : List R → Mem → Prop} {ys : List PyData} (hc : X.calm = true) (ht : IsT M r (r1 :: ys.map R.d)) (h : GsX X es [r1, .d (.list ys)] ds M Q) (hn : (assignEach es X.env).length = 2 := by rfl) (hst : (assignEach es X.env).findIdx? (·.1) = some 1 := by rfl) : GX X (.Tuple es k pos) r ds M Q :=
  gx_pg (pg_star hc (pgsC es) hn hst) fun σ F H v s w => by
    obtain ⟨p, xs, e, a, b⟩ := ht.get s.ms w
    cases b with
    | @cons x _ xs _ b1 b2 =>
      refine ⟨p, x, xs, e, SqT.of a, fun q nq => ?_⟩
      have kk := s.ms.newF (o := .lst xs) nq
      intro pins sh us I rr
      refine thn (h σ _ _ [x, .ref q] ⟨s.sl.up kk.2.ex, kk.1⟩ (.cons (b1.up kk.2.ex) (.cons (rr_d.mpr (.lst upd_same (rrs_dqs (Rrs.up kk.2.ex b2)))) .nil)) pins sh us I rr) fun _ _ ⟨σ2, H2, I2, F2, M2, ds2, a2, b2, c2, g2⟩ => ⟨σ2, H2, I2, F2, M2, ds2, a2, b2, c2, kk.2.trans g2⟩
/-- (a, b, ..) = a list -/
theorem gx_unl {k : Nat} {rs : List R} {Q : List R → Mem → Prop} (hc : X.calm = true) (ht : IsL M r rs) (h : GsX X es rs ds M Q) (hn : (assignEach es X.env).length = rs.length := by rfl) (hst : (assignEach es X.env).findIdx? (·.1) = none := by rfl) : GX X (.Tuple es k pos) r ds M Q :=
  gx_pg (pg_unl hc (pgsC es) rfl hst) fun σ F H v s w => by
    obtain ⟨p, xs, e, a, b⟩ := ht.get s.ms w
    exact ⟨p, xs, e, a, by rw [b.length, hn], h σ F H xs s b⟩
end
/-! ### powers of wide ints -/
def CPowW (i j : Int) : Prop := 0 ≤ j ∧ (Builtin.Int.intBits i : Int) * j ≤ 2 ^ 27
section
variable {X : Cx} {a b c e : Expr} {ds : List R} {M M1 M2 M3 : Mem} {pos p : Pos} {i j k : Int} {Q : R → Mem → Prop}
theorem op_powW : OpR X (binaryOp .Pow) (rI CPowW fun i j => .int (i ^ j.toNat)) := opI fun _ _ _ _ _ _ _ hc q => pow_int hc.1 hc.2 q
theorem dx_powW (hc : CPowW i j) (ha : DX X a ds M (T i) M1) (hb : DX X b ds M1 (T j) M2) : DX X (.BinOp a .Pow b pos) ds M (T (i ^ j.toNat)) M2 := dx_op op_powW mo_I ha hb fun Q q => ow_I hc (fun _ => rrI) q
/-- a <= b < c -/
theorem dx_leLt (ha : DX X a ds M (T i) M1) (hb : DX X b ds M1 (T j) M2) (hc : DX X c ds M2 (T k) M2) (hm : lastMarks [CmpOp.LtE, .Lt] [b, c] = false := by with_unfolding_all rfl) : DX X (.Compare a [.LtE, .Lt] [b, c] pos) ds M (T (decide (i ≤ j) && decide (j < k))) M2 := fun Q q =>
  ex_pe (pe_chain op_le op_lt (peC a) (peC b) (peC c) hm) fun σ F H s => cE_mono (ha (fun r M' => r = T i ∧ M' = M1) ⟨rfl, rfl⟩ σ F H s) fun x H1 ⟨F1, M1', r1, w1, ⟨e1, e2⟩, m1, g1⟩ => by
    subst e1 e2
    refine cE_mono (hb (fun r M' => r = T j ∧ M' = M2) ⟨rfl, rfl⟩ σ F1 H1 (s.go g1 m1)) fun y H2 ⟨F2, M2', r2, w2, ⟨e1, e2⟩, m2, g2⟩ => ?_
    subst e1 e2
    refine ⟨i, j, rr_int w1, rr_int w2, decide (i ≤ j), rfl, ?_⟩
    by_cases h : i ≤ j
    · rw [decide_eq_true h, if_pos rfl]
      refine cE_mono (hc (fun r M' => r = T k ∧ M' = M2') ⟨rfl, rfl⟩ σ F2 H2 ((s.go g1 m1).go g2 m2)) fun z H3 ⟨F3, M3', r3, w3, ⟨e1, e2⟩, m3, g3⟩ => ?_
      subst e1 e2
      refine ⟨j, k, rr_int w2, rr_int w3, F3, M3', _, rrB, ?_, m3, (g1.trans g2).trans g3⟩
      rw [decide_eq_true h, Bool.true_and] at q
      exact q
    · rw [decide_eq_false h, if_neg Bool.false_ne_true]
      rw [decide_eq_false h, Bool.false_and] at q
      exact ⟨F2, M2', _, rrB, q, m2, g1.trans g2⟩
/-! ### min, max of a list of ints -/
theorem ex_minL (hc : X.calm = true) (hm : X.mg "min" = none) (h : EX X e ds M fun r M1 => ∃ ns : List Int, IsL M1 r (ns.map T) ∧ 0 < ns.length ∧ ∀ m, m ∈ ns → (∀ y, y ∈ ns → m ≤ y) → Q (T m) M1) (hg : Gl X "min" := by rfl) (he : starEach [e] X.env = (false, eval e X.env) :: starEach [] X.env := by exact st_any rfl) : EX X (.Call (.Name "min" p) [e] [] pos) ds M Q :=
  ex_callB (cr_min hc) (fun x H Q Q' m ⟨p, ys, a, b, c, q⟩ => ⟨p, ys, a, b, c, fun z h1 h2 => m _ _ (q z h1 h2)⟩) hm (by decide +kernel) (ax_cons (h.mono fun r M1 ⟨ns, h1, h2, q⟩ => ax_nil fun F H vs m w => by
    obtain ⟨v, ev, w1⟩ := rrs1 w
    subst ev
    obtain ⟨p, xs, rfl, a, b⟩ := h1.get m w1
    have e := rrs_ints b
    subst e
    exact ⟨p, ns, rfl, a, h2, fun z h1 h2 => Out.mk0 m rrI (q z h1 h2)⟩) he) hg (he := he)
theorem ex_maxL (hc : X.calm = true) (hm : X.mg "max" = none) (h : EX X e ds M fun r M1 => ∃ ns : List Int, IsL M1 r (ns.map T) ∧ 0 < ns.length ∧ ∀ m, m ∈ ns → (∀ y, y ∈ ns → y ≤ m) → Q (T m) M1) (hg : Gl X "max" := by rfl) (he : starEach [e] X.env = (false, eval e X.env) :: starEach [] X.env := by exact st_any rfl) : EX X (.Call (.Name "max" p) [e] [] pos) ds M Q :=
  ex_callB (cr_max hc) (fun x H Q Q' m ⟨p, ys, a, b, c, q⟩ => ⟨p, ys, a, b, c, fun z h1 h2 => m _ _ (q z h1 h2)⟩) hm (by decide +kernel) (ax_cons (h.mono fun r M1 ⟨ns, h1, h2, q⟩ => ax_nil fun F H vs m w => by
    obtain ⟨v, ev, w1⟩ := rrs1 w
    subst ev
    obtain ⟨p, xs, rfl, a, b⟩ := h1.get m w1
    have e := rrs_ints b
    subst e
    exact ⟨p, ns, rfl, a, h2, fun z h1 h2 => Out.mk0 m rrI (q z h1 h2)⟩) he) hg (he := he)
/-! ### words.count(word) -/
def rCntS (K : PySem.W.Frag) : V → List V → Hp → VK → Prop := fun x xs H Q => ∃ (p : Addr) (ns : List Str) (k : Str), x = .ref p ∧ xs = [.str k] ∧ SqL K H p (ns.map V.str) ∧ Q (.int (ns.count k : Nat)) H
theorem cnt_strs {k : Str} : ∀ {ns : List Str} {us : List Value}, Vals (ns.map V.str) us → us.countP (eqU (.str k)) = ns.count k
  | [], _, h => by cases h; rfl
  | n :: ns, _, h => by
    cases h with
    | cons r t =>
      obtain ⟨tk, rfl⟩ := r
      have ih := cnt_strs (k := k) t
      rw [List.countP_cons, List.count_cons, ih]
      rfl
theorem mt_cntS : MtR X "list.count" (rCntS X.K) := by
  intro pins s σ H x xs v us Q I rx rxs h
  obtain ⟨p, ns, k, rfl, rfl, hs, q⟩ := h
  cases rx
  obtain ⟨u, rfl, ru⟩ := rxs.one
  obtain ⟨t, rfl⟩ := ru
  obtain ⟨its, rv, ⟨⟨cls, dd, data, sl⟩, n, ho, hc, hdn, hd⟩, hlen⟩ := I.list hs
  simp only at hc hd
  subst hc hd
  have hfl : (ns.map V.str).all flatV = true := by
    rw [List.all_map]
    exact List.all_eq_true.mpr fun _ _ => rfl
  refine call_meets PySem.F.slot_list_count ⟨_, ho, rfl⟩ PySem.F.entry_list_count (PySem.F.args_list_count_2 _ _)
    (SeqAt.list_countAt p its.toArray n dd sl (.str k t) (eqU (.str k))) ⟨ho, fun y hy => mem_eqAt (x := .str k) ⟨t, rfl⟩ rfl rv hfl y (by simpa using hy), ⟨.int (ns.count k : Nat), H, I.tok _, ⟨s.toks, ?_⟩, q⟩⟩
  show Value.int ((its.toArray.toList.countP (eqU (.str k)) : Nat) : Int) s.toks = Value.int ((ns.count k : Nat) : Int) s.toks
  rw [show its.toArray.toList = its from rfl, cnt_strs rv]
theorem ex_countS {o : Expr} {apos : Pos} (h : EX X o ds M fun r1 M1 => ∃ ns : List Str, IsL M1 r1 (ns.map T) ∧ EX X e ds M1 fun r2 M2 => ∃ k : Str, r2 = T k ∧ M2 = M1 ∧ Q (T (ns.count k : Int)) M2)
    (hb : ∀ {to : TE} {t : TA} {r}, MtR X "list.count" r → PE X o to → PA X [e] t → PE X (.Call (.Attribute o "count" apos) [e] [] pos) (tBM X.K "list" r to t) := by intro _ _ _ h1 h2 h3; exact pe_bm PySem.F.plainAttrs_list PySem.F.slot_list_count PySem.F.type_list_count h1 h2 h3)
    (he : starEach [e] X.env = (false, eval e X.env) :: starEach [] X.env := by exact st_any rfl) : EX X (.Call (.Attribute o "count" apos) [e] [] pos) ds M Q :=
  ex_pe (hb mt_cntS (peC o) (pa_cons (peC e) pa_nil he)) fun σ F H s => cE_mono (h σ F H s) fun x H1 ⟨F1, M1, r1, w1, ⟨ns, hl, h1⟩, m1, g1⟩ => by
    obtain ⟨p, xs, rfl, a, b⟩ := hl.get m1 w1
    have e := rrs_strs b
    subst e
    refine ⟨.inl ⟨rfl, _, a⟩, cE_mono (h1 σ F1 H1 (s.go g1 m1)) fun yv H2 ⟨F2, M2, y, w2, ⟨k, e2, e3, qq⟩, m2, g2⟩ => ?_⟩
    subst e2 e3
    obtain ⟨p', xs', e4, a', b'⟩ := hl.get m2 (w1.up g2.ex)
    cases e4
    have w2 := rr_d.mp w2
    cases w2
    have e := rrs_strs b'
    subst e
    exact ⟨p, ns, k, rfl, rfl, a', F2, _, _, rrI, qq, m2, g1.trans g2⟩
end
/-- for, what is walked known inside -/
theorem bx_forE {X : Cx} {tg iter : Expr} {body rest : List Stmt} {ds : List R} {M : Mem} {D : Po} {pos : Pos} {γ S : Type} (φ : γ → R) (st : S → List R) (J : Nat → S → Mem → Prop) (hc : X.calm = true) (hp : PassesOwn (model X.prog X.w) X.A X.env X.xe) (h : IX X tg iter ds M fun rs keep M1 => ∃ xs : List γ, rs = xs.map φ ∧ (∀ i s M, J i s M → keep M) ∧ (∃ s, Wk ds (st s) ∧ J 0 s M1) ∧
    (∀ i x s M, xs[i]? = some x → J i s M → GX X tg (φ x) (st s) M fun ds' M' => BX X body ds' M' { D with nx := fun ds M => ∃ s, Wk ds (st s) ∧ J (i + 1) s M, ct := fun ds M => ∃ s, Wk ds (st s) ∧ J (i + 1) s M, bk := fun ds M => BX X rest ds M D }) ∧
    ∀ s M, J xs.length s M → BX X rest (st s) M D) (hs : ∀ x, foldedSetIterable iter X.env x = pure x := by intro _; rfl) : BX X (.For tg iter body [] pos :: rest) ds M D :=
  bx_for hc hp (fun σ F H s => cI_mono (h σ F H s) fun J' H1 ⟨F1, M1, rs, keep, wk, ⟨xs, e, hk, ⟨s0, w0, j0⟩, hb, hd⟩, k1, m1, g1⟩ => by
    subst e
    refine ⟨F1, M1, _, keep, wk, ⟨fun i ds M => ∃ s, Wk ds (st s) ∧ J i s M, ⟨s0, w0, j0⟩, fun i ds M ⟨s, _, j⟩ => hk _ _ _ j, fun i r ds M hr ⟨s, w, j⟩ => ?_, fun ds M ⟨s, w, j⟩ => bx_weak w (hd s M (by rw [List.length_map] at j; exact j))⟩, k1, m1, g1⟩
    obtain ⟨x, hx, rfl⟩ := map_get hr
    intro σ F H v ss wv
    exact hb i x s M hx j σ F H v ⟨ss.sl.weak w, ss.ms⟩ wv) hs
section
variable {X : Cx} {a e : Expr} {ds : List R} {M M1 : Mem} {pos p : Pos}
theorem dt_isN {j pos'} {x : PyData} (h : DX X a ds M (.d x) M1) : DT X (.Compare a [.Is] [.Constant .none j pos'] pos) ds M (isNo x) M1 := fun Q q => tx_pt (pt_cmp (pc_isN (peC a))) fun σ F H s =>
  cE_mono (h (fun r M' => r = .d x ∧ M' = M1) ⟨rfl, rfl⟩ σ F H s) fun v H' ⟨F', M', r, w, ⟨e1, e2⟩, m, g⟩ => by subst e1 e2; exact ⟨isNo x, by rw [dq_non (rr_d.mp w)], F', M', q, m, g⟩
theorem dt_notN {j pos'} {x : PyData} (h : DX X a ds M (.d x) M1) : DT X (.Compare a [.IsNot] [.Constant .none j pos'] pos) ds M (!isNo x) M1 := fun Q q => tx_pt (pt_cmp (pc_notN (peC a))) fun σ F H s =>
  cE_mono (h (fun r M' => r = .d x ∧ M' = M1) ⟨rfl, rfl⟩ σ F H s) fun v H' ⟨F', M', r, w, ⟨e1, e2⟩, m, g⟩ => by subst e1 e2; exact ⟨!isNo x, by rw [dq_non (rr_d.mp w)], F', M', q, m, g⟩
theorem dx_cast {α : Type} [TD α] {i j : α} (e' : i = j) (h : DX X e ds M (T i) M1) : DX X e ds M (T j) M1 := e' ▸ h
theorem dx_minL {ns : List Int} (m : Int) (hc : X.calm = true) (hm : X.mg "min" = none) (h : DX X e ds M (T ns) M1) (h1 : m ∈ ns) (h2 : ∀ y ∈ ns, m ≤ y) (hg : Gl X "min" := by rfl) (he : starEach [e] X.env = (false, eval e X.env) :: starEach [] X.env := by exact st_any rfl) : DX X (.Call (.Name "min" p) [e] [] pos) ds M (T m) M1 :=
  fun Q q => ex_minL hc hm (h _ ⟨ns, isL_T ns, List.length_pos_of_mem h1, fun z z1 z2 => by rw [show z = m from Int.le_antisymm (z2 m h1) (h2 z z1)]; exact q⟩) hg he
theorem dx_maxL {ns : List Int} (m : Int) (hc : X.calm = true) (hm : X.mg "max" = none) (h : DX X e ds M (T ns) M1) (h1 : m ∈ ns) (h2 : ∀ y ∈ ns, y ≤ m) (hg : Gl X "max" := by rfl) (he : starEach [e] X.env = (false, eval e X.env) :: starEach [] X.env := by exact st_any rfl) : DX X (.Call (.Name "max" p) [e] [] pos) ds M (T m) M1 :=
  fun Q q => ex_maxL hc hm (h _ ⟨ns, isL_T ns, List.length_pos_of_mem h1, fun z z1 z2 => by rw [show z = m from Int.le_antisymm (h2 z z1) (z2 m h1)]; exact q⟩) hg he
theorem dt_eqNil {k : Nat} {p2 : Pos} {r1 : R} {xs : List PyData} (hr : Room k X.A) (ha : DX X a ds M r1 M1) (h : IsD M1 r1 (.list xs)) (hs : SeqAt.shaped (.list xs) = true) : DT X (.Compare a [.Eq] [.List [] p2] pos) ds M xs.isEmpty M1 := fun QB q =>
  tx_cmp (op_eqD hr.units) mo_eqD (nobehind _ (by decide) (by decide)) (ha _ ((dx_lst da_nil) _ (ow_eq h (.d (.list [])) hs rfl ⟨_, rfl, by rw [show PyData.eqv (.list xs) (.list []) = xs.isEmpty by cases xs <;> rfl]; exact q⟩)))
end
theorem cut_to {α : Type} (xs : List α) (n : Nat) : cut xs none (some (n : Int)) = xs.take n := by
  unfold cut
  rw [HT.sIx_none, show HT.sIx xs.length xs.length (some (n : Int)) = min n xs.length from HT.sIx_nat xs.length xs.length n]
  simp only [List.drop_zero, Nat.sub_zero]
  by_cases h : n ≤ xs.length
  · rw [Nat.min_eq_left h]
  · rw [Nat.min_eq_right (by omega), List.take_of_length_le (by omega : xs.length ≤ n), List.take_of_length_le (Nat.le_refl _)]
theorem cut_from {α : Type} (xs : List α) (n : Nat) : cut xs (some (n : Int)) none = xs.drop n := by
  unfold cut
  rw [HT.sIx_none, show HT.sIx xs.length 0 (some (n : Int)) = min n xs.length from HT.sIx_nat xs.length 0 n]
  by_cases h : n ≤ xs.length
  · rw [Nat.min_eq_left h]
    exact List.take_of_length_le (by rw [List.length_drop]; exact Nat.le_refl _)
  · rw [Nat.min_eq_right (by omega), List.drop_of_length_le (Nat.le_refl _), List.drop_of_length_le (by omega), List.take_nil]
theorem cut_mem {α : Type} {xs : List α} {lo hi : Option Int} {x : α} (h : x ∈ cut xs lo hi) : x ∈ xs := List.mem_of_mem_drop (List.mem_of_mem_take h)
theorem cut_len {α : Type} {xs : List α} {lo hi : Option Int} : (cut xs lo hi).length ≤ xs.length := by
  unfold cut
  rw [List.length_take, List.length_drop]
  omega
end Hq
/-! Vc1: numbered cells: values and heaps without addresses, and what they stand for. -/
namespace Vq
open PySem PySem.Spec PyProof.Rows L2 Hq
inductive U where
  | no
  | d (x : PyData)
  | c (n : Nat)
  | ci (n i : Nat)
  | t (us : List U)
  | s (ns : List Int)
abbrev Ar := Addr × List Addr
def ad (ρ : List Ar) (n : Nat) : R := match ρ[n]? with
  | some a => .v (.ref a.1)
  | none => .no
def adi (ρ : List Ar) (n i : Nat) : R := match ρ[n]? with
  | some a => (match a.2[i]? with
    | some q => .v (.ref q)
    | none => .no)
  | none => .no
mutual
def toR (ρ : List Ar) : U → R
  | .no => .no
  | .d x => .d x
  | .c n => ad ρ n
  | .ci n i => adi ρ n i
  | .t us => .t (toRs ρ us)
  | .s ns => .s ns
def toRs (ρ : List Ar) : List U → List R
  | [] => []
  | u :: us => toR ρ u :: toRs ρ us
end
theorem toRs_map (ρ : List Ar) : ∀ us : List U, toRs ρ us = us.map (toR ρ)
  | [] => by simp [toRs]
  | u :: us => by simp [toRs, toRs_map ρ us]
theorem toRs_len (ρ : List Ar) (us : List U) : (toRs ρ us).length = us.length := by rw [toRs_map, List.length_map]
theorem toRs_set (ρ : List Ar) (us : List U) (i : Nat) (u : U) : toRs ρ (us.set i u) = (toRs ρ us).set i (toR ρ u) := by rw [toRs_map, toRs_map, List.map_set]
theorem toRs_get {ρ : List Ar} {us : List U} {i : Nat} {u : U} (h : us[i]? = some u) : (toRs ρ us)[i]? = some (toR ρ u) := by rw [toRs_map, List.getElem?_map, h]; rfl
theorem toRs_app (ρ : List Ar) (us vs : List U) : toRs ρ (us ++ vs) = toRs ρ us ++ toRs ρ vs := by simp [toRs_map]
theorem toRs_d (ρ : List Ar) (xs : List PyData) : toRs ρ (xs.map U.d) = xs.map R.d := by
  rw [toRs_map, List.map_map]
  refine List.map_congr_left fun x _ => ?_
  simp [toR]
theorem toR_d (ρ : List Ar) (x : PyData) : toR ρ (.d x) = .d x := by unfold toR; rfl
theorem toR_s (ρ : List Ar) (x : List Int) : toR ρ (.s x) = .s x := by unfold toR; rfl
theorem toR_t (ρ : List Ar) (us : List U) : toR ρ (.t us) = .t (toRs ρ us) := by rw [toR]
theorem toR_c (ρ : List Ar) (n : Nat) : toR ρ (.c n) = ad ρ n := by rw [toR]
theorem toR_ci (ρ : List Ar) (n i : Nat) : toR ρ (.ci n i) = adi ρ n i := by rw [toR]
theorem toR_no (ρ : List Ar) : toR ρ .no = .no := by rw [toR]
theorem toR_nn {ρ : List Ar} {u : U} (h : u ≠ .no) (h2 : ∀ n, u = .c n → ∃ a, ρ[n]? = some a) (h3 : ∀ n i, u = .ci n i → ∃ a q, ρ[n]? = some a ∧ a.2[i]? = some q) : toR ρ u ≠ .no := by
  cases u with
  | no => exact absurd rfl h
  | d x => rw [toR_d]; nofun
  | s x => rw [toR_s]; nofun
  | t us => rw [toR_t]; nofun
  | c n => obtain ⟨a, e⟩ := h2 n rfl; rw [toR_c]; unfold ad; rw [e]; nofun
  | ci n i => obtain ⟨a, q, e, e2⟩ := h3 n i rfl; rw [toR_ci]; unfold adi; rw [e]; simp only [e2]; nofun
inductive Ob where
  | dead
  | ld (xs : List PyData)
  | ls (us : List U)
  | ll (xss : List (List PyData))
  | ins (C : Addr) (nms : List Str) (us : List U)
  | dT (kvs : List (List Key × U))
  | dK (kvs : List (Key × U))
  /-- an exception of a class, held -/
  | ex (cls : Value)
abbrev Hq := List Ob
def exH (cls : Value) (a : Addr) : HO := .ext fun h => ∃ (oe : Obj) (vs : Array Value), h.get? a = some oe ∧ Zc cls none oe ∧ oe.data = .fields vs
def mem1 (ρ : List Ar) (a : Ar) : Ob → Mem
  | .dead => []
  | .ld xs => [(a.1, .lst (xs.map R.d))]
  | .ls us => [(a.1, .lst (us.map (toR ρ)))]
  | .ll xss => (a.1, .lst (a.2.map fun q => .v (.ref q))) :: (a.2.zip xss).map fun z => (z.1, .lst (z.2.map R.d))
  | .ins C nms us => [(a.1, .ins C (a.2.headD 0) (nms.zip (us.map (toR ρ))))]
  | .dT kvs => [(a.1, .dT (kvs.map fun z => (z.1, toR ρ z.2)))]
  | .dK kvs => [(a.1, .dK (kvs.map fun z => (z.1, toR ρ z.2)))]
  | .ex c => [(a.1, .raw (exH c a.1))]
def memZ (ρ : List Ar) (zs : List (Ar × Ob)) : Mem := zs.flatMap fun z => mem1 ρ z.1 z.2
def memOf (ρ : List Ar) (h : Hq) : Mem := memZ ρ (ρ.zip h)
/-- addresses known later, too -/
def Ext (ρ ρ' : List Ar) : Prop := ∀ (n : Nat) (a : Ar), ρ[n]? = some a → ∃ a' : Ar, ρ'[n]? = some a' ∧ a'.1 = a.1 ∧ a.2 <+: a'.2
theorem Ext.refl (ρ : List Ar) : Ext ρ ρ := fun _ a h => ⟨a, h, rfl, List.prefix_refl _⟩
theorem Ext.trans {ρ ρ' ρ'' : List Ar} (a : Ext ρ ρ') (b : Ext ρ' ρ'') : Ext ρ ρ'' := fun n x h => by
  obtain ⟨y, h1, h2, h3⟩ := a n x h
  obtain ⟨z, h4, h5, h6⟩ := b n y h1
  exact ⟨z, h4, h5.trans h2, h3.trans h6⟩
theorem Ext.app (ρ t : List Ar) : Ext ρ (ρ ++ t) := fun n a h => ⟨a, by rw [List.getElem?_append_left (List.getElem?_eq_some_iff.mp h).1]; exact h, rfl, List.prefix_refl _⟩
def okU : U → Bool
  | .no => false
  | _ => true
inductive StU (ρ : List Ar) : U → Prop
  | no : StU ρ .no
  | d (x : PyData) : StU ρ (.d x)
  | s (ns : List Int) : StU ρ (.s ns)
  | c {n : Nat} : n < ρ.length → StU ρ (.c n)
  | ci {n i : Nat} {a : Ar} : ρ[n]? = some a → i < a.2.length → StU ρ (.ci n i)
  | t {us : List U} : (∀ u ∈ us, StU ρ u) → StU ρ (.t us)
theorem StU.st {ρ : List Ar} {u : U} (h : StU ρ u) : ∀ ρ', Ext ρ ρ' → toR ρ' u = toR ρ u := by
  induction h with
  | no => exact fun _ _ => by rw [toR_no, toR_no]
  | d x => exact fun _ _ => by rw [toR_d, toR_d]
  | s x => exact fun _ _ => by rw [toR_s, toR_s]
  | @c n h =>
    intro ρ' e
    obtain ⟨a', h1, h2, _⟩ := e n ρ[n] (by simp [h])
    rw [toR_c, toR_c]
    unfold ad
    rw [h1, show ρ[n]? = some ρ[n] by simp [h]]
    simp only [h2]
  | @ci n i a h hi =>
    intro ρ' e
    obtain ⟨a', h1, h2, h3⟩ := e n a h
    obtain ⟨w, hw⟩ := h3
    rw [toR_ci, toR_ci]
    unfold adi
    rw [h1, h]
    simp only [← hw, List.getElem?_append_left hi]
  | t h ih =>
    intro ρ' e
    rw [toR_t, toR_t, toRs_map, toRs_map]
    congr 1
    exact List.map_congr_left fun u hu => ih u hu _ e
theorem StU.ok {ρ : List Ar} {u : U} (h : StU ρ u) : okU u = true → toR ρ u ≠ .no := by
  cases h with
  | no => exact fun h => nomatch h
  | d x => exact fun _ => by rw [toR_d]; nofun
  | s x => exact fun _ => by rw [toR_s]; nofun
  | @c n h => exact fun _ => by rw [toR_c]; unfold ad; rw [show ρ[n]? = some ρ[n] by simp [h]]; nofun
  | @ci n i a h hi => exact fun _ => by rw [toR_ci]; unfold adi; rw [h]; simp only [show a.2[i]? = some a.2[i] by simp [hi]]; nofun
  | t h => exact fun _ => by rw [toR_t]; nofun
theorem StU.up {ρ ρ' : List Ar} {u : U} (h : StU ρ u) (e : Ext ρ ρ') : StU ρ' u := by
  induction h with
  | no => exact .no
  | d x => exact .d x
  | s x => exact .s x
  | @c n h =>
    obtain ⟨a', h1, _⟩ := e n ρ[n] (by simp [h])
    exact .c (List.getElem?_eq_some_iff.mp h1).1
  | @ci n i a h hi =>
    obtain ⟨a', h1, h2, w, hw⟩ := e n a h
    exact .ci h1 (by rw [← hw, List.length_append]; omega)
  | t h ih => exact .t ih
theorem StU.parts {ρ : List Ar} {us : List U} (h : StU ρ (.t us)) : ∀ u ∈ us, StU ρ u := by cases h with | t h => exact h
theorem toRs_st {ρ ρ' : List Ar} {us : List U} (h : ∀ u ∈ us, StU ρ u) (e : Ext ρ ρ') : toRs ρ' us = toRs ρ us := by
  rw [toRs_map, toRs_map]
  exact List.map_congr_left fun u hu => (h u hu).st _ e
def Sts (ρ : List Ar) (us : List U) : Prop := ∀ u ∈ us, StU ρ u
theorem Sts.up {ρ ρ' : List Ar} {us : List U} (h : Sts ρ us) (e : Ext ρ ρ') : Sts ρ' us := fun u hu => (h u hu).up e
theorem Sts.set {ρ : List Ar} {us : List U} (h : Sts ρ us) {i : Nat} {u : U} (hu : StU ρ u) : Sts ρ (us.set i u) := fun w hw => (List.mem_or_eq_of_mem_set hw).elim (h w) fun e => e ▸ hu
theorem Sts.nil {ρ : List Ar} : Sts ρ [] := fun _ h => nomatch h
theorem Sts.cons {ρ : List Ar} {u : U} {us : List U} (h : StU ρ u) (k : Sts ρ us) : Sts ρ (u :: us) := fun w hw => (List.mem_cons.mp hw).elim (fun e => e ▸ h) (k w)
theorem Sts.ds {ρ : List Ar} (xs : List PyData) : Sts ρ (xs.map U.d) := fun u hu => by
  obtain ⟨x, _, rfl⟩ := List.mem_map.mp hu
  exact .d x
def StO (ρ : List Ar) : Ob → Prop
  | .ls us => Sts ρ us
  | .ins _ _ us => Sts ρ us
  | .dT kvs => ∀ f ∈ kvs, StU ρ f.2
  | .dK kvs => ∀ f ∈ kvs, StU ρ f.2
  | _ => True
theorem StO.up {ρ ρ' : List Ar} {o : Ob} (h : StO ρ o) (e : Ext ρ ρ') : StO ρ' o := by
  cases o <;> simp only [StO] at h ⊢
  · exact h.up e
  · exact h.up e
  · exact fun f hf => (h f hf).up e
  · exact fun f hf => (h f hf).up e
def ShO (a : Ar) : Ob → Prop
  | .ll xss => a.2.length = xss.length
  | .ins _ _ _ => a.2.length = 1
  | _ => True
structure Gd (ρ : List Ar) (h : Hq) : Prop where
  len : ρ.length = h.length
  st : ∀ o ∈ h, StO ρ o
  sh : ∀ (n : Nat) (a : Ar) (o : Ob), ρ[n]? = some a → h[n]? = some o → ShO a o
theorem Gd.nil : Gd [] [] := ⟨rfl, fun _ h => (nomatch h), fun n a o h => by simp at h⟩
section
variable {ρ ρ' : List Ar} {h : Hq}
theorem mem1_st {a : Ar} {o : Ob} (s : StO ρ o) (e : Ext ρ ρ') : mem1 ρ' a o = mem1 ρ a o := by
  have m : ∀ {κ : Type} (fs : List (κ × U)), (∀ f ∈ fs, StU ρ f.2) → (fs.map fun z => (z.1, toR ρ' z.2)) = fs.map fun z => (z.1, toR ρ z.2) := fun fs hf => List.map_congr_left fun z hz => by rw [(hf z hz).st _ e]
  cases o <;> simp only [StO, mem1] at s ⊢
  · have := toRs_st s e
    rw [toRs_map, toRs_map] at this
    rw [this]
  · have := toRs_st s e
    rw [toRs_map, toRs_map] at this
    rw [this]
  · rw [m _ s]
  · rw [m _ s]
theorem memZ_st {zs : List (Ar × Ob)} (s : ∀ z ∈ zs, StO ρ z.2) (e : Ext ρ ρ') : memZ ρ' zs = memZ ρ zs := by
  unfold memZ
  induction zs with
  | nil => rfl
  | cons z zs ih => rw [List.flatMap_cons, List.flatMap_cons, mem1_st (s z List.mem_cons_self) e, ih fun w hw => s w (List.mem_cons_of_mem _ hw)]
theorem zip_mem {z : Ar × Ob} (hz : z ∈ ρ.zip h) : z.2 ∈ h := (List.of_mem_zip (show (z.1, z.2) ∈ ρ.zip h from hz)).2
theorem Gd.at (g : Gd ρ h) {n : Nat} {o : Ob} (e : h[n]? = some o) : ∃ a, ρ[n]? = some a ∧ ShO a o ∧ StO ρ o := by
  have l := (List.getElem?_eq_some_iff.mp e).1
  have l2 : n < ρ.length := by rw [g.len]; exact l
  exact ⟨ρ[n], by simp [l2], g.sh n _ _ (by simp [l2]) e, g.st o (List.mem_of_getElem? e)⟩
/-- a cell apart -/
theorem memZ_split {zs : List (Ar × Ob)} {n : Nat} {z : Ar × Ob} (e : zs[n]? = some z) : (memZ ρ zs).Perm (mem1 ρ z.1 z.2 ++ memZ ρ (zs.eraseIdx n)) := by
  induction zs generalizing n with
  | nil => simp at e
  | cons w zs ih =>
    cases n with
    | zero =>
      have e : w = z := by simpa using e
      subst e
      simp only [memZ, List.flatMap_cons, List.eraseIdx_zero, List.tail_cons]
      exact .refl _
    | succ n =>
      have q := ih (n := n) (by simpa using e)
      simp only [memZ, List.flatMap_cons, List.eraseIdx_cons_succ] at q ⊢
      refine (List.Perm.append_left _ q).trans ?_
      rw [← List.append_assoc, ← List.append_assoc]
      exact List.Perm.append_right _ List.perm_append_comm
theorem zip_get {n : Nat} {a : Ar} {o : Ob} (e1 : ρ[n]? = some a) (e2 : h[n]? = some o) : (ρ.zip h)[n]? = some (a, o) := by
  rw [List.zip_eq_zipWith, List.getElem?_zipWith, e1, e2]
theorem erase_set {α : Type} : ∀ (xs : List α) (n : Nat) (x : α), (xs.set n x).eraseIdx n = xs.eraseIdx n
  | [], _, _ => rfl
  | _ :: _, 0, _ => rfl
  | x :: xs, n + 1, y => by simp [erase_set xs n y]
theorem zip_set {n : Nat} {a : Ar} {o : Ob} : ∀ {ρ : List Ar} {h : Hq} {n : Nat}, (ρ.set n a).zip (h.set n o) = (ρ.zip h).set n (a, o)
  | [], _, _ => by simp
  | _ :: _, [], _ => by simp
  | _ :: _, _ :: _, 0 => by simp
  | _ :: _, _ :: _, _ + 1 => by simp [zip_set (n := 0)]
/-- what stands beside a cell -/
theorem cell_split (g : Gd ρ h) {n : Nat} {a : Ar} {o : Ob} (e1 : ρ[n]? = some a) (e2 : h[n]? = some o) : ∃ rest, (memOf ρ h).Perm (mem1 ρ a o ++ rest) ∧ ∀ ρ' a' o', Ext ρ ρ' → ρ' = ρ.set n a' → (memOf ρ' (h.set n o')).Perm (mem1 ρ' a' o' ++ rest) := by
  refine ⟨memZ ρ ((ρ.zip h).eraseIdx n), memZ_split (zip_get e1 e2), fun ρ' a' o' e er => ?_⟩
  have l1 := (List.getElem?_eq_some_iff.mp e1).1
  have l2 := (List.getElem?_eq_some_iff.mp e2).1
  have q : (ρ'.zip (h.set n o'))[n]? = some (a', o') := zip_get (by rw [er, List.getElem?_set_self l1]) (by rw [List.getElem?_set_self l2])
  refine (memZ_split (ρ := ρ') q).trans ?_
  have z : (ρ'.zip (h.set n o')).eraseIdx n = (ρ.zip h).eraseIdx n := by rw [er, zip_set (n := 0), erase_set]
  rw [z, memZ_st (ρ := ρ) (fun w hw => g.st _ (zip_mem ((List.eraseIdx_sublist _ _).subset hw))) e]
theorem set_self {α : Type} {xs : List α} {n : Nat} {x : α} (e : xs[n]? = some x) : xs.set n x = xs := by
  refine List.ext_getElem? fun i => ?_
  by_cases hi : n = i
  · subst hi; rw [List.getElem?_set_self (List.getElem?_eq_some_iff.mp e).1, e]
  · rw [List.getElem?_set_ne hi]
theorem cell_set (g : Gd ρ h) {n : Nat} {a : Ar} {o : Ob} (e1 : ρ[n]? = some a) (e2 : h[n]? = some o) : ∃ rest, (memOf ρ h).Perm (mem1 ρ a o ++ rest) ∧ ∀ o', (memOf ρ (h.set n o')).Perm (mem1 ρ a o' ++ rest) := by
  obtain ⟨rest, h1, h2⟩ := cell_split g e1 e2
  exact ⟨rest, h1, fun o' => h2 ρ a o' (Ext.refl _) (set_self e1).symm⟩
theorem Gd.set (g : Gd ρ h) {n : Nat} {o : Ob} (s : StO ρ o) (q : ∀ a, ρ[n]? = some a → ShO a o) : Gd ρ (h.set n o) := by
  refine ⟨by rw [List.length_set]; exact g.len, fun o' ho => (List.mem_or_eq_of_mem_set ho).elim (g.st o') fun e => e ▸ s, fun m a o' e1 e2 => ?_⟩
  by_cases hm : n = m
  · subst hm
    have l : n < h.length := by
      have := (List.getElem?_eq_some_iff.mp e2).1
      rwa [List.length_set] at this
    rw [List.getElem?_set_self l] at e2
    cases e2
    exact q a e1
  · rw [List.getElem?_set_ne hm] at e2
    exact g.sh m a o' e1 e2
/-- a new cell -/
theorem Gd.new (g : Gd ρ h) {a : Ar} {o : Ob} (s : StO (ρ ++ [a]) o) (q : ShO a o) : Gd (ρ ++ [a]) (h ++ [o]) := by
  refine ⟨by simp [g.len], fun o' ho => ?_, fun m a' o' e1 e2 => ?_⟩
  · rcases List.mem_append.mp ho with ho | ho
    · exact (g.st o' ho).up (Ext.app _ _)
    · rw [List.mem_singleton.mp ho]; exact s
  · by_cases hm : m < ρ.length
    · rw [List.getElem?_append_left hm] at e1
      rw [List.getElem?_append_left (by rw [← g.len]; exact hm)] at e2
      exact g.sh m a' o' e1 e2
    · rw [List.getElem?_append_right (by omega)] at e1
      rw [List.getElem?_append_right (by rw [← g.len]; omega), ← g.len] at e2
      have m0 : m - ρ.length = 0 := by
        have := (List.getElem?_eq_some_iff.mp e1).1
        simp at this; omega
      rw [m0] at e1 e2
      have z1 : a = a' := by simpa using e1
      have z2 : o = o' := by simpa using e2
      subst z1 z2
      exact q
theorem memOf_new (g : Gd ρ h) {a : Ar} {o : Ob} : memOf (ρ ++ [a]) (h ++ [o]) = memOf ρ h ++ mem1 (ρ ++ [a]) a o := by
  have z : (ρ ++ [a]).zip (h ++ [o]) = ρ.zip h ++ [(a, o)] := by rw [List.zip_append g.len]; rfl
  unfold memOf
  rw [z]
  unfold memZ
  rw [List.flatMap_append]
  congr 1
  · exact memZ_st (fun w hw => g.st _ (zip_mem hw)) (Ext.app _ _)
  · simp
end
end Vq
/-! Vc2: what is asked of an expression, by numbered cells. -/
namespace Vq
open PySem PySem.Spec PyProof.Rows L2 Hq
abbrev QU := U → Hq → Prop
abbrev SE := List U → Hq → (U → Hq → Prop) → Prop
abbrev ST := List U → Hq → (Bool → Hq → Prop) → Prop
abbrev SA := List U → Hq → (List U → Hq → Prop) → Prop
structure In (ρ : List Ar) (h : Hq) (Z M : Mem) (us : List U) : Prop where
  pm : M.Perm (memOf ρ h ++ Z)
  gd : Gd ρ h
  st : Sts ρ us
def VPost (ρ : List Ar) (Z : Mem) (Q : U → Hq → Prop) : R → Mem → Prop := fun r M => ∃ u h' ρ', r = toR ρ' u ∧ M.Perm (memOf ρ' h' ++ Z) ∧ Ext ρ ρ' ∧ Gd ρ' h' ∧ StU ρ' u ∧ Q u h'
def TPost (ρ : List Ar) (Z : Mem) (Q : Bool → Hq → Prop) : Bool → Mem → Prop := fun b M => ∃ h' ρ', M.Perm (memOf ρ' h' ++ Z) ∧ Ext ρ ρ' ∧ Gd ρ' h' ∧ Q b h'
def APost (ρ : List Ar) (Z : Mem) (Q : List U → Hq → Prop) : List R → Mem → Prop := fun rs M => ∃ us h' ρ', rs = toRs ρ' us ∧ M.Perm (memOf ρ' h' ++ Z) ∧ Ext ρ ρ' ∧ Gd ρ' h' ∧ Sts ρ' us ∧ Q us h'
def OPost (ρ : List Ar) (Z : Mem) (Q : Option Int → Hq → Prop) : Option Int → Mem → Prop := fun b M => ∃ h' ρ', M.Perm (memOf ρ' h' ++ Z) ∧ Ext ρ ρ' ∧ Gd ρ' h' ∧ Q b h'
structure VE (X : Cx) (e : Expr) (S : SE) : Prop where
  out : ∀ us h Q ρ Z M, S us h Q → In ρ h Z M us → EX X e (toRs ρ us) M (VPost ρ Z Q)
structure VT (X : Cx) (e : Expr) (S : ST) : Prop where
  out : ∀ us h Q ρ Z M, S us h Q → In ρ h Z M us → TX X e (toRs ρ us) M (TPost ρ Z Q)
structure VW (X : Cx) (e : Expr) (S : ST) : Prop where
  out : ∀ us h Q ρ Z M, S us h Q → In ρ h Z M us → WX X e (toRs ρ us) M (TPost ρ Z Q)
structure VA (X : Cx) (es : List Expr) (S : SA) : Prop where
  out : ∀ us h Q ρ Z M, S us h Q → In ρ h Z M us → AX X es (toRs ρ us) M (APost ρ Z Q)
structure VK' (X : Cx) (ks : List Keyword) (S : SA) : Prop where
  out : ∀ us h Q ρ Z M, S us h Q → In ρ h Z M us → KX X ks (toRs ρ us) M (APost ρ Z Q)
structure VO (X : Cx) (o : Option Expr) (S : List U → Hq → (Option Int → Hq → Prop) → Prop) : Prop where
  out : ∀ us h Q ρ Z M, S us h Q → In ρ h Z M us → OX X o (toRs ρ us) M (OPost ρ Z Q)
section
variable {X : Cx} {e a b c : Expr} {es rest : List Expr} {us : List U} {h : Hq} {ρ ρ1 ρ2 : List Ar} {Z M : Mem} {pos p : Pos} {S A B C : SE} {SA1 : SA} {T1 T2 : ST}
theorem VPost.up {Q : U → Hq → Prop} {r : R} {M' : Mem} (e : Ext ρ ρ1) (q : VPost ρ1 Z Q r M') : VPost ρ Z Q r M' := by
  obtain ⟨u, h', ρ', a, b, c, d⟩ := q
  exact ⟨u, h', ρ', a, b, e.trans c, d⟩
theorem TPost.up {Q : Bool → Hq → Prop} {r : Bool} {M' : Mem} (e : Ext ρ ρ1) (q : TPost ρ1 Z Q r M') : TPost ρ Z Q r M' := by
  obtain ⟨h', ρ', b, c, d⟩ := q
  exact ⟨h', ρ', b, e.trans c, d⟩
theorem APost.up {Q : List U → Hq → Prop} {r : List R} {M' : Mem} (e : Ext ρ ρ1) (q : APost ρ1 Z Q r M') : APost ρ Z Q r M' := by
  obtain ⟨u, h', ρ', a, b, c, d⟩ := q
  exact ⟨u, h', ρ', a, b, e.trans c, d⟩
theorem OPost.up {Q : Option Int → Hq → Prop} {r : Option Int} {M' : Mem} (e : Ext ρ ρ1) (q : OPost ρ1 Z Q r M') : OPost ρ Z Q r M' := by
  obtain ⟨h', ρ', b, c, d⟩ := q
  exact ⟨h', ρ', b, e.trans c, d⟩
theorem In.rs (i : In ρ h Z M us) (e : Ext ρ ρ1) : toRs ρ1 us = toRs ρ us := toRs_st i.st e
/-- go on behind an expression -/
theorem VE.run {K : U → Hq → Prop} {P : R → Mem → Prop} (ve : VE X e S) (s : S us h K) (i : In ρ h Z M us) (k : ∀ u h1 ρ1 M1, K u h1 → Ext ρ ρ1 → In ρ1 h1 Z M1 us → StU ρ1 u → toRs ρ us = toRs ρ1 us → P (toR ρ1 u) M1) : EX X e (toRs ρ us) M P :=
  (ve.out us h K ρ Z M s i).mono fun r M1 ⟨u, h1, ρ1, e1, pm, ex, gd, st, q⟩ => by
    subst e1
    exact k u h1 ρ1 M1 q ex ⟨pm, gd, i.st.up ex⟩ st (i.rs ex).symm
theorem VT.run {K : Bool → Hq → Prop} {P : Bool → Mem → Prop} (ve : VT X e T1) (s : T1 us h K) (i : In ρ h Z M us) (k : ∀ u h1 ρ1 M1, K u h1 → Ext ρ ρ1 → In ρ1 h1 Z M1 us → toRs ρ us = toRs ρ1 us → P u M1) : TX X e (toRs ρ us) M P :=
  (ve.out us h K ρ Z M s i).mono fun r M1 ⟨h1, ρ1, pm, ex, gd, q⟩ => k r h1 ρ1 M1 q ex ⟨pm, gd, i.st.up ex⟩ (i.rs ex).symm
theorem VA.run {K : List U → Hq → Prop} {P : List R → Mem → Prop} (ve : VA X es SA1) (s : SA1 us h K) (i : In ρ h Z M us) (k : ∀ vs h1 ρ1 M1, K vs h1 → Ext ρ ρ1 → In ρ1 h1 Z M1 us → Sts ρ1 vs → toRs ρ us = toRs ρ1 us → P (toRs ρ1 vs) M1) : AX X es (toRs ρ us) M P :=
  (ve.out us h K ρ Z M s i).mono fun r M1 ⟨u, h1, ρ1, e1, pm, ex, gd, st, q⟩ => by
    subst e1
    exact k u h1 ρ1 M1 q ex ⟨pm, gd, i.st.up ex⟩ st (i.rs ex).symm
/-! ### constants, names -/
def sK (x : PyData) : SE := fun _ h Q => Q (.d x) h
def sVar (i : Nat) : SE := fun us h Q => match us[i]? with
  | some .no => False
  | some u => Q u h
  | none => False
theorem in_post {Q : U → Hq → Prop} {u : U} (i : In ρ h Z M us) (s : StU ρ u) (q : Q u h) : VPost ρ Z Q (toR ρ u) M := ⟨u, h, ρ, rfl, i.pm, Ext.refl _, i.gd, s, q⟩
theorem in_d {Q : U → Hq → Prop} {x : PyData} (i : In ρ h Z M us) (q : Q (.d x) h) : VPost ρ Z Q (.d x) M := by
  have := in_post i (.d x) q
  rwa [toR_d] at this
theorem ve_int {i : Int} {j} : VE X (.Constant (.int i) j pos) (sK (.int i)) := .mk fun us h Q ρ Z M s i => dx_int _ (in_d i s)
theorem ve_bl {i : Bool} {j} : VE X (.Constant (.bool i) j pos) (sK (.bool i)) := .mk fun us h Q ρ Z M s i => dx_bl _ (in_d i s)
theorem ve_str {i : Str} {j} : VE X (.Constant (.str i) j pos) (sK (.str i)) := .mk fun us h Q ρ Z M s i => dx_str _ (in_d i s)
theorem ve_non {j} : VE X (.Constant .none j pos) (sK .none) := .mk fun us h Q ρ Z M s i => dx_non _ (in_d i s)
theorem ve_var (i : Nat) {x : Str} (hN : X.N[i]? = some x := by rfl) (hv : Vis X.env.scope x := by first | exact Or.inl rfl | exact Or.inr (Or.inl rfl) | exact Or.inr (Or.inr rfl)) (hd : (x == ("__debug__" : Str)) = false := by decide) (hcd : (x == ("__classdict__" : Str)) = false := by decide) : VE X (.Name x p) (sVar i) := .mk fun us h Q ρ Z M s g => by
  unfold sVar at s
  cases e : us[i]? with
  | none => rw [e] at s; exact s.elim
  | some u =>
    rw [e] at s
    have st := g.st u (List.mem_of_getElem? e)
    have : okU u = true ∧ Q u h := by cases u <;> first | exact s.elim | exact ⟨rfl, s⟩
    exact ex_var i (toRs_get e) (in_post g st this.2) (st.ok this.1) hN hv hd hcd
/-! ### two-place operations -/
abbrev SO := U → U → Hq → (U → Hq → Prop) → Prop
def sBin (o : SO) (A B : SE) : SE := fun us h Q => A us h fun x h1 => B us h1 fun y h2 => o x y h2 Q
def OpS (X : Cx) (rr : R2) (o : SO) : Prop := ∀ x y us h Q ρ Z M, o x y h Q → In ρ h Z M us → StU ρ x → StU ρ y → OpW X.K rr (toR ρ x) (toR ρ y) M (VPost ρ Z Q)
theorem opw_up {K : PySem.W.Frag} {rr : R2} (mo : Mo2 rr) {r1 r2 : R} {Q Q' : R → Mem → Prop} (q : ∀ r M, Q r M → Q' r M) (w : OpW K rr r1 r2 M Q) : OpW K rr r1 r2 M Q' := fun F H x y m a b => mo _ _ _ _ _ (fun v H' ⟨F', M', r, c, d, e⟩ => ⟨F', M', r, c, q _ _ d, e⟩) (w F H x y m a b)
theorem bin_run {rr : R2} {o : SO} (mo : Mo2 rr) (os : OpS X rr o) (ha : VE X a A) (hb : VE X b B) {Q : U → Hq → Prop} (s : sBin o A B us h Q) (i : In ρ h Z M us) : EX X a (toRs ρ us) M fun r1 M1 => EX X b (toRs ρ us) M1 fun r2 M2 => OpW X.K rr r1 r2 M2 (VPost ρ Z Q) :=
  ha.run s i fun x h1 ρ1 M1 k1 e1 i1 s1 q1 => by
    rw [q1]
    refine hb.run k1 i1 fun y h2 ρ2 M2 k2 e2 i2 s2 q2 => ?_
    rw [← s1.st _ e2]
    exact opw_up mo (fun r M q => (q.up e2).up e1) (os x y us h2 Q ρ2 Z M2 k2 i2 (s1.up e2) s2)
theorem ve_bin {op : Operator} {rr : R2} {o : SO} (ho : OpR X (binaryOp op) rr) (mo : Mo2 rr) (os : OpS X rr o) (ha : VE X a A) (hb : VE X b B) : VE X (.BinOp a op b pos) (sBin o A B) := .mk fun us h Q ρ Z M s i => ex_op ho mo (bin_run mo os ha hb s i)
/-- comparisons -/
abbrev CO := U → U → Hq → (Bool → Prop) → Prop
def sCmp (o : CO) (A B : SE) : SE := fun us h Q => A us h fun x h1 => B us h1 fun y h2 => o x y h2 fun k => Q (.d (.bool k)) h2
def tCmp (o : CO) (A B : SE) : ST := fun us h Q => A us h fun x h1 => B us h1 fun y h2 => o x y h2 fun k => Q k h2
def CoS (X : Cx) (rr : R2) (o : CO) : Prop := ∀ x y us h Q ρ Z M, o x y h Q → In ρ h Z M us → StU ρ x → StU ρ y → OpW X.K rr (toR ρ x) (toR ρ y) M (fun r M' => ∃ k : Bool, r = T k ∧ M' = M ∧ Q k)
theorem cmp_run {rr : R2} {o : CO} (mo : Mo2 rr) (os : CoS X rr o) (ha : VE X a A) (hb : VE X b B) {Q : Bool → Hq → Prop} (s : tCmp o A B us h Q) (i : In ρ h Z M us) : EX X a (toRs ρ us) M fun r1 M1 => EX X b (toRs ρ us) M1 fun r2 M2 => OpW X.K rr r1 r2 M2 fun r M' => ∃ k : Bool, r = T k ∧ TPost ρ Z Q k M' :=
  ha.run s i fun x h1 ρ1 M1 k1 e1 i1 s1 q1 => by
    rw [q1]
    refine hb.run k1 i1 fun y h2 ρ2 M2 k2 e2 i2 s2 q2 => ?_
    rw [← s1.st _ e2]
    refine opw_up mo (fun r M ⟨k, e, em, q⟩ => ⟨k, e, ?_⟩) (os x y us h2 _ ρ2 Z M2 k2 i2 (s1.up e2) s2)
    subst em
    exact ⟨h2, ρ2, i2.pm, e1.trans e2, i2.gd, q⟩
theorem vt_cmp {op : CmpOp} {rr : R2} {o : CO} (ho : OpR X (compareOp op) rr) (mo : Mo2 rr) (os : CoS X rr o) (ha : VE X a A) (hb : VE X b B) (hm : behindInMarks op b = false := by rfl) : VT X (.Compare a [op] [b] pos) (tCmp o A B) := .mk fun us h Q ρ Z M s i => tx_cmp ho mo hm (cmp_run mo os ha hb s i)
theorem ve_cmp {op : CmpOp} {rr : R2} {o : CO} (ho : OpR X (compareOp op) rr) (mo : Mo2 rr) (os : CoS X rr o) (ha : VE X a A) (hb : VE X b B) (hm : behindInMarks op b = false := by rfl) : VE X (.Compare a [op] [b] pos) (sCmp o A B) := .mk fun us h Q ρ Z M s i =>
  ex_cmp ho mo hm ((cmp_run mo os ha hb (Q := fun k h => Q (.d (.bool k)) h) s i).mono fun r1 M1 z => z.mono fun r2 M2 w => opw_up mo (fun r M ⟨k, e, h', ρ', pm, ex, gd, q⟩ => ⟨.d (.bool k), h', ρ', by rw [toR_d]; exact e, pm, ex, gd, .d _, q⟩) w)
/-! ints and texts -/
def rOr (r1 r2 : R2) : R2 := fun x y H Q => r1 x y H Q ∨ r2 x y H Q
theorem opr_or {f : Value → Value → Sem Value} {r1 r2 : R2} (h1 : OpR X f r1) (h2 : OpR X f r2) : OpR X f (rOr r1 r2) := fun pins s σ H x y v u Q I a b q => q.elim (h1 pins s σ H x y v u Q I a b) (h2 pins s σ H x y v u Q I a b)
theorem mo_or {r1 r2 : R2} (h1 : Mo2 r1) (h2 : Mo2 r2) : Mo2 (rOr r1 r2) := fun x y H Q Q' m q => q.imp (h1 x y H Q Q' m) (h2 x y H Q Q' m)
theorem opw_inl {K : PySem.W.Frag} {r1 r2 : R2} {x y : R} {Q : R → Mem → Prop} (w : OpW K r1 x y M Q) : OpW K (rOr r1 r2) x y M Q := fun F H u v m a b => .inl (w F H u v m a b)
theorem opw_inr {K : PySem.W.Frag} {r1 r2 : R2} {x y : R} {Q : R → Mem → Prop} (w : OpW K r2 x y M Q) : OpW K (rOr r1 r2) x y M Q := fun F H u v m a b => .inr (w F H u v m a b)
def oInt (C : Int → Int → Prop) (f : Int → Int → Int) : SO := fun x y h Q => match x, y with
  | .d (.int i), .d (.int j) => C i j ∧ Q (.d (.int (f i j))) h
  | _, _ => False
theorem os_int {C : Int → Int → Prop} {f : Int → Int → Int} : OpS X (rI C fun i j => .int (f i j)) (oInt C f) := fun x y us h Q ρ Z M s i sx sy => by
  unfold oInt at s
  split at s
  · rename_i m n
    rw [toR_d, toR_d]
    exact ow_I s.1 (fun _ => rrI) (in_d i s.2)
  · exact s.elim
def oInt0 (f : Int → Int → Int) : SO := fun x y h Q => match x, y with
  | .d (.int i), .d (.int j) => Q (.d (.int (f i j))) h
  | _, _ => False
theorem os_int0 {f : Int → Int → Int} : OpS X (rI0 fun i j => .int (f i j)) (oInt0 f) := fun x y us h Q ρ Z M s i sx sy => by
  unfold oInt0 at s
  split at s
  · rename_i m n
    rw [toR_d, toR_d]
    exact ow_I0 (fun _ => rrI) (in_d i s)
  · exact s.elim
theorem ve_sub (ha : VE X a A) (hb : VE X b B) : VE X (.BinOp a .Sub b pos) (sBin (oInt0 fun i j => i - j) A B) := ve_bin op_sub mo_I0 os_int0 ha hb
theorem ve_fdiv (ha : VE X a A) (hb : VE X b B) : VE X (.BinOp a .FloorDiv b pos) (sBin (oInt CDivW fun i j => i / j) A B) := ve_bin op_fdivW mo_I os_int ha hb
theorem ve_mod (ha : VE X a A) (hb : VE X b B) : VE X (.BinOp a .Mod b pos) (sBin (oInt (fun _ j => 0 < j) fun i j => i % j) A B) := ve_bin op_mod mo_I os_int ha hb
theorem ve_pow (ha : VE X a A) (hb : VE X b B) : VE X (.BinOp a .Pow b pos) (sBin (oInt CPowW fun i j => i ^ j.toNat) A B) := ve_bin op_powW mo_I os_int ha hb
/-- data lists, however they stand -/
def lv (h : Hq) : U → Option (List PyData)
  | .d (.list xs) => some xs
  | .c n => match h[n]? with
    | some (.ld xs) => some xs
    | _ => none
  | .ci n i => match h[n]? with
    | some (.ll xss) => xss[i]?
    | _ => none
  | _ => none
theorem cell_mem (i : In ρ h Z M us) {n : Nat} {o : Ob} {a : Ar} (e1 : ρ[n]? = some a) (e2 : h[n]? = some o) {z : Addr × Cell} (hz : z ∈ mem1 ρ a o) : z ∈ M := by
  obtain ⟨rest, h1, _⟩ := cell_set i.gd e1 e2
  exact i.pm.symm.subset (List.mem_append_left _ (h1.symm.subset (List.mem_append_left _ hz)))
theorem ad_of {n : Nat} {a : Ar} (e : ρ[n]? = some a) : ad ρ n = .v (.ref a.1) := by unfold ad; rw [e]
theorem adi_of {n i : Nat} {a : Ar} {q : Addr} (e : ρ[n]? = some a) (e2 : a.2[i]? = some q) : adi ρ n i = .v (.ref q) := by unfold adi; rw [e]; simp only [e2]
theorem lv_isM {u : U} {xs : List PyData} (i : In ρ h Z M us) (e : lv h u = some xs) : IsM M (toR ρ u) (xs.map R.d) := by
  unfold lv at e
  split at e
  · cases e; rw [toR_d]; exact .fz _
  · rename_i n
    split at e
    · rename_i ys e2
      cases e
      obtain ⟨a, e1, _, _⟩ := i.gd.at e2
      rw [toR_c, ad_of e1]
      exact .cl (cell_mem i e1 e2 (by simp [mem1]))
    · cases e
  · rename_i n j
    split at e
    · rename_i xss e2
      obtain ⟨a, e1, sh, _⟩ := i.gd.at e2
      have sh : a.2.length = xss.length := sh
      have l := (List.getElem?_eq_some_iff.mp e).1
      have l2 : j < a.2.length := by omega
      have q2 : a.2[j]? = some a.2[j] := by simp [l2]
      rw [toR_ci, adi_of e1 q2]
      refine .cl (cell_mem i e1 e2 (List.mem_cons_of_mem _ (List.mem_map.mpr ⟨(a.2[j], xs), ?_, rfl⟩)))
      refine List.mem_of_getElem? (i := j) ?_
      rw [List.zip_eq_zipWith, List.getElem?_zipWith, q2, e]
    · cases e
  · cases e
/-- a list that may be read -/
def lr (h : Hq) (u : U) : Option (List PyData) := match u with
  | .s ns => some (ns.map PyData.int)
  | u => lv h u
theorem lr_isL {u : U} {xs : List PyData} (i : In ρ h Z M us) (e : lr h u = some xs) : IsL M (toR ρ u) (xs.map R.d) := by
  unfold lr at e
  split at e
  · rename_i ns
    cases e
    rw [toR_s, List.map_map]
    exact .sc ns
  · exact (lv_isM i e).l
end
end Vq
/-! Vc3: operators, tests, displays, indices, slices. -/
namespace Vq
open PySem PySem.Spec PyProof.Rows L2 Hq
section
variable {X : Cx} {e a b c : Expr} {es rest : List Expr} {us : List U} {h : Hq} {ρ ρ1 ρ2 : List Ar} {Z M : Mem} {pos p : Pos} {S A B C : SE} {SA1 SA2 : SA} {T1 T2 : ST}
/-! ### sums and products -/
def oAdd : SO := fun x y h Q => match x, y with
  | .d (.int i), .d (.int j) => Q (.d (.int (i + j))) h
  | .d (.str i), .d (.str j) => i.length + j.length ≤ sizeLine ∧ Q (.d (.str (i ++ j))) h
  | .d (.tuple xs), .d (.tuple ys) => xs ≠ [] ∧ ys ≠ [] ∧ xs.length + ys.length ≤ sizeLine ∧ Q (.d (.tuple (xs ++ ys))) h
  | _, _ => match lv h x, lv h y with
    | some xs, some ys => xs.length + ys.length ≤ sizeLine ∧ Q (.d (.list (xs ++ ys))) h
    | _, _ => False
abbrev rStr : R2 := fun x y H Q => ∃ i j, x = .str i ∧ y = .str j ∧ i.length + j.length ≤ sizeLine ∧ Q (.str (i ++ j)) H
theorem mo_str : Mo2 rStr := fun x y H Q Q' m ⟨i, j, a, b, c, q⟩ => ⟨i, j, a, b, c, m _ _ q⟩
theorem mo_cat : Mo2 rCat := fun x y H Q Q' m ⟨l, b, xs, zs, h1, h2, h3, h4, h5, q⟩ => ⟨l, b, xs, zs, h1, h2, h3, h4, h5, fun p np => m _ _ (q p np)⟩
theorem mo_catT {K : PySem.W.Frag} : Mo2 (rCatT K) := fun x y H Q Q' m ⟨l, b, xs, zs, h1, h2, h3, h4, h5, h6, q1, q2⟩ => ⟨l, b, xs, zs, h1, h2, h3, h4, h5, h6, fun e => m _ _ (q1 e), fun e p np => m _ _ (q2 e p np)⟩
theorem opw_cat {r1 r2 : R} {xs ys : List PyData} {Q : R → Mem → Prop} (h1 : IsM M r1 (xs.map R.d)) (h2 : IsM M r2 (ys.map R.d)) (l : xs.length + ys.length ≤ sizeLine) (q : Q (.d (.list (xs ++ ys))) M) : OpW X.K rCat r1 r2 M Q := fun F H x y m w1 w2 => by
  obtain ⟨p, vs, rfl, a, b⟩ := h1.get m w1
  obtain ⟨p', vs', rfl, a', b'⟩ := h2.get m w2
  refine ⟨p, p', vs, vs', rfl, rfl, a, a', by rw [b.length, b'.length, List.length_map, List.length_map]; exact l, fun z nz => ?_⟩
  have w := rrs_app b b'
  rw [← List.map_append] at w
  exact newL m w nz q
theorem opw_catT {xs ys : List PyData} {Q : R → Mem → Prop} (n1 : xs ≠ []) (n2 : ys ≠ []) (l : xs.length + ys.length ≤ sizeLine) (q : Q (.d (.tuple (xs ++ ys))) M) : OpW X.K (rCatT X.K) (.d (.tuple xs)) (.d (.tuple ys)) M Q := fun F H x y m w1 w2 => by
  obtain ⟨p, vs, rfl, a, b⟩ := (IsT.fz (M := M) xs).get m w1
  obtain ⟨p', vs', rfl, a', b'⟩ := (IsT.fz (M := M) ys).get m w2
  have l1 : vs.length = xs.length := by rw [b.length, List.length_map]
  have l2 : vs'.length = ys.length := by rw [b'.length, List.length_map]
  refine ⟨p, p', vs, vs', rfl, rfl, SqT.of a, SqT.of a', fun e => n1 (List.length_eq_zero_iff.mp (by rw [← l1, e]; rfl)), by omega, fun e => absurd (List.length_eq_zero_iff.mp (by rw [← l2, e]; rfl)) n2, fun _ z nz => ?_⟩
  have w := rrs_app b b'
  rw [← List.map_append] at w
  exact newU m w nz q
theorem os_add : OpS X (rOr (rI0 fun i j => .int (i + j)) (rOr rStr (rOr (rCatT X.K) rCat))) oAdd := fun x y us h Q ρ Z M s i sx sy => by
  unfold oAdd at s
  split at s
  · rw [toR_d, toR_d]; exact opw_inl (ow_I0 (fun _ => rrI) (in_d i s))
  · rw [toR_d, toR_d]
    exact opw_inr (opw_inl fun F H x y m w1 w2 => ⟨_, _, rr_str w1, rr_str w2, s.1, Out.mk0 m rrS (in_d i s.2)⟩)
  · rw [toR_d, toR_d]
    exact opw_inr (opw_inr (opw_inl (opw_catT s.1 s.2.1 s.2.2.1 (in_d i s.2.2.2))))
  · split at s
    · rename_i e1 e2
      exact opw_inr (opw_inr (opw_inr (opw_cat (lv_isM i e1) (lv_isM i e2) s.1 (in_d i s.2))))
    · exact s.elim
theorem ve_add (ha : VE X a A) (hb : VE X b B) : VE X (.BinOp a .Add b pos) (sBin oAdd A B) := ve_bin (opr_or op_add (opr_or op_add_str (opr_or op_catT op_cat))) (mo_or mo_I0 (mo_or mo_str (mo_or mo_catT mo_cat))) os_add ha hb
def CMulA (i j : Int) : Prop := CMulW i j ∨ CMul i j
theorem op_mulA : OpR X (binaryOp .Mult) (rI CMulA fun i j => .int (i * j)) := fun pins s σ H x y v u Q I a b ⟨i, j, e1, e2, c, q⟩ => c.elim (fun c => op_mulW pins s σ H x y v u Q I a b ⟨i, j, e1, e2, c, q⟩) fun c => op_mul pins s σ H x y v u Q I a b ⟨i, j, e1, e2, c, q⟩
def oMul : SO := fun x y h Q => match x, y with
  | .d (.int i), .d (.int j) => CMulA i j ∧ Q (.d (.int (i * j))) h
  | .d (.list xs), .d (.int k) => -(2 ^ 63) ≤ k ∧ k < 2 ^ 63 ∧ xs.length * k.toNat ≤ sizeLine ∧ Q (.d (.list (List.replicate k.toNat xs).flatten)) h
  | _, _ => False
theorem mo_rep : Mo2 rRep := fun x y H Q Q' m ⟨l, k, xs, h1, h2, h3, h4, h5, h6, q⟩ => ⟨l, k, xs, h1, h2, h3, h4, h5, h6, fun p np => m _ _ (q p np)⟩
theorem rrs_rep {K : PySem.W.Frag} {F : Hp} {vs : List V} {xs : List PyData} (w : Rrs K F vs (xs.map R.d)) : ∀ n : Nat, Rrs K F (List.replicate n vs).flatten ((List.replicate n xs).flatten.map R.d)
  | 0 => .nil
  | n + 1 => by
    rw [List.replicate_succ, List.replicate_succ, List.flatten_cons, List.flatten_cons, List.map_append]
    exact rrs_app w (rrs_rep w n)
theorem os_mul : OpS X (rOr (rI CMulA fun i j => .int (i * j)) rRep) oMul := fun x y us h Q ρ Z M s i sx sy => by
  unfold oMul at s
  split at s
  · rw [toR_d, toR_d]; exact opw_inl (ow_I s.1 (fun _ => rrI) (in_d i s.2))
  · rw [toR_d, toR_d]
    refine opw_inr fun F H x y m w1 w2 => ?_
    obtain ⟨p, vs, rfl, a, b⟩ := (IsM.fz (M := M) _).get m w1
    exact ⟨p, _, vs, rfl, rr_int w2, a, s.1, s.2.1, by rw [b.length, List.length_map]; exact s.2.2.1, fun z nz => newL m (rrs_rep b _) nz (in_d i s.2.2.2)⟩
  · exact s.elim
theorem ve_mul (ha : VE X a A) (hb : VE X b B) : VE X (.BinOp a .Mult b pos) (sBin oMul A B) := ve_bin (opr_or op_mulA op_rep) (mo_or mo_I mo_rep) os_mul ha hb
def sUn (f : Int → Int) (A : SE) : SE := fun us h Q => A us h fun x h1 => match x with
  | .d (.int i) => Q (.d (.int (f i))) h1
  | _ => False
theorem ve_neg (ha : VE X a A) : VE X (.UnaryOp .USub a pos) (sUn (fun i => -i) A) := .mk fun us h Q ρ Z M s i => by
  refine ex_pe (pe_un un_neg (peC a)) fun σ F H st => ?_
  have q : EX X a (toRs ρ us) M fun r M' => ∃ k : Int, r = T k ∧ VPost ρ Z Q (T (-k)) M' := ha.run s i fun u h1 ρ1 M1 k e i1 s1 q1 => by
    split at k
    · rw [toR_d]; exact ⟨_, rfl, (in_d i1 k).up e⟩
    · exact k.elim
  exact cE_mono (q σ F H st) fun v H' ⟨F', M', r, w, ⟨k, e, q⟩, m, g⟩ => by
    subst e
    exact ⟨k, rr_int w, Out.trans g (Out.mk0 m rrI q)⟩
/-! ### comparisons -/
def cInt (f : Int → Int → Bool) : CO := fun x y _ Q => match x, y with
  | .d (.int i), .d (.int j) => Q (f i j)
  | _, _ => False
theorem cs_int {f : Int → Int → Bool} : CoS X (rI0 fun i j => .bl (f i j)) (cInt f) := fun x y us h Q ρ Z M s i sx sy => by
  unfold cInt at s
  split at s
  · rw [toR_d, toR_d]; exact ow_I0 (r := T (f _ _)) (fun _ => rrB) ⟨_, rfl, rfl, s⟩
  · exact s.elim
theorem vt_lt (ha : VE X a A) (hb : VE X b B) : VT X (.Compare a [.Lt] [b] pos) (tCmp (cInt fun i j => decide (i < j)) A B) := vt_cmp op_lt mo_I0 cs_int ha hb (nobehind _ (by decide) (by decide))
theorem vt_le (ha : VE X a A) (hb : VE X b B) : VT X (.Compare a [.LtE] [b] pos) (tCmp (cInt fun i j => decide (i ≤ j)) A B) := vt_cmp op_le mo_I0 cs_int ha hb (nobehind _ (by decide) (by decide))
theorem vt_gt (ha : VE X a A) (hb : VE X b B) : VT X (.Compare a [.Gt] [b] pos) (tCmp (cInt fun i j => decide (j < i)) A B) := vt_cmp op_gt mo_I0 cs_int ha hb (nobehind _ (by decide) (by decide))
theorem vt_ge (ha : VE X a A) (hb : VE X b B) : VT X (.Compare a [.GtE] [b] pos) (tCmp (cInt fun i j => decide (j ≤ i)) A B) := vt_cmp op_ge mo_I0 cs_int ha hb (nobehind _ (by decide) (by decide))
theorem ve_lt (ha : VE X a A) (hb : VE X b B) : VE X (.Compare a [.Lt] [b] pos) (sCmp (cInt fun i j => decide (i < j)) A B) := ve_cmp op_lt mo_I0 cs_int ha hb (nobehind _ (by decide) (by decide))
theorem ve_le (ha : VE X a A) (hb : VE X b B) : VE X (.Compare a [.LtE] [b] pos) (sCmp (cInt fun i j => decide (i ≤ j)) A B) := ve_cmp op_le mo_I0 cs_int ha hb (nobehind _ (by decide) (by decide))
theorem ve_gt (ha : VE X a A) (hb : VE X b B) : VE X (.Compare a [.Gt] [b] pos) (sCmp (cInt fun i j => decide (j < i)) A B) := ve_cmp op_gt mo_I0 cs_int ha hb (nobehind _ (by decide) (by decide))
theorem ve_ge (ha : VE X a A) (hb : VE X b B) : VE X (.Compare a [.GtE] [b] pos) (sCmp (cInt fun i j => decide (j ≤ i)) A B) := ve_cmp op_ge mo_I0 cs_int ha hb (nobehind _ (by decide) (by decide))
def da (h : Hq) (u : U) : Option PyData := match u with
  | .d x => some x
  | u => (lv h u).map .list
theorem isD_of_isM {r : R} {xs : List PyData} (k : IsM M r (xs.map R.d)) : IsD M r (.list xs) := by
  generalize e : xs.map R.d = rs at k
  cases k with
  | fz ys =>
    have : xs = ys := List.map_inj_right (fun _ _ q => by cases q; rfl) |>.mp e
    subst this
    exact .d _
  | cl k => subst e; exact .cl k
theorem da_isD {u : U} {x : PyData} (i : In ρ h Z M us) (e : da h u = some x) : IsD M (toR ρ u) x := by
  unfold da at e
  split at e
  · cases e; rw [toR_d]; exact .d _
  · cases q : lv h u with
    | none => rw [q] at e; cases e
    | some xs =>
      rw [q] at e
      cases e
      exact isD_of_isM (lv_isM i q)
def cEq : CO := fun x y h Q => match x, y with
  | .d (.int i), .d (.int j) => Q (decide (i = j))
  | .d (.str i), .d (.str j) => Q (decide (i = j))
  | .d (.bool i), .d (.bool j) => Q (decide (i = j))
  | _, _ => match da h x, da h y with
    | some d, some e => SeqAt.shaped d = true ∧ SeqAt.shaped e = true ∧ Q (PyData.eqv d e)
    | _, _ => False
def cNe : CO := fun x y h Q => cEq x y h fun b => Q (!b)
theorem rr_scE {i j : Str} {Q : Bool → Prop} (q : Q (decide (i = j))) : OpW X.K rEq (T i) (T j) M (fun r M' => ∃ k : Bool, r = T k ∧ M' = M ∧ Q k) := ow_eqS ⟨_, rfl, rfl, q⟩
theorem cs_eq : CoS X (rOr rEq (rEqD X.K)) cEq := fun x y us h Q ρ Z M s i sx sy => by
  unfold cEq at s
  split at s
  · rw [toR_d, toR_d]; exact opw_inr (ow_eq (.d _) (.d _) rfl rfl ⟨_, rfl, rfl, by rw [show PyData.eqv (.int _) (.int _) = _ from Bool.beq_eq_decide_eq ..]; exact s⟩)
  · rw [toR_d, toR_d]; exact opw_inl (ow_eqS ⟨_, rfl, rfl, s⟩)
  · rw [toR_d, toR_d]; exact opw_inr (ow_eq (.d _) (.d _) rfl rfl ⟨_, rfl, rfl, by rw [show PyData.eqv (.bool _) (.bool _) = _ from Bool.beq_eq_decide_eq ..]; exact s⟩)
  · split at s
    · rename_i e1 e2
      exact opw_inr (ow_eq (da_isD i e1) (da_isD i e2) s.1 s.2.1 ⟨_, rfl, rfl, s.2.2⟩)
    · exact s.elim
theorem cs_ne : CoS X (rOr rNe (rNeD X.K)) cNe := fun x y us h Q ρ Z M s i sx sy => by
  unfold cNe cEq at s
  split at s
  · rw [toR_d, toR_d]; exact opw_inr (ow_ne (.d _) (.d _) rfl rfl ⟨_, rfl, rfl, by rw [show PyData.eqv (.int _) (.int _) = _ from Bool.beq_eq_decide_eq ..]; exact s⟩)
  · rw [toR_d, toR_d]; exact opw_inl (ow_neS ⟨_, rfl, rfl, s⟩)
  · rw [toR_d, toR_d]; exact opw_inr (ow_ne (.d _) (.d _) rfl rfl ⟨_, rfl, rfl, by rw [show PyData.eqv (.bool _) (.bool _) = _ from Bool.beq_eq_decide_eq ..]; exact s⟩)
  · split at s
    · rename_i e1 e2
      exact opw_inr (ow_ne (da_isD i e1) (da_isD i e2) s.1 s.2.1 ⟨_, rfl, rfl, s.2.2⟩)
    · exact s.elim
theorem vt_eq {k : Nat} (hr : Room k X.A) (ha : VE X a A) (hb : VE X b B) : VT X (.Compare a [.Eq] [b] pos) (tCmp cEq A B) := vt_cmp (opr_or op_eq (op_eqD hr.units)) (mo_or mo_scE mo_eqD) cs_eq ha hb (nobehind _ (by decide) (by decide))
theorem vt_ne {k : Nat} (hr : Room k X.A) (ha : VE X a A) (hb : VE X b B) : VT X (.Compare a [.NotEq] [b] pos) (tCmp cNe A B) := vt_cmp (opr_or op_ne (op_neD hr.units)) (mo_or mo_scN mo_neD) cs_ne ha hb (nobehind _ (by decide) (by decide))
theorem ve_eq {k : Nat} (hr : Room k X.A) (ha : VE X a A) (hb : VE X b B) : VE X (.Compare a [.Eq] [b] pos) (sCmp cEq A B) := ve_cmp (opr_or op_eq (op_eqD hr.units)) (mo_or mo_scE mo_eqD) cs_eq ha hb (nobehind _ (by decide) (by decide))
theorem ve_ne {k : Nat} (hr : Room k X.A) (ha : VE X a A) (hb : VE X b B) : VE X (.Compare a [.NotEq] [b] pos) (sCmp cNe A B) := ve_cmp (opr_or op_ne (op_neD hr.units)) (mo_or mo_scN mo_neD) cs_ne ha hb (nobehind _ (by decide) (by decide))
end
end Vq
/-! Vc4: tests, displays, indices, slices. -/
namespace Vq
open PySem PySem.Spec PyProof.Rows L2 Hq
/-- two ways -/
def If (b : Bool) (P Q : Prop) : Prop := (b = true → P) ∧ (b = false → Q)
section
variable {X : Cx} {e a b c : Expr} {es rest : List Expr} {us : List U} {h : Hq} {ρ ρ1 ρ2 : List Ar} {Z M : Mem} {pos p : Pos} {S A B C : SE} {T1 T2 : ST}
theorem if_of {b : Bool} {P Q P' Q' : Prop} (s : If b P Q) (f : P → P') (g : Q → Q') : if b = true then P' else Q' := by
  cases b with
  | true => exact f (s.1 rfl)
  | false => exact g (s.2 rfl)
/-! ### tests -/
def tVal (S : SE) : ST := fun us h Q => S us h fun u h1 => match u with
  | .d (.bool k) => Q k h1
  | _ => False
theorem vt_val (ha : VE X e S) (he : ∀ whole, isTrue e X.env whole = (do let v ← whole; standAt e.pos; holding [v] (truthy v)) := by intro _; rfl) : VT X e (tVal S) := .mk fun us h Q ρ Z M s i =>
  tx_val (ha.run s i fun u h1 ρ1 M1 k e1 i1 s1 q1 => by
    split at k
    · rw [toR_d]; exact ⟨_, rfl, h1, ρ1, i1.pm, e1, i1.gd, k⟩
    · exact k.elim) he
def tNot (T : ST) : ST := fun us h Q => T us h fun k h1 => Q (!k) h1
theorem vt_not (ha : VT X a T1) : VT X (.UnaryOp .Not a pos) (tNot T1) := .mk fun us h Q ρ Z M s i => tx_not (ha.out us h _ ρ Z M s i)
theorem vt_w (ha : VW X a T1) : VT X a T1 := .mk fun us h Q ρ Z M s i => tx_w (ha.out us h _ ρ Z M s i)
theorem vw_and1 (ha : VT X a T1) : VW X (.BoolOp .And [a] pos) T1 := .mk fun us h Q ρ Z M s i => wx_and1 (ha.out us h _ ρ Z M s i)
theorem vw_or1 (ha : VT X a T1) : VW X (.BoolOp .Or [a] pos) T1 := .mk fun us h Q ρ Z M s i => wx_or1 (ha.out us h _ ρ Z M s i)
def tAnd (T1 T2 : ST) : ST := fun us h Q => T1 us h fun k h1 => If k (T2 us h1 Q) (Q false h1)
def tOr (T1 T2 : ST) : ST := fun us h Q => T1 us h fun k h1 => If k (Q true h1) (T2 us h1 Q)
theorem wx_mono {ds : List R} {Q Q' : Bool → Mem → Prop} (h : WX X e ds M Q) (q : ∀ r M', Q r M' → Q' r M') : WX X e ds M Q' := fun σ F H s => cW_mono (h σ F H s) fun v H' ⟨F', M', b, c, d⟩ => ⟨F', M', q v M' b, c, d⟩
theorem vw_and (ha : VT X a T1) (hb : VW X (.BoolOp .And (b :: rest) pos) T2) : VW X (.BoolOp .And (a :: b :: rest) pos) (tAnd T1 T2) := .mk fun us h Q ρ Z M s i => wx_and (ha.run s i fun k h1 ρ1 M1 q e1 i1 q1 => by
  rw [q1]
  exact if_of q (fun q => wx_mono (hb.out us h1 Q ρ1 Z M1 q i1) fun _ _ z => z.up e1) fun q => ⟨h1, ρ1, i1.pm, e1, i1.gd, q⟩)
theorem vw_or (ha : VT X a T1) (hb : VW X (.BoolOp .Or (b :: rest) pos) T2) : VW X (.BoolOp .Or (a :: b :: rest) pos) (tOr T1 T2) := .mk fun us h Q ρ Z M s i => wx_or (ha.run s i fun k h1 ρ1 M1 q e1 i1 q1 => by
  rw [q1]
  exact if_of q (fun q => ⟨h1, ρ1, i1.pm, e1, i1.gd, q⟩) fun q => wx_mono (hb.out us h1 Q ρ1 Z M1 q i1) fun _ _ z => z.up e1)
theorem tand_mk {k1 k2 : Bool} {Q : Bool → Hq → Prop} (h1 : ∀ K : Bool → Hq → Prop, K k1 h → T1 us h K) (h2 : k1 = true → ∀ K : Bool → Hq → Prop, K k2 h → T2 us h K) (q : Q (k1 && k2) h) : tAnd T1 T2 us h Q := h1 _ (by
  cases k1 with
  | true => exact ⟨fun e => h2 e Q q, fun e => nomatch e⟩
  | false => exact ⟨fun e => (nomatch e), fun _ => q⟩)
theorem tor_mk {k1 k2 : Bool} {Q : Bool → Hq → Prop} (h1 : ∀ K : Bool → Hq → Prop, K k1 h → T1 us h K) (h2 : k1 = false → ∀ K : Bool → Hq → Prop, K k2 h → T2 us h K) (q : Q (k1 || k2) h) : tOr T1 T2 us h Q := h1 _ (by
  cases k1 with
  | false => exact ⟨fun e => (nomatch e), fun e => h2 e Q q⟩
  | true => exact ⟨fun e => q, fun e => nomatch e⟩)
/-! values of and, or, not, if -/
def bl (u : U) (P : Bool → Prop) : Prop := match u with
  | .d (.bool k) => P k
  | _ => False
theorem bl_of {u : U} {P : Bool → Prop} (s : bl u P) : ∃ k, u = .d (.bool k) ∧ P k := by
  unfold bl at s
  split at s
  · exact ⟨_, rfl, s⟩
  · exact s.elim
def sAnd (A B : SE) : SE := fun us h Q => A us h fun u h1 => bl u fun k => If k (B us h1 Q) (Q (.d (.bool false)) h1)
def sOr (A B : SE) : SE := fun us h Q => A us h fun u h1 => bl u fun k => If k (Q (.d (.bool true)) h1) (B us h1 Q)
def sNot (A : SE) : SE := fun us h Q => A us h fun u h1 => bl u fun k => Q (.d (.bool !k)) h1
def sIf (T : ST) (A B : SE) : SE := fun us h Q => T us h fun k h1 => If k (A us h1 Q) (B us h1 Q)
theorem ve_one {op} (ha : VE X a A) : VE X (.BoolOp op [a] pos) A := .mk fun us h Q ρ Z M s i => ex_one (ha.out us h Q ρ Z M s i)
theorem ve_and (ha : VE X a A) (hb : VE X (.BoolOp .And (b :: rest) pos) B) : VE X (.BoolOp .And (a :: b :: rest) pos) (sAnd A B) := .mk fun us h Q ρ Z M s i => ex_andV (ha.run s i fun u h1 ρ1 M1 q e1 i1 s1 q1 => by
  obtain ⟨k, rfl, q⟩ := bl_of q
  rw [toR_d, q1]
  exact ⟨k, rfl, if_of q (fun q => (hb.out us h1 Q ρ1 Z M1 q i1).mono fun _ _ z => z.up e1) fun q => (in_d i1 q).up e1⟩)
theorem ve_or (ha : VE X a A) (hb : VE X (.BoolOp .Or (b :: rest) pos) B) : VE X (.BoolOp .Or (a :: b :: rest) pos) (sOr A B) := .mk fun us h Q ρ Z M s i => ex_orV (ha.run s i fun u h1 ρ1 M1 q e1 i1 s1 q1 => by
  obtain ⟨k, rfl, q⟩ := bl_of q
  rw [toR_d, q1]
  exact ⟨k, rfl, if_of q (fun q => (in_d i1 q).up e1) fun q => (hb.out us h1 Q ρ1 Z M1 q i1).mono fun _ _ z => z.up e1⟩)
theorem ve_not (ha : VE X a A) : VE X (.UnaryOp .Not a pos) (sNot A) := .mk fun us h Q ρ Z M s i => by
  refine ex_pe (pe_not (peC a)) fun σ F H st => ?_
  have q : EX X a (toRs ρ us) M fun r M' => ∃ k : Bool, r = T k ∧ VPost ρ Z Q (T (!k)) M' := ha.run s i fun u h1 ρ1 M1 q e1 i1 s1 q1 => by
    obtain ⟨k, rfl, q⟩ := bl_of q
    rw [toR_d]
    exact ⟨k, rfl, (in_d i1 q).up e1⟩
  exact cE_mono (q σ F H st) fun v H' ⟨F', M', r, w, ⟨k, e, q⟩, m, g⟩ => by subst e; exact ⟨k, rr_bl w, Out.trans g (Out.mk0 m rrB q)⟩
theorem ve_if (hc : VT X c T1) (ha : VE X a A) (hb : VE X b B) : VE X (.IfExp c a b pos) (sIf T1 A B) := .mk fun us h Q ρ Z M s i => ex_if (hc.run s i fun k h1 ρ1 M1 q e1 i1 q1 => by
  rw [q1]
  exact if_of q (fun q => (ha.out us h1 Q ρ1 Z M1 q i1).mono fun _ _ z => z.up e1) fun q => (hb.out us h1 Q ρ1 Z M1 q i1).mono fun _ _ z => z.up e1)
/-! ### rows of arguments, displays -/
def sArgs : List SE → SA
  | [] => fun _ h Q => Q [] h
  | S :: Ss => fun us h Q => S us h fun u h1 => sArgs Ss us h1 fun vs h2 => Q (u :: vs) h2
structure VAs (X : Cx) (es : List Expr) (Ss : List SE) : Prop where
  out : ∀ us h Q ρ Z M, sArgs Ss us h Q → In ρ h Z M us → AX X es (toRs ρ us) M fun rs M' => ∃ vs h' ρ', rs = toRs ρ' vs ∧ vs.length = es.length ∧ M'.Perm (memOf ρ' h' ++ Z) ∧ Ext ρ ρ' ∧ Gd ρ' h' ∧ Sts ρ' vs ∧ Q vs h'
theorem va_nil : VAs X [] [] := .mk fun us h Q ρ Z M s i => ax_nil ⟨[], h, ρ, by simp [toRs], rfl, i.pm, Ext.refl _, i.gd, .nil, s⟩
theorem va_cons {Ss : List SE} (ha : VE X e S) (hb : VAs X es Ss) (hs : starEach (e :: es) X.env = (false, eval e X.env) :: starEach es X.env := by exact st_any rfl) : VAs X (e :: es) (S :: Ss) := .mk fun us h Q ρ Z M s i => ax_cons (ha.run s i fun u h1 ρ1 M1 q e1 i1 s1 q1 => by
  rw [q1]
  refine (hb.out us h1 _ ρ1 Z M1 q i1).mono fun rs M2 ⟨vs, h2, ρ2, e2, l, pm, ex, gd, st, q⟩ => ?_
  subst e2
  exact ⟨u :: vs, h2, ρ2, by simp [toRs, s1.st _ ex], by simp [l], pm, e1.trans ex, gd, .cons (s1.up ex) st, q⟩) hs
theorem VAs.run {Ss : List SE} {K : List U → Hq → Prop} {P : List R → Mem → Prop} (ve : VAs X es Ss) (s : sArgs Ss us h K) (i : In ρ h Z M us) (k : ∀ vs h1 ρ1 M1, K vs h1 → vs.length = es.length → Ext ρ ρ1 → In ρ1 h1 Z M1 us → Sts ρ1 vs → toRs ρ us = toRs ρ1 us → P (toRs ρ1 vs) M1) : AX X es (toRs ρ us) M P :=
  (ve.out us h K ρ Z M s i).mono fun r M1 ⟨u, h1, ρ1, e1, l, pm, ex, gd, st, q⟩ => by
    subst e1
    exact k u h1 ρ1 M1 q l ex ⟨pm, gd, i.st.up ex⟩ st (i.rs ex).symm
def undU : List U → Option (List PyData)
  | [] => some []
  | .d x :: r => match undU r with
    | some ys => some (x :: ys)
    | none => none
  | _ :: _ => none
theorem undU_map : ∀ {vs : List U} {ys : List PyData}, undU vs = some ys → vs = ys.map U.d
  | [], ys, h => by cases h; rfl
  | .d x :: r, ys, h => by
    simp only [undU] at h
    split at h
    · rename_i zs e
      cases h
      rw [undU_map e]; rfl
    · cases h
  | .no :: r, ys, h => by cases h
  | .c _ :: r, ys, h => by cases h
  | .ci _ _ :: r, ys, h => by cases h
  | .t _ :: r, ys, h => by cases h
  | .s _ :: r, ys, h => by cases h
def sLst (Ss : List SE) : SE := fun us h Q => sArgs Ss us h fun vs h1 => match undU vs with
  | some ys => Q (.d (.list ys)) h1
  | none => False
def mkOb (vs : List U) : Ob := match undU vs with
  | some ys => .ld ys
  | none => .ls vs
def sLstC (Ss : List SE) : SE := fun us h Q => sArgs Ss us h fun vs h1 => Q (.c h1.length) (h1 ++ [mkOb vs])
def tupU (vs : List U) : U := match undU vs with
  | some ys => .d (.tuple ys)
  | none => .t vs
def sTup (Ss : List SE) : SE := fun us h Q => sArgs Ss us h fun vs h1 => Q (tupU vs) h1
theorem short_ok {α : Type} {xs : List α} (h : shortL 60 xs = true) : xs.length ≤ sizeLine := Nat.le_trans (len_ok h) (L2.small64 (by decide))
theorem ve_lst {Ss : List SE} (ha : VAs X es Ss) (hn : shortL 60 es = true := by rfl) : VE X (.List es pos) (sLst Ss) := .mk fun us h Q ρ Z M s i => ex_lst (ha.run s i fun vs h1 ρ1 M1 q l e1 i1 s1 q1 => by
  split at q
  · rename_i ys e
    have e := undU_map e
    subst e
    exact ⟨ys, toRs_d ρ1 ys, by rw [List.length_map] at l; rw [l]; exact short_ok hn, (in_d i1 q).up e1⟩
  · exact q.elim)
theorem sh_mk {vs : List U} {p : Addr} : ShO (p, []) (mkOb vs) := by unfold mkOb; split <;> trivial
theorem st_mk {vs : List U} (s : Sts ρ vs) : StO ρ (mkOb vs) := by unfold mkOb; split; trivial; exact s
theorem mem1_mk {vs : List U} {p : Addr} : mem1 ρ (p, []) (mkOb vs) = [(p, .lst (toRs ρ vs))] := by
  unfold mkOb
  split
  · rename_i ys e
    rw [undU_map e, toRs_d]; rfl
  · simp only [mem1, toRs_map]
/-- a new list cell -/
theorem new_post {Q : U → Hq → Prop} {vs : List U} (i : In ρ h Z M us) (s : Sts ρ vs) (q : Q (.c h.length) (h ++ [mkOb vs])) : ∀ p, VPost ρ Z Q (.v (.ref p)) (M ++ (p, .lst (toRs ρ vs)) :: []) := fun p => by
  have ex := Ext.app ρ [(p, [])]
  refine ⟨.c h.length, h ++ [mkOb vs], ρ ++ [(p, [])], ?_, ?_, ex, i.gd.new (st_mk (s.up ex)) sh_mk, .c (by simp [i.gd.len]), q⟩
  · rw [toR_c, ad_of (a := (p, [])) (by rw [← i.gd.len]; simp)]
  · rw [memOf_new i.gd, mem1_mk, toRs_st s ex]
    refine (List.Perm.append_right _ i.pm).trans ?_
    rw [List.append_assoc, List.append_assoc]
    exact List.Perm.append_left _ List.perm_append_comm
theorem ve_lstC {Ss : List SE} (ha : VAs X es Ss) (hn : shortL 60 es = true := by rfl) : VE X (.List es pos) (sLstC Ss) := .mk fun us h Q ρ Z M s i => ex_lstC (ha.run s i fun vs h1 ρ1 M1 q l e1 i1 s1 q1 => by
  refine ⟨by rw [toRs_len, l]; exact short_ok hn, M1, [], by simp, fun p => (new_post i1 s1 q p).up e1⟩)
theorem ve_tup {Ss : List SE} {j} (ha : VAs X es Ss) (hn : shortL 60 es = true := by rfl) : VE X (.Tuple es j pos) (sTup Ss) := .mk fun us h Q ρ Z M s i => by
  -- the display as parts, then as data where it is
  refine ex_pe (pe_tup (paC es)) fun σ F H st => ?_
  have q : AX X es (toRs ρ us) M fun rs M1 => rs.length ≤ sizeLine ∧ ((∃ ys : List PyData, rs = ys.map R.d ∧ VPost ρ Z Q (.d (.tuple ys)) M1) ∨ VPost ρ Z Q (.t rs) M1) := ha.run s i fun vs h1 ρ1 M1 q l e1 i1 s1 q1 => by
    refine ⟨by rw [toRs_len, l]; exact short_ok hn, ?_⟩
    unfold tupU at q
    split at q
    · rename_i ys e
      have e := undU_map e
      subst e
      exact .inl ⟨ys, toRs_d ρ1 ys, (in_d i1 q).up e1⟩
    · refine .inr ?_
      have := (in_post i1 (.t s1) q).up e1
      rwa [toR_t] at this
  refine cA_mono (q σ F H st) fun xs H1 ⟨F1, M1, rs, a1, ⟨l, q⟩, m1, g1⟩ => ⟨by rw [a1.length]; exact l, fun p np => ?_⟩
  rcases q with ⟨ys, e, q⟩ | q
  · subst e
    exact Out.trans g1 (newU m1 a1 np q)
  · exact Out.trans g1 (newUt m1 a1 np q)
end
end Vq
/-! Vc5: indices, slices, built-ins. -/
namespace Vq
open PySem PySem.Spec PyProof.Rows L2 Hq
section
variable {X : Cx} {e a b c : Expr} {es rest : List Expr} {us : List U} {h : Hq} {ρ ρ1 ρ2 : List Ar} {Z M : Mem} {pos p p2 : Pos} {S A B C : SE} {T1 T2 : ST}
/-! ### what stands in a value -/
/-- a list as read, element by element -/
def els (h : Hq) : U → Option (List U)
  | .d (.list xs) => some (xs.map U.d)
  | .s ns => some (ns.map fun n => .d (.int n))
  | .c n => match h[n]? with
    | some (.ld xs) => some (xs.map U.d)
    | some (.ls vs) => some vs
    | some (.ll xss) => some ((List.range xss.length).map fun i => .ci n i)
    | _ => none
  | .ci n i => match h[n]? with
    | some (.ll xss) => match xss[i]? with
      | some xs => some (xs.map U.d)
      | none => none
    | _ => none
  | _ => none
theorem ls_isM {n : Nat} {vs : List U} (i : In ρ h Z M us) (e : h[n]? = some (.ls vs)) : IsM M (toR ρ (.c n)) (toRs ρ vs) ∧ Sts ρ vs := by
  obtain ⟨a, e1, _, st⟩ := i.gd.at e
  rw [toR_c, ad_of e1, toRs_map]
  exact ⟨.cl (cell_mem i e1 e (by simp [mem1])), st⟩
theorem ll_isM {n : Nat} {xss : List (List PyData)} (i : In ρ h Z M us) (e : h[n]? = some (.ll xss)) : IsM M (toR ρ (.c n)) (toRs ρ ((List.range xss.length).map fun i => .ci n i)) ∧ Sts ρ ((List.range xss.length).map fun i => .ci n i) := by
  obtain ⟨a, e1, sh, st⟩ := i.gd.at e
  have sh : a.2.length = xss.length := sh
  have q : toRs ρ ((List.range xss.length).map fun i => .ci n i) = a.2.map fun q => .v (.ref q) := by
    rw [toRs_map, List.map_map]
    refine List.ext_getElem (by simp [sh]) fun k h1 h2 => ?_
    have hk : k < a.2.length := by simpa using h2
    simp only [List.getElem_map, List.getElem_range, Function.comp]
    rw [toR_ci, adi_of (q := a.2[k]) e1 (by simp [hk])]
  rw [q, toR_c, ad_of e1]
  refine ⟨.cl (cell_mem i e1 e List.mem_cons_self), fun u hu => ?_⟩
  obtain ⟨k, hk, rfl⟩ := List.mem_map.mp hu
  exact .ci e1 (by have := List.mem_range.mp hk; omega)
theorem els_isL {u : U} {vs : List U} (i : In ρ h Z M us) (e : els h u = some vs) : IsL M (toR ρ u) (toRs ρ vs) ∧ Sts ρ vs := by
  unfold els at e
  split at e
  · cases e; rw [toRs_d]; exact ⟨(lv_isM i (u := .d (.list _)) rfl).l, .ds _⟩
  · cases e
    rename_i ns
    have := lr_isL i (u := .s ns) rfl
    rw [show (ns.map fun n => U.d (.int n)) = (ns.map PyData.int).map U.d by rw [List.map_map]; rfl, toRs_d]
    exact ⟨this, .ds _⟩
  · rename_i n
    split at e
    · rename_i xs e2
      cases e
      rw [toRs_d]
      exact ⟨(lv_isM i (u := .c n) (by simp only [lv, e2])).l, .ds _⟩
    · rename_i ws e2
      cases e
      exact ⟨(ls_isM i e2).1.l, (ls_isM i e2).2⟩
    · rename_i xss e2
      cases e
      exact ⟨(ll_isM i e2).1.l, (ll_isM i e2).2⟩
    · cases e
  · rename_i n j
    split at e
    · rename_i xss e2
      split at e
      · rename_i xs e3
        cases e
        rw [toRs_d]
        exact ⟨(lv_isM i (u := .ci n j) (by simp only [lv, e2, e3])).l, .ds _⟩
      · cases e
    · cases e
  · cases e
def tps : U → Option (List U)
  | .d (.tuple xs) => some (xs.map U.d)
  | .t vs => some vs
  | _ => none
theorem tps_isT {u : U} {vs : List U} (s : StU ρ u) (e : tps u = some vs) : (∀ M, IsT M (toR ρ u) (toRs ρ vs)) := by
  unfold tps at e
  split at e
  · cases e; rw [toR_d, toRs_d]; exact fun M => .fz _
  · cases e; rw [toR_t]; exact fun M => .pt _
  · cases e
/-! ### indices -/
def oIx : SO := fun x y h Q => match y with
  | .d (.int i) => match x with
    | .d (.str z) => ∃ ch, z.length ≤ sizeLine ∧ atI z.cps.toList i = some ch ∧ Q (.d (.str ⟨#[ch]⟩)) h
    | .d (.tuple xs) => ∃ v, atI xs i = some v ∧ Q (.d v) h
    | .d (.list xs) => ∃ v, atI xs i = some v ∧ Q (.d v) h
    | .t vs => ∃ v, atI vs i = some v ∧ Q v h
    | .s ns => ∃ v, atI ns i = some v ∧ Q (.d (.int v)) h
    | .c n => match h[n]? with
      | some (.ld xs) => ∃ v, atI xs i = some v ∧ Q (.d v) h
      | some (.ls vs) => ∃ v, atI vs i = some v ∧ Q v h
      | some (.ll xss) => ∃ j, ixN xss.length i = some j ∧ Q (.ci n j) h
      | _ => False
    | .ci n j => match h[n]? with
      | some (.ll xss) => match xss[j]? with
        | some xs => ∃ v, atI xs i = some v ∧ Q (.d v) h
        | none => False
      | _ => False
    | _ => False
  | _ => False
theorem mo_ix {K : PySem.W.Frag} : Mo2 (rIx K) := fun x y H Q Q' m q => q.imp (fun ⟨p, xs, i, v, a, b, c, d, q⟩ => ⟨p, xs, i, v, a, b, c, d, m _ _ q⟩) fun q => q.imp (fun ⟨p, xs, i, v, a, b, c, d, q⟩ => ⟨p, xs, i, v, a, b, c, d, m _ _ q⟩) fun ⟨z, i, ch, a, b, c, d, q⟩ => ⟨z, i, ch, a, b, c, d, m _ _ q⟩
theorem opw_ixL {r1 r : R} {rs : List R} {i : Int} {Q : R → Mem → Prop} (k : IsL M r1 rs) (e : atI rs i = some r) (q : Q r M) : OpW X.K (rIx X.K) r1 (T i) M Q := fun F H x y m w1 w2 => by
  obtain ⟨p, xs, rfl, a, b⟩ := k.get m w1
  obtain ⟨v, c, d⟩ := rrs_atI b e
  exact .inl ⟨p, xs, i, v, rfl, rr_int w2, a, c, Out.mk0 m d q⟩
theorem opw_ixT {r1 r : R} {rs : List R} {i : Int} {Q : R → Mem → Prop} (k : IsT M r1 rs) (e : atI rs i = some r) (q : Q r M) : OpW X.K (rIx X.K) r1 (T i) M Q := fun F H x y m w1 w2 => by
  obtain ⟨p, xs, rfl, a, b⟩ := k.get m w1
  obtain ⟨v, c, d⟩ := rrs_atI b e
  exact .inr (.inl ⟨p, xs, i, v, rfl, rr_int w2, SqT.of a, c, Out.mk0 m d q⟩)
theorem atI_mem {α : Type} {xs : List α} {i : Int} {x : α} (e : atI xs i = some x) : x ∈ xs := by
  unfold atI at e
  cases q : ixN xs.length i with
  | none => rw [q] at e; cases e
  | some j => rw [q] at e; exact List.mem_of_getElem? e
theorem atI_toRs {vs : List U} {i : Int} {v : U} (e : atI vs i = some v) : atI (toRs ρ vs) i = some (toR ρ v) := by rw [toRs_map, atI_map, e]; rfl
theorem atI_ds {xs : List PyData} {i : Int} {v : PyData} (e : atI xs i = some v) : atI (xs.map R.d) i = some (R.d v) := by rw [atI_map, e]; rfl
theorem os_ix : OpS X (rIx X.K) oIx := fun x y us h Q ρ Z M s i sx sy => by
  unfold oIx at s
  split at s
  · rename_i j
    rw [toR_d ρ (.int j)]
    split at s
    · rename_i z
      obtain ⟨ch, l, e, q⟩ := s
      rw [toR_d]
      exact fun F H x y m w1 w2 => .inr (.inr ⟨z, j, ch, rr_str w1, rr_int w2, l, e, Out.mk0 m rrS (in_d i q)⟩)
    · obtain ⟨v, e, q⟩ := s
      rw [toR_d]
      exact opw_ixT (.fz _) (atI_ds e) (in_d i q)
    · obtain ⟨v, e, q⟩ := s
      exact opw_ixL (lv_isM i (u := .d (.list _)) rfl).l (atI_ds e) (in_d i q)
    · obtain ⟨v, e, q⟩ := s
      rw [toR_t]
      exact opw_ixT (.pt _) (atI_toRs e) (in_post i (sx.parts v (atI_mem e)) q)
    · obtain ⟨v, e, q⟩ := s
      refine opw_ixL (lr_isL i (u := .s _) rfl) (r := .d (.int v)) ?_ (in_d i q)
      rw [atI_map, atI_map, e]; rfl
    · rename_i n
      split at s
      · rename_i xs e2
        obtain ⟨v, e, q⟩ := s
        exact opw_ixL (lv_isM i (u := .c n) (by simp only [lv, e2])).l (atI_ds e) (in_d i q)
      · rename_i vs e2
        obtain ⟨v, e, q⟩ := s
        obtain ⟨k1, k2⟩ := ls_isM i e2
        exact opw_ixL k1.l (atI_toRs e) (in_post i (k2 v (atI_mem e)) q)
      · rename_i xss e2
        obtain ⟨v, e, q⟩ := s
        obtain ⟨k1, k2⟩ := ll_isM i e2
        have e3 : atI ((List.range xss.length).map fun i => U.ci n i) j = some (.ci n v) := by
          unfold atI
          rw [List.length_map, List.length_range, e]
          have hv : v < xss.length := by
            unfold ixN at e
            split at e
            · split at e
              · cases e; omega
              · cases e
            · split at e
              · cases e; omega
              · cases e
          simp [hv]
        exact opw_ixL k1.l (atI_toRs e3) (in_post i (k2 _ (atI_mem e3)) q)
      · exact s.elim
    · rename_i n j2
      split at s
      · rename_i xss e2
        split at s
        · rename_i xs e3
          obtain ⟨v, e, q⟩ := s
          exact opw_ixL (lv_isM i (u := .ci n j2) (by simp only [lv, e2, e3])).l (atI_ds e) (in_d i q)
        · exact s.elim
      · exact s.elim
    · exact s.elim
  · exact s.elim
theorem ve_ix (ha : VE X a A) (hb : VE X b B) (hs : PlainIx b := by exact plain_any rfl) : VE X (.Subscript a b pos) (sBin oIx A B) := .mk fun us h Q ρ Z M s i =>
  ex_pe (pe_ix ix_seq (peC a) (peC b) hs) fun _ _ _ st => tOp_of (bin_run mo_ix os_ix ha hb s i) mo_ix st
/-! ### slices -/
abbrev SO1 := List U → Hq → (Option Int → Hq → Prop) → Prop
def sO0 : SO1 := fun _ h Q => Q none h
def sO1 (S : SE) : SO1 := fun us h Q => S us h fun u h1 => match u with
  | .d (.int i) => Q (some i) h1
  | _ => False
theorem vo_none : VO X none sO0 := .mk fun us h Q ρ Z M s i => ox_none ⟨h, ρ, i.pm, Ext.refl _, i.gd, s⟩
theorem vo_some (ha : VE X e S) : VO X (some e) (sO1 S) := .mk fun us h Q ρ Z M s i => ox_some (ha.run s i fun u h1 ρ1 M1 k e1 i1 s1 q1 => by
  split at k
  · rw [toR_d]; exact ⟨_, rfl, h1, ρ1, i1.pm, e1, i1.gd, k⟩
  · exact k.elim)
theorem ox_mono {o : Option Expr} {ds : List R} {Q Q' : Option Int → Mem → Prop} (h : OX X o ds M Q) (q : ∀ r M', Q r M' → Q' r M') : OX X o ds M Q' := fun σ F H s => cO_mono (h σ F H s) fun v H' ⟨F', M', b, c, d⟩ => ⟨F', M', q v M' b, c, d⟩
def oSl (x : U) (lo hi : Option Int) (h : Hq) (Q : U → Hq → Prop) : Prop := match x with
  | .d (.str z) => z.length ≤ sizeLine ∧ Q (.d (.str (cutS z lo hi))) h
  | .d (.tuple xs) => Q (.d (.tuple (cut xs lo hi))) h
  | u => match lr h u with
    | some xs => Q (.d (.list (cut xs lo hi))) h
    | none => False
def sSl (A : SE) (lo hi : SO1) : SE := fun us h Q => A us h fun x h1 => lo us h1 fun l h2 => hi us h2 fun r h3 => oSl x l r h3 Q
/-- into a new list cell -/
def oSlC (x : U) (lo hi : Option Int) (h : Hq) (Q : U → Hq → Prop) : Prop := match els h x with
  | some vs => Q (.c h.length) (h ++ [.ls (cut vs lo hi)])
  | none => False
def rSl (K : PySem.W.Frag) : V → Option Int → Option Int → Hp → VK → Prop := fun x lo hi H Q => rSlL K x lo hi H Q ∨ rSlA K x lo hi H Q ∨ rSlS x lo hi H Q
theorem sl_any : SlR X (rSl X.K) := fun pins s σ H x v vl vu lo hi sl Q I rx hs pl pu h => by
  rcases h with h | h | h
  · exact sl_list pins s σ H x v vl vu lo hi sl Q I rx hs pl pu h
  · exact sl_tupA pins s σ H x v vl vu lo hi sl Q I rx hs pl pu h
  · exact sl_str pins s σ H x v vl vu lo hi sl Q I rx hs pl pu h
theorem cut_whole {α : Type} {xs : List α} {lo hi : Option Int} (h : HT.sIx xs.length 0 lo = 0 ∧ HT.sIx xs.length xs.length hi = xs.length) : cut xs lo hi = xs := by
  unfold cut
  rw [h.1, h.2]
  simp
theorem ve_sl {lo hi : Option Expr} {L H : SO1} (ha : VE X a A) (hl : VO X lo L) (hh : VO X hi H) : VE X (.Subscript a (.Slice lo hi none p2) pos) (sSl A L H) := .mk fun us h Q ρ Z M s i => by
  refine ex_pe (pe_slice sl_any (peC a) (poC lo) (poC hi)) fun σ F H st => ?_
  have q : EX X a (toRs ρ us) M fun r1 M1 => OX X lo (toRs ρ us) M1 fun l M2 => OX X hi (toRs ρ us) M2 fun u M3 => ∃ x h3 ρ3, r1 = toR ρ3 x ∧ oSl x l u h3 Q ∧ Ext ρ ρ3 ∧ In ρ3 h3 Z M3 us ∧ StU ρ3 x := ha.run s i fun x h1 ρ1 M1 k1 e1 i1 s1 q1 => by
    rw [q1]
    refine ox_mono (hl.out us h1 _ ρ1 Z M1 k1 i1) fun l M2 ⟨h2, ρ2, pm2, e2, g2, k2⟩ => ?_
    have i2 : In ρ2 h2 Z M2 us := ⟨pm2, g2, i1.st.up e2⟩
    rw [← i1.rs e2]
    refine ox_mono (hh.out us h2 _ ρ2 Z M2 k2 i2) fun r M3 ⟨h3, ρ3, pm3, e3, g3, k3⟩ => ?_
    exact ⟨x, h3, ρ3, (s1.st _ (e2.trans e3)).symm, k3, e1.trans (e2.trans e3), ⟨pm3, g3, i2.st.up e3⟩, s1.up (e2.trans e3)⟩
  refine cE_mono (q σ F H st) fun x H1 ⟨F1, M1, r1, w1, h1, m1, g1⟩ => ?_
  refine cO_mono (h1 σ F1 H1 (st.go g1 m1)) fun l H2 ⟨F2, M2, h2, m2, g2⟩ => ?_
  refine cO_mono (h2 σ F2 H2 ((st.go g1 m1).go g2 m2)) fun u H3 ⟨F3, M3, ⟨xu, h3, ρ3, er, k, ex, i3, s3⟩, m3, g3⟩ => ?_
  have w := w1.up (g2.trans g3).ex
  subst er
  have fin : ∀ {v H'}, Out X.K M3 F3 H3 (VPost ρ3 Z Q) v H' → Out X.K M F H (VPost ρ Z Q) v H' := fun {v H'} ⟨F', M', r, c, d, e⟩ => Out.trans ((g1.trans g2).trans g3) ⟨F', M', r, c, d.up ex, e⟩
  clear h1 h2
  unfold oSl at k
  split at k
  · rename_i z
    rw [toR_d] at w
    exact .inr (.inr ⟨_, rr_str w, k.1, fin (Out.mk0 m3 rrS (in_d i3 k.2))⟩)
  · rw [toR_d] at w
    obtain ⟨p, vs, rfl, c, b⟩ := (IsT.fz (M := M3) _).get m3 w
    have lv := b.length
    rw [List.length_map] at lv
    refine .inr (.inl ⟨p, vs, rfl, SqT.of c, fun hw => fin (Out.mk0 m3 w (in_d i3 ?_)), fun _ z nz => fin ?_⟩)
    · rw [lv] at hw
      rw [cut_whole hw] at k
      exact k
    · have wc := rrs_cut l u b
      rw [cut_map] at wc
      exact newU m3 wc nz (in_d i3 k)
  · split at k
    · rename_i xs e
      obtain ⟨p, vs, rfl, c, b⟩ := (lr_isL i3 e).get m3 w
      refine .inl ⟨p, vs, rfl, c, fun z nz => fin ?_⟩
      have wc := rrs_cut l u b
      rw [cut_map] at wc
      exact newL m3 wc nz (in_d i3 k)
    · exact k.elim
end
end Vq
/-! Vc6: cells numbered anew: a part of the heap for a call, and back. -/
namespace Vq
open PySem PySem.Spec PyProof.Rows L2 Hq
mutual
def ren (f : Nat → Option Nat) : U → Option U
  | .no => some .no
  | .d x => some (.d x)
  | .s ns => some (.s ns)
  | .c n => match f n with
    | some m => some (.c m)
    | none => none
  | .ci n i => match f n with
    | some m => some (.ci m i)
    | none => none
  | .t us => match rens f us with
    | some vs => some (.t vs)
    | none => none
def rens (f : Nat → Option Nat) : List U → Option (List U)
  | [] => some []
  | u :: us => match ren f u with
    | some v => match rens f us with
      | some vs => some (v :: vs)
      | none => none
    | none => none
end
def renK {κ : Type} (f : Nat → Option Nat) : List (κ × U) → Option (List (κ × U))
  | [] => some []
  | z :: zs => match ren f z.2 with
    | some v => match renK f zs with
      | some vs => some ((z.1, v) :: vs)
      | none => none
    | none => none
def renO (f : Nat → Option Nat) : Ob → Option Ob
  | .dead => some .dead
  | .ex c => some (.ex c)
  | .ld xs => some (.ld xs)
  | .ll xss => some (.ll xss)
  | .ls us => match rens f us with
    | some vs => some (.ls vs)
    | none => none
  | .ins C nms us => match rens f us with
    | some vs => some (.ins C nms vs)
    | none => none
  | .dT fs => match renK f fs with
    | some gs => some (.dT gs)
    | none => none
  | .dK fs => match renK f fs with
    | some gs => some (.dK gs)
    | none => none
def renOs (f : Nat → Option Nat) : List Ob → Option (List Ob)
  | [] => some []
  | o :: os => match renO f o with
    | some v => match renOs f os with
      | some vs => some (v :: vs)
      | none => none
    | none => none
/-- f tells where a cell stands in σ -/
def Moves (f : Nat → Option Nat) (ρ σ : List Ar) : Prop := ∀ n m, f n = some m → ∀ a, ρ[n]? = some a → ∃ a', σ[m]? = some a' ∧ a'.1 = a.1 ∧ a.2 <+: a'.2
section
variable {f : Nat → Option Nat} {ρ σ : List Ar}
mutual
theorem ren_ok (mv : Moves f ρ σ) : ∀ (u v : U), ren f u = some v → StU ρ u → toR σ v = toR ρ u ∧ StU σ v
  | .no, v, e, _ => by simp only [ren] at e; cases e; exact ⟨by rw [toR_no, toR_no], .no⟩
  | .d x, v, e, _ => by simp only [ren] at e; cases e; exact ⟨by rw [toR_d, toR_d], .d _⟩
  | .s x, v, e, _ => by simp only [ren] at e; cases e; exact ⟨by rw [toR_s, toR_s], .s _⟩
  | .c n, v, e, s => by
    simp only [ren] at e
    split at e
    · rename_i m em
      cases e
      cases s with
      | c l =>
        obtain ⟨a', e1, e2, _⟩ := mv n m em ρ[n] (by simp [l])
        refine ⟨?_, .c (List.getElem?_eq_some_iff.mp e1).1⟩
        rw [toR_c, toR_c, ad_of e1, ad_of (a := ρ[n]) (by simp [l]), e2]
    · cases e
  | .ci n i, v, e, s => by
    simp only [ren] at e
    split at e
    · rename_i m em
      cases e
      cases s with
      | @ci _ _ a h hi =>
        obtain ⟨a', e1, e2, w, hw⟩ := mv n m em a h
        have hi' : i < a'.2.length := by rw [← hw, List.length_append]; omega
        refine ⟨?_, .ci e1 hi'⟩
        rw [toR_ci, toR_ci, adi_of (q := a.2[i]) e1 (by rw [← hw, List.getElem?_append_left hi]; simp [hi]), adi_of (q := a.2[i]) h (by simp [hi])]
    · cases e
  | .t us, v, e, s => by
    simp only [ren] at e
    split at e
    · rename_i vs ev
      cases e
      obtain ⟨h1, h2⟩ := rens_ok mv us vs ev s.parts
      exact ⟨by rw [toR_t, toR_t, h1], .t h2⟩
    · cases e
theorem rens_ok (mv : Moves f ρ σ) : ∀ (us vs : List U), rens f us = some vs → Sts ρ us → toRs σ vs = toRs ρ us ∧ Sts σ vs
  | [], vs, e, _ => by simp only [rens] at e; cases e; exact ⟨by simp [toRs], .nil⟩
  | u :: us, vs, e, s => by
    simp only [rens] at e
    split at e
    · rename_i v ev
      split at e
      · rename_i ws ew
        cases e
        obtain ⟨h1, h2⟩ := ren_ok mv u v ev (s u List.mem_cons_self)
        obtain ⟨h3, h4⟩ := rens_ok mv us ws ew fun w hw => s w (List.mem_cons_of_mem _ hw)
        exact ⟨by simp [toRs, h1, h3], .cons h2 h4⟩
      · cases e
    · cases e
end
theorem renK_ok {κ : Type} (mv : Moves f ρ σ) : ∀ (us vs : List (κ × U)), renK f us = some vs → (∀ z ∈ us, StU ρ z.2) → (vs.map fun z => (z.1, toR σ z.2)) = (us.map fun z => (z.1, toR ρ z.2)) ∧ ∀ z ∈ vs, StU σ z.2
  | [], vs, e, _ => by simp only [renK] at e; cases e; exact ⟨rfl, fun _ h => nomatch h⟩
  | u :: us, vs, e, s => by
    simp only [renK] at e
    split at e
    · rename_i v ev
      split at e
      · rename_i ws ew
        cases e
        obtain ⟨h1, h2⟩ := ren_ok mv _ _ ev (s u List.mem_cons_self)
        obtain ⟨h3, h4⟩ := renK_ok mv us ws ew fun w hw => s w (List.mem_cons_of_mem _ hw)
        refine ⟨by simp [h1, h3], fun z hz => ?_⟩
        rcases List.mem_cons.mp hz with hz | hz
        · subst hz; exact h2
        · exact h4 z hz
      · cases e
    · cases e
theorem renO_ok (mv : Moves f ρ σ) {o o' : Ob} (e : renO f o = some o') (s : StO ρ o) {a : Ar} : mem1 σ a o' = mem1 ρ a o ∧ StO σ o' ∧ (ShO a o → ShO a o') := by
  cases o with
  | dead => simp only [renO] at e; cases e; exact ⟨rfl, s, fun h => h⟩
  | ex c => simp only [renO] at e; cases e; exact ⟨rfl, s, fun h => h⟩
  | ld xs => simp only [renO] at e; cases e; exact ⟨rfl, s, fun h => h⟩
  | ll xs => simp only [renO] at e; cases e; exact ⟨rfl, s, fun h => h⟩
  | ls us =>
    simp only [renO] at e
    split at e
    · rename_i vs ev
      cases e
      obtain ⟨h1, h2⟩ := rens_ok mv us vs ev s
      rw [toRs_map, toRs_map] at h1
      exact ⟨by simp only [mem1, h1], h2, fun h => h⟩
    · cases e
  | ins C nms us =>
    simp only [renO] at e
    split at e
    · rename_i vs ev
      cases e
      obtain ⟨h1, h2⟩ := rens_ok mv us vs ev s
      rw [toRs_map, toRs_map] at h1
      exact ⟨by simp only [mem1, h1], h2, fun h => h⟩
    · cases e
  | dT us =>
    simp only [renO] at e
    split at e
    · rename_i vs ev
      cases e
      obtain ⟨h1, h2⟩ := renK_ok mv us vs ev s
      exact ⟨by simp only [mem1, h1], h2, fun h => h⟩
    · cases e
  | dK us =>
    simp only [renO] at e
    split at e
    · rename_i vs ev
      cases e
      obtain ⟨h1, h2⟩ := renK_ok mv us vs ev s
      exact ⟨by simp only [mem1, h1], h2, fun h => h⟩
    · cases e
/-- a row of cells -/
theorem renOs_ok (mv : Moves f ρ σ) : ∀ (os os' : List Ob) (as : List Ar), renOs f os = some os' → (∀ o ∈ os, StO ρ o) → memZ σ (as.zip os') = memZ ρ (as.zip os) ∧ os'.length = os.length ∧ (∀ o ∈ os', StO σ o) ∧ ∀ (i : Nat) (a : Ar) (o : Ob), os'[i]? = some o → (∀ o1, os[i]? = some o1 → ShO a o1) → ShO a o
  | [], os', as, e, _ => by simp only [renOs] at e; cases e; exact ⟨by simp [memZ], rfl, fun _ h => (nomatch h), fun i a o h => by simp at h⟩
  | o :: os, os', as, e, s => by
    simp only [renOs] at e
    split at e
    · rename_i v ev
      split at e
      · rename_i ws ew
        cases e
        have so := s o List.mem_cons_self
        cases as with
        | nil =>
          obtain ⟨h3, h4, h5, h6⟩ := renOs_ok mv os ws [] ew fun w hw => s w (List.mem_cons_of_mem _ hw)
          refine ⟨by simp [memZ], by simp [h4], fun z hz => ?_, fun i a o' e1 e2 => ?_⟩
          · rcases List.mem_cons.mp hz with hz | hz
            · subst hz; exact (renO_ok mv ev so (a := (0, []))).2.1
            · exact h5 z hz
          · cases i with
            | zero =>
              have e1 : v = o' := by simpa using e1
              subst e1
              exact (renO_ok mv ev so).2.2 (e2 o rfl)
            | succ i => exact h6 i a o' (by simpa using e1) fun o1 h => e2 o1 (by simpa using h)
        | cons a as =>
          obtain ⟨h3, h4, h5, h6⟩ := renOs_ok mv os ws as ew fun w hw => s w (List.mem_cons_of_mem _ hw)
          obtain ⟨q1, q2, q3⟩ := renO_ok mv ev so (a := a)
          refine ⟨?_, by simp [h4], fun z hz => ?_, fun i b o' e1 e2 => ?_⟩
          · unfold memZ at h3 ⊢
            rw [List.zip_cons_cons, List.zip_cons_cons, List.flatMap_cons, List.flatMap_cons, h3]
            simp only [q1]
          · rcases List.mem_cons.mp hz with hz | hz
            · subst hz; exact q2
            · exact h5 z hz
          · cases i with
            | zero =>
              have e1 : v = o' := by simpa using e1
              subst e1
              exact (renO_ok mv ev so).2.2 (e2 o rfl)
            | succ i => exact h6 i b o' (by simpa using e1) fun o1 h => e2 o1 (by simpa using h)
      · cases e
    · cases e
end
/-! ### some of the cells -/
def fnd (sel : List Nat) (n : Nat) : Option Nat := sel.findIdx? (· == n)
def pick {α : Type} (d : α) (xs : List α) (sel : List Nat) : List α := sel.map fun n => xs.getD n d
theorem perm_pick {α : Type} (d : α) (xs : List α) {sel : List Nat} (nd : sel.Nodup) (lt : ∀ n ∈ sel, n < xs.length) : xs.Perm (pick d xs sel ++ pick d xs ((List.range xs.length).filter fun n => !sel.contains n)) := by
  have h1 : xs = pick d xs (List.range xs.length) := by
    refine List.ext_getElem (by simp [pick]) fun i a b => ?_
    simp [pick, List.getD_eq_getElem?_getD, a]
  have h2 : (List.range xs.length).Perm (sel ++ (List.range xs.length).filter fun n => !sel.contains n) := by
    have nd2 : (sel ++ (List.range xs.length).filter fun n => !sel.contains n).Nodup := by
      rw [List.nodup_append]
      refine ⟨nd, List.nodup_range.sublist List.filter_sublist, fun a ha b hb e => ?_⟩
      subst e
      have := (List.mem_filter.mp hb).2
      simp [ha] at this
    refine (List.perm_ext_iff_of_nodup List.nodup_range nd2).mpr fun a => ?_
    rw [List.mem_append, List.mem_filter, List.mem_range]
    constructor
    · intro h
      by_cases hs : a ∈ sel
      · exact .inl hs
      · exact .inr ⟨h, by simp [hs]⟩
    · rintro (h | h)
      · exact lt a h
      · exact h.1
  have h3 : (pick d xs (List.range xs.length)).Perm (pick d xs sel ++ pick d xs ((List.range xs.length).filter fun n => !sel.contains n)) := by
    unfold pick
    rw [← List.map_append]
    exact h2.map _
  exact (List.Perm.of_eq h1).trans h3
end Vq
/-! Vc7: a part of the heap apart, and back; what a def promises; calls. -/
namespace Vq
open PySem PySem.Spec PyProof.Rows L2 Hq
abbrev da0 : Ar := (0, [])
theorem fnd_some {sel : List Nat} {n k : Nat} (e : fnd sel n = some k) : sel[k]? = some n := by
  obtain ⟨h, h1, _⟩ := List.findIdx?_eq_some_iff_getElem.mp e
  rw [List.getElem?_eq_getElem h]
  exact congrArg some (by simpa using h1)
theorem fnd_at {sel : List Nat} (nd : sel.Nodup) {n k : Nat} (e : sel[k]? = some n) : fnd sel n = some k := by
  obtain ⟨h, h1⟩ := List.getElem?_eq_some_iff.mp e
  refine List.findIdx?_eq_some_iff_getElem.mpr ⟨h, by simp [h1], fun j hj => ?_⟩
  intro q
  have q : sel[j] = n := by simpa using q
  exact (List.pairwise_iff_getElem.mp nd) j k (Nat.lt_trans hj h) h hj (q.trans h1.symm)
theorem fnd_none {sel : List Nat} {n : Nat} (e : fnd sel n = none) : n ∉ sel := by
  intro hm
  have := List.findIdx?_eq_none_iff.mp e n hm
  simp at this
theorem pick_get {α : Type} {d : α} {xs : List α} {sel : List Nat} {k n : Nat} (e : sel[k]? = some n) (l : n < xs.length) : (pick d xs sel)[k]? = xs[n]? := by
  unfold pick
  rw [List.getElem?_map, e]
  simp [List.getD_eq_getElem?_getD, l]
theorem pick_len {α : Type} {d : α} {xs : List α} {sel : List Nat} : (pick d xs sel).length = sel.length := by simp [pick]
theorem pick_zip {ρ : List Ar} {h : Hq} (l : ρ.length = h.length) {sel : List Nat} (lt : ∀ n ∈ sel, n < h.length) : pick (da0, Ob.dead) (ρ.zip h) sel = (pick da0 ρ sel).zip (pick .dead h sel) := by
  refine List.ext_getElem? fun k => ?_
  cases e : sel[k]? with
  | none =>
    have : sel.length ≤ k := List.getElem?_eq_none_iff.mp e
    rw [List.getElem?_eq_none (by rw [pick_len]; exact this), List.getElem?_eq_none (by rw [List.length_zip, pick_len, pick_len]; omega)]
  | some n =>
    have hn := lt n (List.mem_of_getElem? e)
    rw [pick_get e (by rw [List.length_zip]; omega), List.zip_eq_zipWith, List.zip_eq_zipWith, List.getElem?_zipWith, List.getElem?_zipWith, pick_get e (by omega), pick_get e hn]
theorem memZ_perm {ρ : List Ar} {zs zs' : List (Ar × Ob)} (p : zs.Perm zs') : (memZ ρ zs).Perm (memZ ρ zs') := List.Perm.flatMap_right _ p
theorem memZ_app {ρ : List Ar} {zs zs' : List (Ar × Ob)} : memZ ρ (zs ++ zs') = memZ ρ zs ++ memZ ρ zs' := List.flatMap_append
section
variable {ρ σ : List Ar} {h : Hq} {sel : List Nat}
abbrev rest (ρ : List Ar) (h : Hq) (sel : List Nat) : Mem := memZ ρ (pick (da0, Ob.dead) (ρ.zip h) ((List.range h.length).filter fun n => !sel.contains n))
theorem mem_pick (g : Gd ρ h) (nd : sel.Nodup) (lt : ∀ n ∈ sel, n < h.length) : (memOf ρ h).Perm (memZ ρ ((pick da0 ρ sel).zip (pick .dead h sel)) ++ rest ρ h sel) := by
  have lz : (ρ.zip h).length = h.length := by rw [List.length_zip, g.len]; omega
  have := memZ_perm (ρ := ρ) (perm_pick (da0, Ob.dead) (ρ.zip h) nd (by rw [lz]; exact lt))
  rw [memZ_app, pick_zip g.len lt, lz] at this
  exact this
theorem moves_pick (g : Gd ρ h) (lt : ∀ n ∈ sel, n < h.length) : Moves (fnd sel) ρ (pick da0 ρ sel) := fun n m e a ea => by
  have e := fnd_some e
  exact ⟨a, by rw [pick_get e (by rw [g.len]; exact lt n (List.mem_of_getElem? e))]; exact ea, rfl, List.prefix_refl _⟩
/-- a part of the heap apart -/
theorem sub_heap (g : Gd ρ h) (nd : sel.Nodup) (lt : ∀ n ∈ sel, n < h.length) {hl : Hq} (e : renOs (fnd sel) (pick .dead h sel) = some hl) : Gd (pick da0 ρ sel) hl ∧ (memOf ρ h).Perm (memOf (pick da0 ρ sel) hl ++ rest ρ h sel) := by
  have mv := moves_pick g lt
  have sp : ∀ o ∈ pick Ob.dead h sel, StO ρ o := fun o ho => by
    obtain ⟨n, hn, rfl⟩ := List.mem_map.mp ho
    have := lt n hn
    exact g.st _ (by rw [List.getD_eq_getElem?_getD]; simp [this])
  obtain ⟨h1, h2, h3, h4⟩ := renOs_ok mv _ _ (pick da0 ρ sel) e sp
  refine ⟨⟨by rw [h2, pick_len, pick_len], h3, fun k a o e1 e2 => h4 k a o e2 fun o1 e3 => ?_⟩, ?_⟩
  · cases e4 : sel[k]? with
    | none =>
      rw [List.getElem?_eq_none (by rw [pick_len]; exact List.getElem?_eq_none_iff.mp e4)] at e1
      cases e1
    | some n =>
      have hn := lt n (List.mem_of_getElem? e4)
      rw [pick_get e4 (by rw [g.len]; exact hn)] at e1
      rw [pick_get e4 hn] at e3
      exact g.sh n a o1 e1 e3
  · rw [show memOf (pick da0 ρ sel) hl = memZ ρ ((pick da0 ρ sel).zip (pick .dead h sel)) from h1]
    exact mem_pick g nd lt
/-- cells put back -/
def putF {α : Type} (sel : List Nat) (ys : List α) : Nat → List α → List α
  | _, [] => []
  | i, x :: xs => (match fnd sel i with
    | some k => ys.getD k x
    | none => x) :: putF sel ys (i + 1) xs
abbrev put {α : Type} (sel : List Nat) (ys xs : List α) : List α := putF sel ys 0 xs
theorem putF_get {α : Type} {sel : List Nat} {ys : List α} : ∀ (xs : List α) (i n : Nat), (putF sel ys i xs)[n]? = (xs[n]?).map fun x => match fnd sel (i + n) with
    | some k => ys.getD k x
    | none => x
  | [], i, n => by simp [putF]
  | x :: xs, i, 0 => by simp [putF]
  | x :: xs, i, n + 1 => by
    rw [putF, List.getElem?_cons_succ, List.getElem?_cons_succ, putF_get xs (i + 1) n, show i + 1 + n = i + (n + 1) by omega]
theorem put_get {α : Type} {sel : List Nat} {ys xs : List α} {n : Nat} : (put sel ys xs)[n]? = (xs[n]?).map fun x => match fnd sel n with
    | some k => ys.getD k x
    | none => x := by rw [put, putF_get, Nat.zero_add]
theorem putF_len {α : Type} {sel : List Nat} {ys : List α} : ∀ (xs : List α) (i : Nat), (putF sel ys i xs).length = xs.length
  | [], i => rfl
  | x :: xs, i => by simp [putF, putF_len xs]
theorem put_at {α : Type} {sel : List Nat} {ys xs : List α} {n k : Nat} (e : fnd sel n = some k) (l : n < xs.length) (l2 : k < ys.length) : (put sel ys xs)[n]? = ys[k]? := by
  rw [put_get, e, show xs[n]? = some xs[n] by simp [l]]
  simp [List.getD_eq_getElem?_getD, l2]
theorem put_off {α : Type} {sel : List Nat} {ys xs : List α} {n : Nat} (e : fnd sel n = none) : (put sel ys xs)[n]? = xs[n]? := by
  rw [put_get, e]
  simp
def bk (sel : List Nat) (L k : Nat) : Option Nat := if k < sel.length then sel[k]? else some (L + (k - sel.length))
theorem Ext.le (e : Ext ρ σ) : ρ.length ≤ σ.length := by
  refine Nat.le_of_not_lt fun l => ?_
  obtain ⟨a', h1, _⟩ := e σ.length ρ[σ.length] (by simp [l])
  have := (List.getElem?_eq_some_iff.mp h1).1
  omega
/-- back from a call -/
theorem back_heap {ρl' : List Ar} {h' hb : Hq} (g : Gd ρ h) (nd : sel.Nodup) (lt : ∀ n ∈ sel, n < h.length) (ex : Ext (pick da0 ρ sel) ρl') (g' : Gd ρl' h') (e : renOs (bk sel h.length) h' = some hb) :
    ∃ ρ2, Ext ρ ρ2 ∧ Moves (bk sel h.length) ρl' ρ2 ∧ Gd ρ2 (put sel hb h ++ hb.drop sel.length) ∧ (memOf ρ2 (put sel hb h ++ hb.drop sel.length)).Perm (memOf ρl' h' ++ rest ρ h sel) := by
  have l0 : sel.length ≤ ρl'.length := by have := ex.le; rwa [pick_len] at this
  have ll : ∀ {k n : Nat}, sel[k]? = some n → k < ρl'.length := fun {k n} e => by have := (List.getElem?_eq_some_iff.mp e).1; omega
  have bb : ∀ (n : Nat), n < (put sel ρl' ρ).length → n < h.length := fun n h => by rwa [putF_len, g.len] at h
  have exE : Ext ρ (put sel ρl' ρ ++ ρl'.drop sel.length) := fun n a ea => by
    have ln : n < ρ.length := (List.getElem?_eq_some_iff.mp ea).1
    rw [List.getElem?_append_left (by rw [putF_len]; exact ln)]
    cases q : fnd sel n with
    | none => exact ⟨a, by rw [put_off q]; exact ea, rfl, List.prefix_refl _⟩
    | some k =>
      have q2 := fnd_some q
      rw [put_at q ln (ll q2)]
      exact ex k a (by rw [pick_get q2 ln]; exact ea)
  have mv : Moves (bk sel h.length) ρl' (put sel ρl' ρ ++ ρl'.drop sel.length) := fun k m em a ea => by
    unfold bk at em
    split at em
    · have hm := lt m (List.mem_of_getElem? em)
      refine ⟨a, ?_, rfl, List.prefix_refl _⟩
      rw [List.getElem?_append_left (by rw [putF_len, g.len]; exact hm), put_at (fnd_at nd em) (by rw [g.len]; exact hm) (ll em)]
      exact ea
    · rename_i hk
      have em : h.length + (k - sel.length) = m := Option.some.inj em
      refine ⟨a, ?_, rfl, List.prefix_refl _⟩
      rw [List.getElem?_append_right (by rw [putF_len, g.len]; omega), putF_len, g.len, List.getElem?_drop, show sel.length + (m - h.length) = k by omega]
      exact ea
  obtain ⟨h1, h2, h3, h4⟩ := renOs_ok mv h' hb ρl' e g'.st
  have lhb : hb.length = ρl'.length := by rw [h2, g'.len]
  refine ⟨_, exE, mv, ⟨?_, ?_, ?_⟩, ?_⟩
  · rw [List.length_append, List.length_append, putF_len, putF_len, List.length_drop, List.length_drop, g.len, lhb]
  · intro o ho
    rcases List.mem_append.mp ho with ho | ho
    · obtain ⟨n, hn⟩ := List.mem_iff_getElem?.mp ho
      cases q : fnd sel n with
      | none =>
        rw [put_off q] at hn
        exact (g.st o (List.mem_of_getElem? hn)).up exE
      | some k =>
        have ln : n < h.length := by have := (List.getElem?_eq_some_iff.mp hn).1; rwa [putF_len] at this
        rw [put_at q ln (by rw [lhb]; exact ll (fnd_some q))] at hn
        exact h3 o (List.mem_of_getElem? hn)
    · exact h3 o ((List.drop_sublist _ _).subset ho)
  · intro n a o e1 e2
    by_cases ln : n < h.length
    · rw [List.getElem?_append_left (by rw [putF_len, g.len]; exact ln)] at e1
      rw [List.getElem?_append_left (by rw [putF_len]; exact ln)] at e2
      cases q : fnd sel n with
      | none =>
        rw [put_off q] at e1 e2
        exact g.sh n a o e1 e2
      | some k =>
        have lk := ll (fnd_some q)
        rw [put_at q (by rw [g.len]; exact ln) lk] at e1
        rw [put_at q ln (by rw [lhb]; exact lk)] at e2
        exact h4 k a o e2 fun o1 e3 => g'.sh k a o1 e1 e3
    · rw [List.getElem?_append_right (by rw [putF_len, g.len]; omega), putF_len, g.len, List.getElem?_drop] at e1
      rw [List.getElem?_append_right (by rw [putF_len]; omega), putF_len, List.getElem?_drop] at e2
      exact h4 _ a o e2 fun o1 e3 => g'.sh _ a o1 e1 e3
  · have z1 : (put sel ρl' ρ ++ ρl'.drop sel.length).zip (put sel hb h ++ hb.drop sel.length) = (put sel ρl' ρ).zip (put sel hb h) ++ (ρl'.drop sel.length).zip (hb.drop sel.length) := List.zip_append (by rw [putF_len, putF_len, g.len])
    have lp : (put sel ρl' ρ).length = (put sel hb h).length := by rw [putF_len, putF_len, g.len]
    have lt2 : ∀ n ∈ sel, n < (put sel hb h).length := fun n hn => by rw [putF_len]; exact lt n hn
    have lz : ((put sel ρl' ρ).zip (put sel hb h)).length = h.length := by rw [List.length_zip, putF_len, putF_len, g.len]; omega
    have p1 := perm_pick (da0, Ob.dead) ((put sel ρl' ρ).zip (put sel hb h)) nd (by rw [lz]; exact lt)
    rw [pick_zip lp lt2, lz] at p1
    have pk : ∀ {α : Type} (d : α) (ys xs : List α), (∀ n ∈ sel, n < xs.length) → sel.length ≤ ys.length → pick d (put sel ys xs) sel = ys.take sel.length := fun d ys xs hx hy => by
      refine List.ext_getElem? fun k => ?_
      cases e : sel[k]? with
      | none =>
        have : sel.length ≤ k := List.getElem?_eq_none_iff.mp e
        rw [List.getElem?_eq_none (by rw [pick_len]; exact this), List.getElem?_eq_none (by rw [List.length_take]; omega)]
      | some n =>
        have hn := hx n (List.mem_of_getElem? e)
        have hk := (List.getElem?_eq_some_iff.mp e).1
        rw [pick_get e (by rw [putF_len]; exact hn), put_at (fnd_at nd e) hn (by omega), List.getElem?_take, if_pos hk]
    rw [pk da0 ρl' ρ (by rw [g.len]; exact lt) l0, pk Ob.dead hb h lt (by omega)] at p1
    have off : pick (da0, Ob.dead) ((put sel ρl' ρ).zip (put sel hb h)) ((List.range h.length).filter fun n => !sel.contains n) = pick (da0, Ob.dead) (ρ.zip h) ((List.range h.length).filter fun n => !sel.contains n) := by
      unfold pick
      refine List.map_congr_left fun n hn => ?_
      have h1 := (List.mem_filter.mp hn).2
      have q : fnd sel n = none := by
        cases q : fnd sel n with
        | none => rfl
        | some k =>
          have := List.mem_of_getElem? (fnd_some q)
          simp [this] at h1
      rw [List.getD_eq_getElem?_getD, List.getD_eq_getElem?_getD, List.zip_eq_zipWith, List.zip_eq_zipWith, List.getElem?_zipWith, List.getElem?_zipWith, put_off q, put_off q]
    rw [off] at p1
    have p2 := memZ_perm (ρ := put sel ρl' ρ ++ ρl'.drop sel.length) (p1.append_right ((ρl'.drop sel.length).zip (hb.drop sel.length)))
    unfold memOf
    rw [z1]
    refine p2.trans ?_
    rw [memZ_app, memZ_app]
    have e1 : memZ (put sel ρl' ρ ++ ρl'.drop sel.length) (pick (da0, Ob.dead) (ρ.zip h) ((List.range h.length).filter fun n => !sel.contains n)) = rest ρ h sel := memZ_st (fun z hz => by
      obtain ⟨n, hn, rfl⟩ := List.mem_map.mp hz
      have ln := List.mem_range.mp (List.mem_filter.mp hn).1
      refine g.st _ (zip_mem (ρ := ρ) ?_)
      have : n < (ρ.zip h).length := by rw [List.length_zip, g.len]; omega
      rw [List.getD_eq_getElem?_getD, List.getElem?_eq_getElem this]
      exact List.getElem_mem this) exE
    rw [e1, ← h1]
    have z3 : ρl'.zip hb = (ρl'.take sel.length).zip (hb.take sel.length) ++ (ρl'.drop sel.length).zip (hb.drop sel.length) := by
      rw [← List.zip_append (by simp [lhb]), List.take_append_drop, List.take_append_drop]
    rw [z3, memZ_app]
    refine List.Perm.trans ?_ (List.Perm.append_right _ (List.Perm.refl _))
    rw [List.append_assoc, List.append_assoc]
    exact List.Perm.append_left _ List.perm_append_comm
end
end Vq
/-! Vc8: what a def promises; calls; statements. -/
namespace Vq
open PySem PySem.Spec PyProof.Rows L2 Hq
abbrev Fs := List U → Hq → (U → Hq → Prop) → Prop
def Wof (sp : Fs) : Wp := fun rs M Q => ∃ us h ρ Z Q', rs = toRs ρ us ∧ In ρ h Z M us ∧ sp us h Q' ∧ ∀ u h' ρ' M', Ext ρ ρ' → M'.Perm (memOf ρ' h' ++ Z) → Gd ρ' h' → StU ρ' u → Q' u h' → Q (toR ρ' u) M'
def callAt (sp : Fs) (sel : List Nat) (vs : List U) (h1 : Hq) (Q : U → Hq → Prop) : Prop := match rens (fnd sel) vs with
  | some vs' => match renOs (fnd sel) (pick .dead h1 sel) with
    | some hl => sp vs' hl fun u h' => match ren (bk sel h1.length) u with
      | some u' => match renOs (bk sel h1.length) h' with
        | some hb => Q u' (put sel hb h1 ++ hb.drop sel.length)
        | none => False
      | none => False
    | none => False
  | none => False
def sCall (sp : Fs) (Ss : List SE) : SE := fun us h Q => sArgs Ss us h fun vs h1 => ∃ sel : List Nat, sel.Nodup ∧ (∀ n ∈ sel, n < h1.length) ∧ callAt sp sel vs h1 Q
def appH (h t : Hq) : Hq := match t with
  | [] => h
  | t => h ++ t
theorem appH_eq (h t : Hq) : appH h t = h ++ t := by cases t <;> simp [appH]
/-- a call without cells -/
def callAt0 (sp : Fs) (vs : List U) (h1 : Hq) (Q : U → Hq → Prop) : Prop := match rens (fun _ => none) vs with
  | some vs' => sp vs' [] fun u h' => match ren (fun k => some (h1.length + k)) u with
    | some u' => match renOs (fun k => some (h1.length + k)) h' with
      | some hb => Q u' (appH h1 hb)
      | none => False
    | none => False
  | none => False
def sCall0 (sp : Fs) (Ss : List SE) : SE := fun us h Q => sArgs Ss us h fun vs h1 => callAt0 sp vs h1 Q
theorem putF_nil {α : Type} {ys : List α} : ∀ (xs : List α) (i : Nat), putF [] ys i xs = xs
  | [], _ => rfl
  | x :: xs, i => by rw [putF, putF_nil xs]; rfl
theorem callAt_0 {sp : Fs} {vs : List U} {h1 : Hq} {Q : U → Hq → Prop} (s : callAt0 sp vs h1 Q) : callAt sp [] vs h1 Q := by
  have e1 : fnd [] = fun _ => none := by funext n; rfl
  have e2 : bk [] h1.length = fun k => some (h1.length + k) := by funext k; simp [bk]
  unfold callAt0 at s
  unfold callAt
  rw [e1, e2, show pick Ob.dead h1 [] = [] from rfl]
  simp only [renOs]
  split at s
  · rename_i vs' e
    simp only [put, putF_nil, List.length_nil, List.drop_zero, ← appH_eq]
    exact s
  · exact s.elim
section
variable {X : Cx} {e a b c : Expr} {es rest : List Expr} {us : List U} {h : Hq} {ρ ρ1 ρ2 : List Ar} {Z M : Mem} {pos p p2 : Pos} {S A B C : SE} {Ss : List SE} {T1 T2 : ST} {sp : Fs}
theorem call_W {vs : List U} {sel : List Nat} {Q : U → Hq → Prop} (nd : sel.Nodup) (lt : ∀ n ∈ sel, n < h.length) (k : callAt sp sel vs h Q) (i : In ρ h Z M us) (sv : Sts ρ vs) : Wof sp (toRs ρ vs) M (VPost ρ Z Q) := by
  unfold callAt at k
  split at k
  · rename_i vs' ev
    split at k
    · rename_i hl eh
      have mv := moves_pick i.gd lt
      obtain ⟨q1, q2⟩ := rens_ok mv vs vs' ev sv
      obtain ⟨g1, pm⟩ := sub_heap i.gd nd lt eh
      refine ⟨vs', hl, pick da0 ρ sel, rest ρ h sel ++ Z, _, q1.symm, ⟨?_, g1, q2⟩, k, fun u h' ρ' M' ex pm' gd st q => ?_⟩
      · refine i.pm.trans ?_
        rw [← List.append_assoc]
        exact pm.append_right Z
      · split at q
        · rename_i u' eu
          split at q
          · rename_i hb ehb
            obtain ⟨ρ2, ex2, mv2, gd2, pm2⟩ := back_heap i.gd nd lt ex gd ehb
            obtain ⟨w1, w2⟩ := ren_ok mv2 u u' eu st
            refine ⟨u', _, ρ2, w1.symm, ?_, ex2, gd2, w2, q⟩
            refine pm'.trans ?_
            rw [← List.append_assoc]
            exact (pm2.symm).append_right Z
          · exact q.elim
        · exact q.elim
    · exact k.elim
  · exact k.elim
theorem Wof.mono {rs : List R} {M' : Mem} {Q Q' : R → Mem → Prop} (w : Wof sp rs M' Q) (q : ∀ r M, Q r M → Q' r M) : Wof sp rs M' Q' := by
  obtain ⟨us, h, ρ, Z, Q1, a, b, c, d⟩ := w
  exact ⟨us, h, ρ, Z, Q1, a, b, c, fun u h' ρ' M' e1 e2 e3 e4 e5 => q _ _ (d u h' ρ' M' e1 e2 e3 e4 e5)⟩
variable {k : Nat} {x : Str} {st : Stmt} {ps : List Str}
theorem ve_call (G : Fx X.prog X.w X.K X.mg X.base k x st ps (Wof sp)) (hg : X.A.guards = some []) (hr : Room k X.A) (ha : VAs X (e :: es) Ss) (gl : Gl X x := by rfl) (hdb : (x == ("__debug__" : Str)) = false := by decide) (he : starEach (e :: es) X.env = (false, eval e X.env) :: starEach es X.env := by exact st_any rfl)
    (hpl : (backTo pos (starEach es X.env)).any (·.1) = false := by rfl) : VE X (.Call (.Name x p) (e :: es) [] pos) (sCall sp Ss) := .mk fun us h Q ρ Z M s i =>
  ex_call G hg hr (ha.run s i fun vs h1 ρ1 M1 ⟨sel, nd, lt, q⟩ l e1 i1 s1 q1 => (call_W nd lt q i1 s1).mono fun r M q => q.up e1) gl hdb he hpl
theorem ve_call0 (G : Fx X.prog X.w X.K X.mg X.base k x st ps (Wof sp)) (hg : X.A.guards = some []) (hr : Room k X.A) (ha : VAs X (e :: es) Ss) (gl : Gl X x := by rfl) (hdb : (x == ("__debug__" : Str)) = false := by decide) (he : starEach (e :: es) X.env = (false, eval e X.env) :: starEach es X.env := by exact st_any rfl)
    (hpl : (backTo pos (starEach es X.env)).any (·.1) = false := by rfl) : VE X (.Call (.Name x p) (e :: es) [] pos) (sCall0 sp Ss) := .mk fun us h Q ρ Z M s i =>
  ex_call G hg hr (ha.run s i fun vs h1 ρ1 M1 q l e1 i1 s1 q1 => (call_W List.nodup_nil (fun _ h => nomatch h) (callAt_0 q) i1 s1).mono fun r M q => q.up e1) gl hdb he hpl
/-- all by name -/
structure VKs (X : Cx) (es : List Keyword) (Ss : List SE) : Prop where
  out : ∀ us h Q ρ Z M, sArgs Ss us h Q → In ρ h Z M us → KX X es (toRs ρ us) M fun rs M' => ∃ vs h' ρ', rs = toRs ρ' vs ∧ vs.length = es.length ∧ M'.Perm (memOf ρ' h' ++ Z) ∧ Ext ρ ρ' ∧ Gd ρ' h' ∧ Sts ρ' vs ∧ Q vs h'
theorem kx_mono {ks : List Keyword} {ds : List R} {Q Q' : List R → Mem → Prop} (h : KX X ks ds M Q) (q : ∀ r M', Q r M' → Q' r M') : KX X ks ds M Q' := fun σ F H s => cK_mono (h σ F H s) fun v H' ⟨F', M', r, a, b, c, d⟩ => ⟨F', M', r, a, q r M' b, c, d⟩
theorem vk_nil : VKs X [] [] := .mk fun us h Q ρ Z M s i => kx_nil ⟨[], h, ρ, by simp [toRs], rfl, i.pm, Ext.refl _, i.gd, .nil, s⟩
theorem vk_cons {nm : Option Str} {ks : List Keyword} (ha : VE X e S) (hb : VKs X ks Ss) : VKs X (⟨nm, e, p⟩ :: ks) (S :: Ss) := .mk fun us h Q ρ Z M s i => kx_cons (ha.run s i fun u h1 ρ1 M1 q e1 i1 s1 q1 => by
  rw [q1]
  refine kx_mono (hb.out us h1 _ ρ1 Z M1 q i1) fun rs M2 ⟨vs, h2, ρ2, e2, l, pm, ex, gd, st, q⟩ => ?_
  subst e2
  exact ⟨u :: vs, h2, ρ2, by simp [toRs, s1.st _ ex], by simp [l], pm, e1.trans ex, gd, .cons (s1.up ex) st, q⟩)
def sPerm (ix : List Nat) (Ss : List SE) (f : List U → Hq → (U → Hq → Prop) → Prop) : SE := fun us h Q => sArgs Ss us h fun vs h1 => f (ix.map fun i => vs.getD i .no) h1 Q
def sCallK (sp : Fs) (ix : List Nat) (Ss : List SE) : SE := sPerm ix Ss fun vs h1 Q => ∃ sel : List Nat, sel.Nodup ∧ (∀ n ∈ sel, n < h1.length) ∧ callAt sp sel vs h1 Q
def sCallK0 (sp : Fs) (ix : List Nat) (Ss : List SE) : SE := sPerm ix Ss fun vs h1 Q => callAt0 sp vs h1 Q
theorem perm_rs {ix : List Nat} {vs : List U} : (ix.map fun i => (toRs ρ vs).getD i .no) = toRs ρ (ix.map fun i => vs.getD i .no) := by
  rw [toRs_map, toRs_map, List.map_map]
  refine List.map_congr_left fun i _ => ?_
  rw [List.getD_eq_getElem?_getD, List.getElem?_map, Function.comp, List.getD_eq_getElem?_getD]
  cases vs[i]? with
  | none => exact (toR_no ρ).symm
  | some u => rfl
theorem perm_st {ix : List Nat} {vs : List U} (s : Sts ρ vs) : Sts ρ (ix.map fun i => vs.getD i .no) := fun u hu => by
  obtain ⟨i, _, rfl⟩ := List.mem_map.mp hu
  rw [List.getD_eq_getElem?_getD]
  cases e : vs[i]? with
  | none => exact .no
  | some u => exact s u (List.mem_of_getElem? e)
theorem ve_callK (ix : List Nat) (ks : List Str) {kws : List Keyword} (G : Fx X.prog X.w X.K X.mg X.base k x st ps (Wof sp)) (hg : X.A.guards = some []) (hr : Room k X.A) (ha : VKs X kws Ss)
    (hix : ∀ i ∈ ix, i < ks.length) (hb : ∀ (kV doc pm : Value) (an : Option Addr) (cdv ct : Value) (ws : List Value), ws.length = ks.length → bindArgs (PySem.W.fnOf x x (defArgs st) (defBody st) (defScope st) .none kV doc pm an cdv ct) ⟨[], ks.zip ws⟩ = pure (ps.zip (ix.map fun i => ws.getD i .none)))
    (hl : kws.length = ks.length := by rfl) (gl : Gl X x := by rfl) (hall : (backToKw pos (keywordEach kws X.env)).all (·.1.isSome) = true := by rfl) (hks : (backToKw pos (keywordEach kws X.env)).filterMap (·.1) = ks := by rfl) (hdb : (x == ("__debug__" : Str)) = false := by decide)
    (hpl : ((backTo pos (starEach [] X.env)).any (·.1) || (backToKw pos (keywordEach kws X.env)).any (·.1.isNone)) = false := by rfl) : VE X (.Call (.Name x p) [] kws pos) (sCallK sp ix Ss) := .mk fun us h Q ρ Z M s i =>
  ex_callKw ix ks G hg hr (kx_mono (ha.out us h _ ρ Z M s i) fun rs M1 ⟨vs, h1, ρ1, e1, l, pm, ex, gd, st, sel, nd, lt, q⟩ => by
    subst e1
    refine ⟨by rw [toRs_len, l, hl], ?_⟩
    rw [perm_rs]
    exact (call_W (us := us) nd lt q ⟨pm, gd, i.st.up ex⟩ (perm_st st)).mono fun r M q => q.up ex) hix hb gl hall hks hdb hpl
theorem ve_callK0 (ix : List Nat) (ks : List Str) {kws : List Keyword} (G : Fx X.prog X.w X.K X.mg X.base k x st ps (Wof sp)) (hg : X.A.guards = some []) (hr : Room k X.A) (ha : VKs X kws Ss)
    (hix : ∀ i ∈ ix, i < ks.length) (hb : ∀ (kV doc pm : Value) (an : Option Addr) (cdv ct : Value) (ws : List Value), ws.length = ks.length → bindArgs (PySem.W.fnOf x x (defArgs st) (defBody st) (defScope st) .none kV doc pm an cdv ct) ⟨[], ks.zip ws⟩ = pure (ps.zip (ix.map fun i => ws.getD i .none)))
    (hl : kws.length = ks.length := by rfl) (gl : Gl X x := by rfl) (hall : (backToKw pos (keywordEach kws X.env)).all (·.1.isSome) = true := by rfl) (hks : (backToKw pos (keywordEach kws X.env)).filterMap (·.1) = ks := by rfl) (hdb : (x == ("__debug__" : Str)) = false := by decide)
    (hpl : ((backTo pos (starEach [] X.env)).any (·.1) || (backToKw pos (keywordEach kws X.env)).any (·.1.isNone)) = false := by rfl) : VE X (.Call (.Name x p) [] kws pos) (sCallK0 sp ix Ss) := .mk fun us h Q ρ Z M s i =>
  ex_callKw ix ks G hg hr (kx_mono (ha.out us h _ ρ Z M s i) fun rs M1 ⟨vs, h1, ρ1, e1, l, pm, ex, gd, st, q⟩ => by
    subst e1
    refine ⟨by rw [toRs_len, l, hl], ?_⟩
    rw [perm_rs]
    exact (call_W (us := us) List.nodup_nil (fun _ h => nomatch h) (callAt_0 q) ⟨pm, gd, i.st.up ex⟩ (perm_st st)).mono fun r M q => q.up ex) hix hb gl hall hks hdb hpl
end
/-! ### statements -/
structure Pq where
  nx : List U → Hq → Prop
  rt : U → Hq → Prop
  bk : List U → Hq → Prop := fun _ _ => False
  ct : List U → Hq → Prop := fun _ _ => False
abbrev SB := List U → Hq → Pq → Prop
def SPost (ρ : List Ar) (Z : Mem) (Q : List U → Hq → Prop) : List R → Mem → Prop := fun ds M' => ∃ us' h' ρ', ds = toRs ρ' us' ∧ Ext ρ ρ' ∧ In ρ' h' Z M' us' ∧ Q us' h'
def toPo (ρ : List Ar) (Z : Mem) (D : Pq) : Po := ⟨SPost ρ Z D.nx, VPost ρ Z D.rt, SPost ρ Z D.bk, SPost ρ Z D.ct⟩
structure VB (X : Cx) (st : List Stmt) (S : SB) : Prop where
  out : ∀ us h D ρ Z M, S us h D → In ρ h Z M us → BX X st (toRs ρ us) M (toPo ρ Z D)
/-- slots forgotten -/
def Wku : List U → List U → Prop
  | [], [] => True
  | a :: as, b :: bs => (a = b ∨ b = .no) ∧ Wku as bs
  | _, _ => False
theorem Wku.refl : ∀ us : List U, Wku us us
  | [] => trivial
  | _ :: us => ⟨.inl rfl, Wku.refl us⟩
theorem Wku.wk {ρ : List Ar} : ∀ {us vs : List U}, Wku us vs → Wk (toRs ρ us) (toRs ρ vs)
  | [], [], _ => by simp only [toRs]; trivial
  | a :: as, b :: bs, h => by
    simp only [toRs]
    refine ⟨?_, h.2.wk⟩
    rcases h.1 with e | e
    · exact .inr (by rw [e])
    · exact .inl (by rw [e, toR_no])
  | [], _ :: _, h => h.elim
  | _ :: _, [], h => h.elim
theorem Wku.st {ρ : List Ar} : ∀ {us vs : List U}, Wku us vs → Sts ρ us → Sts ρ vs
  | [], [], _, s => s
  | a :: as, b :: bs, h, s => by
    refine .cons ?_ (h.2.st fun u hu => s u (List.mem_cons_of_mem _ hu))
    rcases h.1 with e | e
    · rw [← e]; exact s a List.mem_cons_self
    · rw [e]; exact .no
  | [], _ :: _, h, _ => h.elim
  | _ :: _, [], h, _ => h.elim
section
variable {X : Cx} {e a b c tg : Expr} {es rest : List Expr} {us : List U} {h : Hq} {ρ ρ1 ρ2 : List Ar} {Z M : Mem} {pos p p2 : Pos} {S A B C : SE} {Ss : List SE} {T1 T2 : ST} {Rs As Bs : SB} {r r1 r2 sA sB : List Stmt} {D : Pq}
theorem SPost.up {Q : List U → Hq → Prop} {ds : List R} {M' : Mem} (e : Ext ρ ρ1) (q : SPost ρ1 Z Q ds M') : SPost ρ Z Q ds M' := by
  obtain ⟨u, h', ρ', a, b, c⟩ := q
  exact ⟨u, h', ρ', a, e.trans b, c⟩
theorem bx_up {A : List Stmt} {ds : List R} (e : Ext ρ ρ1) (q : BX X A ds M (toPo ρ1 Z D)) : BX X A ds M (toPo ρ Z D) := q.mono (fun _ _ z => z.up e) (fun _ _ z => z.up e) (fun _ _ z => z.up e) (fun _ _ z => z.up e)
theorem VB.run (vb : VB X r Rs) (s : Rs us h D) (e : Ext ρ ρ1) (i : In ρ1 h Z M us) : BX X r (toRs ρ1 us) M (toPo ρ Z D) := bx_up e (vb.out us h D ρ1 Z M s i)
def sNil : SB := fun us h D => D.nx us h
theorem vb_nil : VB X [] sNil := .mk fun us h D ρ Z M s i => bx_nil ⟨us, h, ρ, rfl, Ext.refl _, i, s⟩
def sRet (S : SE) : SB := fun us h D => S us h D.rt
theorem vb_ret (ha : VE X e S) : VB X (.Return (some e) pos :: r) (sRet S) := .mk fun us h D ρ Z M s i => bx_ret (ha.out us h D.rt ρ Z M s i)
def sRetN : SB := fun us h D => D.rt (.d .none) h
theorem vb_retN : VB X (.Return none pos :: r) sRetN := .mk fun us h D ρ Z M s i => bx_retN (in_d i s)
def sExp (S : SE) (R : SB) : SB := fun us h D => S us h fun _ h1 => R us h1 D
theorem vb_exp (ha : VE X e S) (hb : VB X r Rs) (hs : swapsWith e none pos.line X.env = pure false := by first | exact sw_not rfl | rfl) : VB X (.Expr e pos :: r) (sExp S Rs) := .mk fun us h D ρ Z M s i =>
  bx_expr (ha.run s i fun u h1 ρ1 M1 q e1 i1 s1 q1 => by rw [q1]; exact hb.run q e1 i1) hs
theorem vb_pass (hb : VB X r Rs) : VB X (.Pass pos :: r) Rs := .mk fun us h D ρ Z M s i => bx_pass (hb.out us h D ρ Z M s i)
def sBrk : SB := fun us h D => D.bk us h
def sCnt : SB := fun us h D => D.ct us h
theorem vb_brk : VB X (.Break pos :: r) sBrk := .mk fun us h D ρ Z M s i => bx_break ⟨us, h, ρ, rfl, Ext.refl _, i, s⟩
theorem vb_cnt : VB X (.Continue pos :: r) sCnt := .mk fun us h D ρ Z M s i => bx_continue ⟨us, h, ρ, rfl, Ext.refl _, i, s⟩
/-- x = e -/
def sSet (i : Nat) (S : SE) (R : SB) : SB := fun us h D => S us h fun u h1 => R (us.set i u) h1 D
theorem vb_set (j : Nat) {x : Str} {pos' : Pos} (hN : X.N.Nodup) (ha : VE X e S) (hb : VB X r Rs) (hi : X.N[j]? = some x := by rfl) (hx : Loc X.env.scope x := by first | exact Or.inl rfl | exact Or.inr rfl) (hs : swapsWith e (some (.Name x pos')) pos.line X.env = pure false := by first | exact sw_not rfl | rfl)
    (hsw : swappedStores [.Name x pos'] e X.env = pure none := by rfl) (hf : X.fn x = true ∨ X.env.scope.names.lookup x = some .local := by first | exact .inl rfl | exact .inr rfl) : VB X (.Assign [.Name x pos'] e pos :: r) (sSet j S Rs) := .mk fun us h D ρ Z M s i =>
  bx_asg (ha.run s i fun u h1 ρ1 M1 q e1 i1 s1 q1 => by
    rw [q1]
    refine gx_name j hN ?_ hi hx hf
    rw [← toRs_set]
    exact hb.run q e1 ⟨i1.pm, i1.gd, i1.st.set s1⟩) hs hsw
/-- if -/
def sIfS (T : ST) (A B R : SB) : SB := fun us h D => T us h fun k h1 => If k (A us h1 { D with nx := fun us h => R us h D }) (B us h1 { D with nx := fun us h => R us h D })
theorem toPo_then (hb : VB X r Rs) (e : Ext ρ ρ1) {A : List Stmt} {ds : List R} (q : BX X A ds M (toPo ρ1 Z { D with nx := fun us h => Rs us h D })) : BX X A ds M ((toPo ρ Z D).then X r) :=
  q.mono (fun ds M' ⟨us', h', ρ', e', ex, i', z⟩ => by subst e'; exact hb.run z (e.trans ex) i') (fun _ _ z => z.up e) (fun _ _ z => z.up e) (fun _ _ z => z.up e)
theorem vb_if (hc : VT X c T1) (hA : VB X sA As) (hB : VB X sB Bs) (hb : VB X r Rs) : VB X (.If c sA sB pos :: r) (sIfS T1 As Bs Rs) := .mk fun us h D ρ Z M s i =>
  bx_if (hc.run s i fun k h1 ρ1 M1 q e1 i1 q1 => by
    rw [q1]
    exact if_of q (fun q => toPo_then hb e1 (hA.out us h1 _ ρ1 Z M1 q i1)) fun q => toPo_then hb e1 (hB.out us h1 _ ρ1 Z M1 q i1))
/-- .. the ways joined behind it -/
def sIfC (T : ST) (A B R : SB) : SB := fun us h D => ∃ J : List U → Hq → Prop, (T us h fun k h1 => If k (A us h1 { D with nx := J }) (B us h1 { D with nx := J })) ∧ ∀ us1 h1, J us1 h1 → ∃ us2, Wku us1 us2 ∧ R us2 h1 D
theorem vb_ifC (hc : VT X c T1) (hA : VB X sA As) (hB : VB X sB Bs) (hb : VB X r Rs) : VB X (.If c sA sB pos :: r) (sIfC T1 As Bs Rs) := .mk fun us h D ρ Z M ⟨J, s, w⟩ i =>
  bx_cut (SPost ρ Z J) (sx_if (hc.run s i fun k h1 ρ1 M1 q e1 i1 q1 => by
    rw [q1]
    exact if_of q (fun q => bx_up (D := { D with nx := J }) e1 (hA.out us h1 _ ρ1 Z M1 q i1)) fun q => bx_up (D := { D with nx := J }) e1 (hB.out us h1 _ ρ1 Z M1 q i1))) fun ds M' ⟨us', h', ρ', e', ex, i', z⟩ => by
    subst e'
    obtain ⟨us2, w2, q⟩ := w us' h' z
    exact bx_weak w2.wk (hb.run q ex ⟨i'.pm, i'.gd, w2.st i'.st⟩)
/-- straight on through an if -/
theorem ifC_on {us : List U} {h : Hq} {D : Pq} (s : sIfS T1 As Bs Rs us h D) : sIfC T1 As Bs Rs us h D := ⟨fun us h => Rs us h D, s, fun us1 h1 q => ⟨us1, Wku.refl _, q⟩⟩
end
end Vq
/-! Vc9: walks, loops, comprehensions. -/
namespace Vq
open PySem PySem.Spec PyProof.Rows L2 Hq
/-! ### targets -/
inductive Tg where
  | nm (i : Nat)
  | tp (ts : List Tg)
def uns : U → Option (List U)
  | .d (.tuple xs) => some (xs.map U.d)
  | .t vs => some vs
  | _ => none
mutual
def asg : Tg → U → List U → Option (List U)
  | .nm i, x, us => some (us.set i x)
  | .tp ts, x, us => match uns x with
    | some vs => asgs ts vs us
    | none => none
def asgs : List Tg → List U → List U → Option (List U)
  | [], [], us => some us
  | t :: ts, v :: vs, us => match asg t v us with
    | some us1 => asgs ts vs us1
    | none => none
  | _, _, _ => none
end
mutual
def gOf (K : PySem.W.Frag) : Tg → TG
  | .nm i => gName i
  | .tp ts => gTup K ts.length (gOfs K ts)
def gOfs (K : PySem.W.Frag) : List Tg → TGs
  | [] => gNil
  | t :: ts => gCons (gOf K t) (gOfs K ts)
end
mutual
def inT (vs : List Nat) : Tg → Bool
  | .nm i => vs.contains i
  | .tp ts => inTs vs ts
def inTs (vs : List Nat) : List Tg → Bool
  | [] => true
  | t :: ts => inT vs t && inTs vs ts
end
theorem uns_isT {ρ : List Ar} {u : U} {vs : List U} (s : StU ρ u) (e : uns u = some vs) : (∀ M, IsT M (toR ρ u) (toRs ρ vs)) ∧ Sts ρ vs := by
  unfold uns at e
  split at e
  · cases e; rw [toR_d, toRs_d]; exact ⟨fun M => .fz _, .ds _⟩
  · cases e; rw [toR_t]; exact ⟨fun M => .pt _, s.parts⟩
  · cases e
mutual
theorem asg_st {ρ : List Ar} : ∀ (t : Tg) (x : U) (us us1 : List U), asg t x us = some us1 → StU ρ x → Sts ρ us → Sts ρ us1
  | .nm i, x, us, us1, e, sx, s => by simp only [asg] at e; cases e; exact s.set sx
  | .tp ts, x, us, us1, e, sx, s => by
    simp only [asg] at e
    split at e
    · rename_i vs ev
      exact asgs_st ts vs us us1 e (uns_isT sx ev).2 s
    · cases e
theorem asgs_st {ρ : List Ar} : ∀ (ts : List Tg) (vs us us1 : List U), asgs ts vs us = some us1 → Sts ρ vs → Sts ρ us → Sts ρ us1
  | [], [], us, us1, e, sx, s => by simp only [asgs] at e; cases e; exact s
  | t :: ts, v :: vs, us, us1, e, sx, s => by
    simp only [asgs] at e
    split at e
    · rename_i us2 e2
      exact asgs_st ts vs us2 us1 e (fun u hu => sx u (List.mem_cons_of_mem _ hu)) (asg_st t v us us2 e2 (sx v List.mem_cons_self) s)
    · cases e
  | [], _ :: _, us, us1, e, _, _ => by simp [asgs] at e
  | _ :: _, [], us, us1, e, _, _ => by simp [asgs] at e
end
/-- a row of targets of a comprehension -/
def TgsS (K : PySem.W.Frag) (g : TGs) (vs : List Nat) (rs ds ds' : List R) : Prop := ∀ xs σ F M H (Z : L2.St → Hp → Prop), Sta K σ ds M F H → Rrs K F xs rs → (∀ σ2, Sta K σ2 ds' M F H → wipe σ2 vs = wipe σ vs → Z σ2 H) → g xs σ H Z
mutual
theorem tg_ok {K : PySem.W.Frag} {ρ : List Ar} {own : List Nat} : ∀ (t : Tg) (x : U) (us us1 : List U), inT own t = true → asg t x us = some us1 → StU ρ x → TgS K (gOf K t) own (toR ρ x) (toRs ρ us) (toRs ρ us1)
  | .nm i, x, us, us1, hi, e, sx => by
    simp only [asg] at e; cases e
    rw [toRs_set]
    simp only [gOf]
    exact tgS_name (by simpa [inT] using hi)
  | .tp ts, x, us, us1, hi, e, sx => by
    simp only [asg] at e
    simp only [inT] at hi
    split at e
    · rename_i vs ev
      obtain ⟨h1, h2⟩ := uns_isT sx ev
      have ih := tgs_ok (K := K) (ρ := ρ) ts vs us us1 hi e h2
      simp only [gOf]
      intro v σ F M H Z s w k
      obtain ⟨p, xs, rfl, a, b⟩ := (h1 M).get s.ms w
      refine ⟨p, xs, rfl, SqT.of a, ?_, ih.2 xs σ F M H Z s b k⟩
      rw [b.length, toRs_len]
      exact ih.1
    · cases e
theorem tgs_ok {K : PySem.W.Frag} {ρ : List Ar} {own : List Nat} : ∀ (ts : List Tg) (vs us us1 : List U), inTs own ts = true → asgs ts vs us = some us1 → Sts ρ vs → vs.length = ts.length ∧ TgsS K (gOfs K ts) own (toRs ρ vs) (toRs ρ us) (toRs ρ us1)
  | [], [], us, us1, hi, e, sx => by
    simp only [asgs] at e; cases e
    refine ⟨rfl, fun xs σ F M H Z s w k => ?_⟩
    simp only [toRs] at w
    cases w
    simp only [gOfs]
    exact ⟨rfl, k σ s rfl⟩
  | t :: ts, v :: vs, us, us1, hi, e, sx => by
    simp only [inTs, Bool.and_eq_true] at hi
    simp only [asgs] at e
    split at e
    · rename_i us2 e2
      have h1 := tg_ok (K := K) (ρ := ρ) t v us us2 hi.1 e2 (sx v List.mem_cons_self)
      obtain ⟨l, h2⟩ := tgs_ok (K := K) (ρ := ρ) ts vs us2 us1 hi.2 e fun u hu => sx u (List.mem_cons_of_mem _ hu)
      refine ⟨by simp [l], fun xs σ F M H Z s w k => ?_⟩
      simp only [toRs] at w
      cases w with
      | @cons y _ ys _ w1 w2 =>
        simp only [gOfs]
        exact ⟨y, ys, rfl, h1 y σ F M H _ s w1 fun σ2 s2 e3 => h2 ys σ2 F M H Z s2 w2 fun σ3 s3 e4 => k σ3 s3 (e4.trans e3)⟩
    · cases e
  | [], _ :: _, us, us1, _, e, _ => by simp [asgs] at e
  | _ :: _, [], us, us1, _, e, _ => by simp [asgs] at e
end
/-! ### walks -/
abbrev Kp := Option (Nat × List U)
def kOk (kp : Kp) (h : Hq) (P : Prop) : Prop := match kp with
  | none => P
  | some z => els h (.c z.1) = some z.2 ∧ P
def kpH (kp : Kp) (h : Hq) : Prop := match kp with
  | none => True
  | some z => els h (.c z.1) = some z.2
theorem kOk_iff {kp : Kp} {h : Hq} {P : Prop} : kOk kp h P ↔ kpH kp h ∧ P := by cases kp <;> simp [kOk, kpH]
abbrev SI := List U → Hq → (List U → Kp → Hq → Prop) → Prop
structure VI (X : Cx) (tg iter : Expr) (S : SI) : Prop where
  out : ∀ us h Q ρ Z M, S us h Q → In ρ h Z M us → IX X tg iter (toRs ρ us) M fun rs keep M' => ∃ items kp h' ρ', rs = toRs ρ' items ∧ Ext ρ ρ' ∧ In ρ' h' Z M' us ∧ Sts ρ' items ∧ (∀ ρ2 h2 M2 us2, Ext ρ' ρ2 → In ρ2 h2 Z M2 us2 → kpH kp h2 → keep M2) ∧ kpH kp h' ∧ Q items kp h'
section
variable {X : Cx} {e a b c tg iter elt : Expr} {es ifs : List Expr} {us : List U} {h : Hq} {ρ ρ1 ρ2 : List Ar} {Z M : Mem} {pos p p2 : Pos} {S A B C : SE} {T1 T2 : ST} {Rs As Bs : SB} {r r1 r2 sA sB body : List Stmt} {D : Pq} {I : SI}
/-- over a list -/
def iList (S : SE) : SI := fun us h Q => S us h fun u h1 => match u with
  | .d (.list xs) => Q (xs.map U.d) none h1
  | .s ns => Q (ns.map fun n => .d (.int n)) none h1
  | .c n => match els h1 (.c n) with
    | some vs => Q vs (some (n, vs)) h1
    | none => False
  | _ => False
theorem cell_of {n : Nat} {vs : List U} (i : In ρ h Z M us) (e : els h (.c n) = some vs) : ∃ p, toR ρ (.c n) = .v (.ref p) ∧ (p, Cell.lst (toRs ρ vs)) ∈ M := by
  have k := (els_isL i e).1
  rw [toR_c] at k ⊢
  unfold ad at k ⊢
  split at k
  · rename_i a ea
    cases k with
    | cl k => exact ⟨_, rfl, k⟩
  · exact nomatch k
theorem toR_keep {n : Nat} {p : Addr} (s : StU ρ (.c n)) (e : Ext ρ ρ1) (q : toR ρ (.c n) = .v (.ref p)) : toR ρ1 (.c n) = .v (.ref p) := by rw [s.st _ e, q]
theorem vi_list (ha : VE X e S) : VI X tg e (iList S) := .mk fun us h Q ρ Z M s i => ix_list (ha.run s i fun u h1 ρ1 M1 k e1 i1 s1 q1 => by
  split at k
  · rename_i xs
    exact ⟨toRs ρ1 (xs.map U.d), .inl ⟨by rw [toR_d, toRs_d]; exact .fz _, _, none, h1, ρ1, rfl, e1, i1, .ds _, fun _ _ _ _ _ _ _ => trivial, trivial, k⟩⟩
  · rename_i ns
    refine ⟨toRs ρ1 (ns.map fun n => U.d (.int n)),   .inl ⟨?_, _, none, h1, ρ1, rfl, e1, i1, ?_, fun _ _ _ _ _ _ _ => trivial, trivial, k⟩⟩
    · rw [show (ns.map fun n => U.d (.int n)) = (ns.map PyData.int).map U.d by rw [List.map_map]; rfl, toRs_d, toR_s, List.map_map]
      exact .sc ns
    · rw [show (ns.map fun n => U.d (.int n)) = (ns.map PyData.int).map U.d by rw [List.map_map]; rfl]
      exact .ds _
  · rename_i n
    split at k
    · rename_i vs ev
      obtain ⟨p, q2, q3⟩ := cell_of i1 ev
      have sv := (els_isL i1 ev).2
      refine ⟨toRs ρ1 vs, .inr ⟨p, q2, q3, vs, some (n, vs), h1, ρ1, rfl, e1, i1, sv, fun ρ2 h2 M2 us2 e2 i2 k2 => ?_, ev, k⟩⟩
      obtain ⟨p', q4, q5⟩ := cell_of i2 (show els h2 (.c n) = some vs from k2)
      rw [toR_keep s1 e2 q2] at q4
      cases q4
      rw [toRs_st sv e2] at q5
      exact q5
    · exact k.elim
  · exact k.elim)
/-- over range(n) -/
def rgU (n : Nat) : List U := (List.range n).map fun (i : Nat) => U.d (.int (i : Int))
theorem rgU_R (n : Nat) : toRs ρ (rgU n) = rgR n := by
  unfold rgU rgR
  rw [toRs_map, List.map_map]
  refine List.map_congr_left fun i _ => ?_
  show toR ρ (.d (.int i)) = _
  rw [toR_d]; rfl
theorem rgU_st (n : Nat) : Sts ρ (rgU n) := fun u hu => by
  obtain ⟨x, _, rfl⟩ := List.mem_map.mp hu
  exact .d _
def iRange (S : SE) : SI := fun us h Q => S us h fun u h1 => match u with
  | .d (.int n) => n < 2 ^ 62 ∧ -(2 ^ 62) ≤ n ∧ Q (rgU n.toNat) none h1
  | _ => False
theorem vi_range (hm : X.mg "range" = none) (ha : VE X e S) (hg : Gl X "range" := by rfl) (hs : starEach [e] X.env = [(false, eval e X.env)] := by exact st_any rfl) : VI X tg (.Call (.Name "range" p) [e] [] pos) (iRange S) := .mk fun us h Q ρ Z M s i => ix_range hm (ha.run s i fun u h1 ρ1 M1 k e1 i1 s1 q1 => by
  split at k
  · rename_i n
    rw [toR_d]
    exact ⟨n, rfl, k.1, k.2.1, rgU n.toNat, none, h1, ρ1, (rgU_R _).symm, e1, i1, rgU_st _, fun _ _ _ _ _ _ _ => trivial, trivial, k.2.2⟩
  · exact k.elim) hg hs
/-- over enumerate(list) -/
def enU (xs : List PyData) : List U := (List.range xs.length).map fun (i : Nat) => U.t [.d (.int (i : Int)), .d (xs.getD i .none)]
def iEnum (S : SE) : SI := fun us h Q => S us h fun u h1 => match u with
  | .d (.list xs) => Q (enU xs) none h1
  | _ => False
theorem vi_enum {elts : List Expr} {kk : Nat} {tpos : Pos} (hm : X.mg "enumerate" = none) (ha : VE X e S) (gl : Gl X "enumerate" := by rfl)
    (he : starEach [e] X.env = [(false, eval e X.env)] := by exact st_any rfl) : VI X (.Tuple elts kk tpos) (.Call (.Name "enumerate" p) [e] [] pos) (iEnum S) := .mk fun us h Q ρ Z M s i => ix_enum hm (ha.run s i fun u h1 ρ1 M1 k e1 i1 s1 q1 => by
  split at k
  · rename_i xs
    rw [toR_d]
    refine ⟨xs.map R.d, .fz _, enU xs, none, h1, ρ1, ?_, e1, i1, ?_, fun _ _ _ _ _ _ _ => trivial, trivial, k⟩
    · unfold enU
      rw [toRs_map, List.map_map, List.length_map]
      refine List.map_congr_left fun i hi => ?_
      have hi := List.mem_range.mp hi
      show _ = toR ρ1 (.t [.d (.int i), .d (xs.getD i .none)])
      rw [toR_t]
      simp [toRs, toR_d, List.getD_eq_getElem?_getD, hi]
      rfl
    · intro u hu
      obtain ⟨x, _, rfl⟩ := List.mem_map.mp hu
      exact .t (Sts.cons (.d _) (Sts.cons (.d _) .nil))
  · exact k.elim) gl he
/-- over zip of two lists of one length -/
def zpU (xs ys : List PyData) : List U := (List.range xs.length).map fun (i : Nat) => U.t [.d (xs.getD i .none), .d (ys.getD i .none)]
def iZip (S1 S2 : SE) : SI := fun us h Q => S1 us h fun u h1 => S2 us h1 fun v h2 => match u, v with
  | .d (.list xs), .d (.list ys) => xs.length = ys.length ∧ Q (zpU xs ys) none h2
  | _, _ => False
theorem vi_zip {elts : List Expr} {kk : Nat} {tpos : Pos} (hm : X.mg "zip" = none) (ha : VE X a A) (hb : VE X b B) (gl : Gl X "zip" := by rfl)
    (hp : ∀ {ta : TA}, X.mg "zip" = none → PA X [a, b] ta → PI X (.Tuple elts kk tpos) (.Call (.Name "zip" p) [a, b] [] pos) (RZ.iZipA X.K ta) := by intro _ hm h; exact RZ.pi_zipA rfl hm h)
    (he : starEach [a, b] X.env = (false, eval a X.env) :: starEach [b] X.env := by exact st_any rfl) (he2 : starEach [b] X.env = (false, eval b X.env) :: starEach [] X.env := by exact st_any rfl) : VI X (.Tuple elts kk tpos) (.Call (.Name "zip" p) [a, b] [] pos) (iZip A B) := .mk fun us h Q ρ Z M s i =>
  ix_zip hm (ha.run s i fun u h1 ρ1 M1 k e1 i1 s1 q1 => by
    rw [q1]
    refine hb.run k i1 fun v h2 ρ2 M2 k2 e2 i2 s2 q2 => ?_
    clear k
    have k := k2
    clear k2
    split at k
    · rename_i xs ys
      rw [toR_d, toR_d]
      refine ⟨xs.map R.d, ys.map R.d, .inl ⟨.fz _, .fz _⟩, by simp [k.1], zpU xs ys, none, h2, ρ2, ?_, e1.trans e2, i2, ?_, fun _ _ _ _ _ _ _ => trivial, trivial, k.2⟩
      · unfold zpU
        rw [toRs_map, List.map_map, List.length_map]
        refine List.map_congr_left fun i hi => ?_
        have hi := List.mem_range.mp hi
        show _ = toR ρ2 (.t [.d (xs.getD i .none), .d (ys.getD i .none)])
        rw [toR_t]
        simp [toRs, toR_d, List.getD_eq_getElem?_getD, hi, show i < ys.length by omega]
      · intro u hu
        obtain ⟨x, _, rfl⟩ := List.mem_map.mp hu
        exact .t (Sts.cons (.d _) (Sts.cons (.d _) .nil))
    · exact k.elim) gl hp he he2
/-! ### loops -/
def lp (kp : Kp) (t : Tg) (body R : SB) (D : Pq) : List U → List U → Hq → Prop
  | [], us, h => kOk kp h (R us h D)
  | x :: xs, us, h => kOk kp h (match asg t x us with
    | some us1 => body us1 h { nx := fun us2 h2 => ∃ us3, Wku us2 us3 ∧ lp kp t body R D xs us3 h2, rt := D.rt, bk := fun us h => R us h D, ct := fun us2 h2 => ∃ us3, Wku us2 us3 ∧ lp kp t body R D xs us3 h2 }
    | none => False)
theorem lp_kp {kp : Kp} {t : Tg} {bd R : SB} {D : Pq} {xs us : List U} {h : Hq} (s : lp kp t bd R D xs us h) : kpH kp h := by
  cases xs with
  | nil => exact (kOk_iff.mp s).1
  | cons x xs => exact (kOk_iff.mp s).1
def sFor (I : SI) (t : Tg) (body R : SB) : SB := fun us h D => I us h fun items kp h1 => ∃ us1, Wku us us1 ∧ lp kp t body R D items us1 h1
/-- a target that stores as told -/
structure VG (X : Cx) (tg : Expr) (t : Tg) : Prop where
  out : ∀ (x : U) us us1 ρ ds' M (Q : List R → Mem → Prop), asg t x us = some us1 → StU ρ x → ds' = toRs ρ us → Q (toRs ρ us1) M → GX X tg (toR ρ x) ds' M Q
structure VGs (X : Cx) (tg : List Expr) (ts : List Tg) : Prop where
  out : ∀ (xs : List U) us us1 ρ ds' M (Q : List R → Mem → Prop), asgs ts xs us = some us1 → Sts ρ xs → ds' = toRs ρ us → Q (toRs ρ us1) M → GsX X tg (toRs ρ xs) ds' M Q
theorem vg_name (i : Nat) {x : Str} (hN : X.N.Nodup) (hi : X.N[i]? = some x := by rfl) (hx : Loc X.env.scope x := by first | exact Or.inl rfl | exact Or.inr rfl) (hf : X.fn x = true ∨ X.env.scope.names.lookup x = some .local := by first | exact .inl rfl | exact .inr rfl) : VG X (.Name x pos) (.nm i) := .mk fun y us us1 ρ ds' M Q e s ed q => by
  simp only [asg] at e; cases e
  subst ed
  refine gx_name i hN ?_ hi hx hf
  rw [← toRs_set]
  exact q
theorem vgs_nil : VGs X [] [] := .mk fun xs us us1 ρ ds' M Q e s ed q => by
  cases xs with
  | nil => simp only [asgs] at e; cases e; subst ed; simp only [toRs]; exact gsx_nil q
  | cons _ _ => simp [asgs] at e
theorem vgs_cons {tgs : List Expr} {t : Tg} {ts : List Tg} (h1 : VG X tg t) (h2 : VGs X tgs ts) (hs : (assignEach (tg :: tgs) X.env).map (·.2) = assign tg X.env :: (assignEach tgs X.env).map (·.2) := by exact as_any rfl) : VGs X (tg :: tgs) (t :: ts) := .mk fun xs us us1 ρ ds' M Q e s ed q => by
  cases xs with
  | nil => simp [asgs] at e
  | cons x xs =>
    simp only [asgs] at e
    split at e
    · rename_i us2 e2
      simp only [toRs]
      refine gsx_cons (h1.out x us us2 ρ ds' M _ e2 (s x List.mem_cons_self) ed ?_) hs
      exact h2.out xs us2 us1 ρ _ M Q e (fun u hu => s u (List.mem_cons_of_mem _ hu)) rfl q
    · cases e
theorem asgs_len : ∀ {ts : List Tg} {xs us us1 : List U}, asgs ts xs us = some us1 → xs.length = ts.length
  | [], [], _, _, _ => rfl
  | t :: ts, x :: xs, us, us1, e => by
    simp only [asgs] at e
    split at e
    · rename_i us2 e2
      simp [asgs_len e]
    · cases e
  | [], _ :: _, _, _, e => by simp [asgs] at e
  | _ :: _, [], _, _, e => by simp [asgs] at e
theorem vg_tup {k n : Nat} {ts : List Tg} (hc : X.calm = true) (h : VGs X es ts) (hl : ts.length = n := by rfl) (hn : (assignEach es X.env).length = n := by rfl) (hst : (assignEach es X.env).findIdx? (·.1) = none := by rfl) : VG X (.Tuple es k pos) (.tp ts) := .mk fun x us us1 ρ ds' M Q e s ed q => by
  simp only [asg] at e
  split at e
  · rename_i vs ev
    obtain ⟨h1, h2⟩ := uns_isT s ev
    exact gx_tup hc (h1 M) (h.out vs us us1 ρ ds' M Q e h2 ed q) (by rw [hn, toRs_len, asgs_len e, hl]) hst
  · cases e
theorem gx_weak {tg : Expr} {r : R} {ds ds' : List R} {Q : List R → Mem → Prop} (w : Wk ds ds') (g : GX X tg r ds' M Q) : GX X tg r ds M Q := fun σ F H v s z => g σ F H v ⟨s.sl.weak w, s.ms⟩ z
theorem vb_for {t : Tg} (hc : X.calm = true) (hp : PassesOwn (model X.prog X.w) X.A X.env X.xe) (hi : VI X tg iter I) (hg : VG X tg t) (hB : VB X body Bs) (hb : VB X r Rs) (hs : ∀ x, foldedSetIterable iter X.env x = pure x := by intro _; rfl) : VB X (.For tg iter body [] pos :: r) (sFor I t Bs Rs) := .mk fun us h D ρ Z M s i =>
  bx_for hc hp (fun σ F H st => cI_mono (hi.out us h _ ρ Z M s i σ F H st) fun J H1 ⟨F1, M1, rs, keep, wk, ⟨items, kp, h1, ρ1, er, e1, i1, si, hk, k0, us1, w1, q⟩, k1, m1, g1⟩ => by
    subst er
    refine ⟨F1, M1, _, keep, wk, ⟨fun j ds M' => ∃ usa usb h' ρ', ds = toRs ρ' usa ∧ Ext ρ1 ρ' ∧ Wku usa usb ∧ In ρ' h' Z M' usa ∧ lp kp t Bs Rs D (items.drop j) usb h', ?_, ?_, ?_, ?_⟩, k1, m1, g1⟩
    · exact ⟨us, us1, h1, ρ1, (i.rs e1).symm, Ext.refl _, w1, i1, by rw [List.drop_zero]; exact q⟩
    · rintro j ds M' ⟨usa, usb, h', ρ', e', ex, w, i', q⟩
      exact hk ρ' h' M' usa ex i' (lp_kp q)
    · rintro j x ds M' hx ⟨usa, usb, h', ρ', e', ex, w, i', q⟩
      subst e'
      have hj : j < items.length := by
        have := (List.getElem?_eq_some_iff.mp hx).1
        rwa [toRs_len] at this
      rw [List.drop_eq_getElem_cons hj] at q
      have q := (kOk_iff.mp q).2
      have ex2 : x = toR ρ' items[j] := by
        have h2 := toRs_get (ρ := ρ1) (show items[j]? = some items[j] by simp [hj])
        rw [h2] at hx
        cases hx
        rw [(si _ (List.getElem_mem hj)).st _ ex]
      subst ex2
      split at q
      · rename_i usc ec
        have sj := (si _ (List.getElem_mem hj)).up ex
        have stb := w.st i'.st
        refine gx_weak w.wk (hg.out items[j] usb usc ρ' _ M' _ ec sj rfl ?_)
        have ic : In ρ' h' Z M' usc := ⟨i'.pm, i'.gd, asg_st t _ _ _ ec sj stb⟩
        refine (hB.out usc h' _ ρ' Z M' q ic).mono ?_ ?_ ?_ ?_
        · rintro ds2 M2 ⟨us2, h2, ρ2, e2, x2, i2, us3, w3, q3⟩
          exact ⟨us2, us3, h2, ρ2, e2, ex.trans x2, w3, i2, q3⟩
        · exact fun _ _ z => z.up (e1.trans ex)
        · rintro ds2 M2 ⟨us2, h2, ρ2, e2, x2, i2, q3⟩
          subst e2
          exact hb.run q3 ((e1.trans ex).trans x2) i2
        · rintro ds2 M2 ⟨us2, h2, ρ2, e2, x2, i2, us3, w3, q3⟩
          exact ⟨us2, us3, h2, ρ2, e2, ex.trans x2, w3, i2, q3⟩
      · exact q.elim
    · rintro ds M' ⟨usa, usb, h', ρ', e', ex, w, i', q⟩
      subst e'
      rw [toRs_len, List.drop_length] at q
      have q := (kOk_iff.mp q).2
      exact bx_weak w.wk (hb.run q (e1.trans ex) ⟨i'.pm, i'.gd, w.st i'.st⟩)) hs
/-! while -/
def wl (C : ST) (body R : SB) (D : Pq) : Nat → List U → Hq → Prop
  | 0, _, _ => False
  | n + 1, us, h => C us h fun b h1 => If b (body us h1 { nx := fun us2 h2 => ∃ us3, Wku us2 us3 ∧ wl C body R D n us3 h2, rt := D.rt, bk := fun us h => R us h D, ct := fun us2 h2 => ∃ us3, Wku us2 us3 ∧ wl C body R D n us3 h2 }) (R us h1 D)
def sWhile (C : ST) (body R : SB) : SB := fun us h D => ∃ us1 n, Wku us us1 ∧ wl C body R D n us1 h
theorem vb_while (hp : PassesOwn (model X.prog X.w) X.A X.env X.xe) (hc : VT X c T1) (hB : VB X body Bs) (hb : VB X r Rs) : VB X (.While c body [] pos :: r) (sWhile T1 Bs Rs) := .mk fun us h D ρ Z M ⟨us1, n, w1, s⟩ i =>
  bx_while hp (fun ds M' m => ∃ usa usb h' ρ', ds = toRs ρ' usa ∧ Ext ρ ρ' ∧ Wku usa usb ∧ In ρ' h' Z M' usa ∧ wl T1 Bs Rs D m usb h') n ⟨us, us1, h, ρ, rfl, Ext.refl _, w1, i, s⟩ fun ds M' m ⟨usa, usb, h', ρ', e', ex, w, i', q⟩ => by
    subst e'
    cases m with
    | zero => exact q.elim
    | succ m =>
      have ib : In ρ' h' Z M' usb := ⟨i'.pm, i'.gd, w.st i'.st⟩
      have tw : ∀ {Q : Bool → Mem → Prop}, TX X c (toRs ρ' usb) M' Q → TX X c (toRs ρ' usa) M' Q := fun t σ F H st => t σ F H ⟨st.sl.weak w.wk, st.ms⟩
      refine tw ((hc.run q ib) fun b h2 ρ2 M2 q2 e2 i2 q3 => ?_)
      have wk2 : Wk (toRs ρ' usa) (toRs ρ2 usb) := by rw [← q3]; exact w.wk
      refine if_of q2 (fun q2 => ?_) fun q2 => bx_weak wk2 (hb.run q2 (ex.trans e2) i2)
      refine bx_weak wk2 ((hB.out usb h2 _ ρ2 Z M2 q2 i2).mono ?_ ?_ ?_ ?_)
      · rintro ds3 M3 ⟨us3, h3, ρ3, e3, x3, i3, us4, w4, q4⟩
        exact ⟨m, Nat.lt_succ_self m, us3, us4, h3, ρ3, e3, (ex.trans e2).trans x3, w4, i3, q4⟩
      · exact fun _ _ z => z.up (ex.trans e2)
      · rintro ds3 M3 ⟨us3, h3, ρ3, e3, x3, i3, q4⟩
        subst e3
        exact hb.run q4 ((ex.trans e2).trans x3) i3
      · rintro ds3 M3 ⟨us3, h3, ρ3, e3, x3, i3, us4, w4, q4⟩
        exact ⟨m, Nat.lt_succ_self m, us3, us4, h3, ρ3, e3, (ex.trans e2).trans x3, w4, i3, q4⟩
end
end Vq
/-! Vc10: list comprehensions; a def's body. -/
namespace Vq
open PySem PySem.Spec PyProof.Rows L2 Hq
def wipeU (us : List U) : List Nat → List U
  | [] => us
  | v :: vs => (wipeU us vs).set v .no
theorem wipeU_R {ρ : List Ar} (us : List U) : ∀ vs : List Nat, toRs ρ (wipeU us vs) = wipeR (toRs ρ us) vs
  | [] => rfl
  | v :: vs => by rw [wipeU, wipeR, toRs_set, wipeU_R us vs, toR_no]
theorem wipeU_st {ρ : List Ar} {us : List U} (s : Sts ρ us) : ∀ vs : List Nat, Sts ρ (wipeU us vs)
  | [] => s
  | v :: vs => (wipeU_st s vs).set .no
/-- element by element -/
def lc (kp : Kp) (t : Tg) (E : SE) (us : List U) (Q : List U → Hq → Prop) : List U → List U → Hq → Prop
  | [], acc, h => kOk kp h (Q acc h)
  | x :: xs, acc, h => kOk kp h (match asg t x us with
    | some us1 => E us1 h fun y h2 => lc kp t E us Q xs (acc ++ [y]) h2
    | none => False)
def lcf (kp : Kp) (t : Tg) (T : ST) (E : SE) (us : List U) (Q : List U → Hq → Prop) : List U → List U → Hq → Prop
  | [], acc, h => kOk kp h (Q acc h)
  | x :: xs, acc, h => kOk kp h (match asg t x us with
    | some us1 => T us1 h fun k h1 => If k (E us1 h1 fun y h2 => lcf kp t T E us Q xs (acc ++ [y]) h2) (lcf kp t T E us Q xs acc h1)
    | none => False)
/-- what becomes of the elements: data -/
def ofD (Q : U → Hq → Prop) : List U → Hq → Prop := fun acc h => ∃ ys : List PyData, acc = ys.map U.d ∧ Q (.d (.list ys)) h
def OfL : Ob → List U → Prop
  | .ld ys, acc => acc = ys.map U.d
  | .ls vs, acc => vs = acc
  | _, _ => False
/-- .. a new cell -/
def ofC (Q : U → Hq → Prop) : List U → Hq → Prop := fun acc h => ∃ o, OfL o acc ∧ Q (.c h.length) (h ++ [o])
def sLc (own : List Nat) (I : SI) (t : Tg) (E : SE) : SE := fun us h Q => I us h fun items kp h1 => items.length ≤ sizeLine ∧ lc kp t E (wipeU us own) (ofD Q) items [] h1
def sLcf (own : List Nat) (I : SI) (t : Tg) (T : ST) (E : SE) : SE := fun us h Q => I us h fun items kp h1 => items.length ≤ sizeLine ∧ lcf kp t T E (wipeU us own) (ofD Q) items [] h1
def sLcC (own : List Nat) (I : SI) (t : Tg) (E : SE) : SE := fun us h Q => I us h fun items kp h1 => items.length ≤ sizeLine ∧ lc kp t E (wipeU us own) (ofC Q) items [] h1
def sLcfC (own : List Nat) (I : SI) (t : Tg) (T : ST) (E : SE) : SE := fun us h Q => I us h fun items kp h1 => items.length ≤ sizeLine ∧ lcf kp t T E (wipeU us own) (ofC Q) items [] h1
theorem new_postO {ρ : List Ar} {Z M : Mem} {h : Hq} {us : List U} {Q : U → Hq → Prop} {vs : List U} {o : Ob} (k : OfL o vs) (i : In ρ h Z M us) (s : Sts ρ vs) (q : Q (.c h.length) (h ++ [o])) : ∀ p, VPost ρ Z Q (.v (.ref p)) (M ++ (p, .lst (toRs ρ vs)) :: []) := fun p => by
  have ex := Ext.app ρ [(p, [])]
  have hs : StO (ρ ++ [(p, [])]) o ∧ ShO (p, []) o ∧ mem1 (ρ ++ [(p, [])]) (p, []) o = [(p, .lst (toRs ρ vs))] := by
    cases o with
    | ld ys =>
      have k : vs = ys.map U.d := k
      subst k
      exact ⟨trivial, trivial, by rw [toRs_d]; rfl⟩
    | ls ws =>
      have k : ws = vs := k
      subst k
      refine ⟨s.up ex, trivial, ?_⟩
      rw [← toRs_st s ex, toRs_map]
      rfl
    | dead => exact k.elim
    | ex _ => exact k.elim
    | ll _ => exact k.elim
    | ins _ _ _ => exact k.elim
    | dT _ => exact k.elim
    | dK _ => exact k.elim
  refine ⟨.c h.length, h ++ [o], ρ ++ [(p, [])], ?_, ?_, ex, i.gd.new hs.1 hs.2.1, .c (by simp [i.gd.len]), q⟩
  · rw [toR_c, ad_of (a := (p, [])) (by rw [← i.gd.len]; simp)]
  · rw [memOf_new i.gd, hs.2.2]
    refine (List.Perm.append_right _ i.pm).trans ?_
    rw [List.append_assoc, List.append_assoc]
    exact List.Perm.append_left _ List.perm_append_comm
section
variable {X : Cx} {e a b c tg iter elt : Expr} {es ifs : List Expr} {us : List U} {h : Hq} {ρ ρ1 ρ2 : List Ar} {Z M : Mem} {pos p p2 : Pos} {S A B C E : SE} {T1 T2 : ST} {Rs As Bs : SB} {r r1 r2 sA sB body : List Stmt} {D : Pq} {I : SI} {scope : Scope} {own : List (Str × Nat)} {t : Tg}
theorem lc_kp {kp : Kp} {Q : List U → Hq → Prop} {xs acc : List U} (s : lc kp t E us Q xs acc h) : kpH kp h := by cases xs <;> exact (kOk_iff.mp s).1
theorem lcf_kp {kp : Kp} {Q : List U → Hq → Prop} {xs acc : List U} (s : lcf kp t T1 E us Q xs acc h) : kpH kp h := by cases xs <;> exact (kOk_iff.mp s).1
/-- the invariant of a comprehension -/
def LcJ (ρ1 : List Ar) (Z : Mem) (us : List U) (W : Nat → List U → Hq → Prop) : Nat → List R → Mem → Prop := fun j acc M' => ∃ au h' ρ', acc = toRs ρ' au ∧ Ext ρ1 ρ' ∧ In ρ' h' Z M' us ∧ Sts ρ' au ∧ au.length ≤ j ∧ W j au h'
theorem lc_core {kp : Kp} {items : List U} {QA : List U → Hq → Prop} {h1 : Hq} {M1 : Mem} (hi : inT (own.map (·.2)) t = true) (hE : blkG X scope fun Y => VE Y elt E) (i1 : In ρ1 h1 Z M1 us) (si : Sts ρ1 items) (q : lc kp t E (wipeU us (own.map (·.2))) QA items [] h1) :
    LcJ ρ1 Z us (fun j au h' => lc kp t E (wipeU us (own.map (·.2))) QA (items.drop j) au h') 0 [] M1 ∧ LcI X scope (gOf X.K t) (own.map (·.2)) [] elt (toRs ρ1 us) (toRs ρ1 items) (LcJ ρ1 Z us (fun j au h' => lc kp t E (wipeU us (own.map (·.2))) QA (items.drop j) au h')) := by
  refine ⟨⟨[], h1, ρ1, by simp [toRs], Ext.refl _, i1, .nil, Nat.zero_le _, q⟩, ?_⟩
  rintro j r acc M' hr ⟨au, h', ρ', ea, ex, i', sa, l, q⟩
  subst ea
  have hj : j < items.length := by
    have := (List.getElem?_eq_some_iff.mp hr).1
    rwa [toRs_len] at this
  rw [List.drop_eq_getElem_cons hj] at q
  have q := (kOk_iff.mp q).2
  have er : r = toR ρ' items[j] := by
    have h2 := toRs_get (ρ := ρ1) (show items[j]? = some items[j] by simp [hj])
    rw [h2] at hr
    cases hr
    rw [(si _ (List.getElem_mem hj)).st _ ex]
  subst er
  split at q
  · rename_i us1 e1
    have sj := (si _ (List.getElem_mem hj)).up ex
    have tg := tg_ok (K := X.K) (ρ := ρ') t _ _ us1 hi e1 sj
    rw [wipeU_R, i1.rs ex] at tg
    refine ⟨_, tg, fun s H C cl fp => tsx_nil ?_⟩
    rw [if_pos rfl]
    intro s H C cl fp
    have ic : In ρ' h' Z M' us1 := ⟨i'.pm, i'.gd, asg_st t _ _ _ e1 sj (wipeU_st i'.st _)⟩
    refine ((hE s H C cl fp).out us1 h' _ ρ' Z M' q ic).mono fun y M3 ⟨u, h3, ρ3, e3, pm, e4, gd, su, q3⟩ => ?_
    subst e3
    exact ⟨au ++ [u], h3, ρ3, by rw [toRs_app, toRs_st sa e4]; simp [toRs], ex.trans e4, ⟨pm, gd, i'.st.up e4⟩, fun w hw => (List.mem_append.mp hw).elim (fun z => (sa w z).up e4) fun z => by rw [List.mem_singleton.mp z]; exact su, by simp; omega, q3⟩
  · exact q.elim
theorem lcf_core {kp : Kp} {items : List U} {QA : List U → Hq → Prop} {h1 : Hq} {M1 : Mem} (hi : inT (own.map (·.2)) t = true) (hT : blkG X scope fun Y => VT Y c T1) (hE : blkG X scope fun Y => VE Y elt E) (i1 : In ρ1 h1 Z M1 us) (si : Sts ρ1 items) (q : lcf kp t T1 E (wipeU us (own.map (·.2))) QA items [] h1) :
    LcJ ρ1 Z us (fun j au h' => lcf kp t T1 E (wipeU us (own.map (·.2))) QA (items.drop j) au h') 0 [] M1 ∧ LcI X scope (gOf X.K t) (own.map (·.2)) [c] elt (toRs ρ1 us) (toRs ρ1 items) (LcJ ρ1 Z us (fun j au h' => lcf kp t T1 E (wipeU us (own.map (·.2))) QA (items.drop j) au h')) := by
  refine ⟨⟨[], h1, ρ1, by simp [toRs], Ext.refl _, i1, .nil, Nat.zero_le _, q⟩, ?_⟩
  rintro j r acc M' hr ⟨au, h', ρ', ea, ex, i', sa, l, q⟩
  subst ea
  have hj : j < items.length := by
    have := (List.getElem?_eq_some_iff.mp hr).1
    rwa [toRs_len] at this
  rw [List.drop_eq_getElem_cons hj] at q
  have q := (kOk_iff.mp q).2
  have er : r = toR ρ' items[j] := by
    have h2 := toRs_get (ρ := ρ1) (show items[j]? = some items[j] by simp [hj])
    rw [h2] at hr
    cases hr
    rw [(si _ (List.getElem_mem hj)).st _ ex]
  subst er
  split at q
  · rename_i us1 e1
    have sj := (si _ (List.getElem_mem hj)).up ex
    have tg := tg_ok (K := X.K) (ρ := ρ') t _ _ us1 hi e1 sj
    rw [wipeU_R, i1.rs ex] at tg
    have ic : In ρ' h' Z M' us1 := ⟨i'.pm, i'.gd, asg_st t _ _ _ e1 sj (wipeU_st i'.st _)⟩
    refine ⟨_, tg, fun s H C cl fp => tsx_one ((hT s H C cl fp).run q ic fun k h2 ρ2 M2 q2 e2 i2 q3 => if_of q2 (fun q2 => ?_) fun q2 => ?_)⟩
    · intro s H C cl fp
      rw [q3]
      refine ((hE s H C cl fp).out us1 h2 _ ρ2 Z M2 q2 i2).mono fun y M3 ⟨u, h3, ρ3, e3, pm, e4, gd, su, q3⟩ => ?_
      subst e3
      have e5 := e2.trans e4
      exact ⟨au ++ [u], h3, ρ3, by rw [toRs_app, toRs_st sa e5]; simp [toRs], ex.trans e5, ⟨pm, gd, i'.st.up e5⟩, fun w hw => (List.mem_append.mp hw).elim (fun z => (sa w z).up e5) fun z => by rw [List.mem_singleton.mp z]; exact su, by simp; omega, q3⟩
    · exact ⟨au, h2, ρ2, (toRs_st sa e2).symm, ex.trans e2, ⟨i2.pm, i2.gd, i'.st.up e2⟩, sa.up e2, by omega, q2⟩
  · exact q.elim
/-- what a comprehension's elements become -/
def Fin (fin : (U → Hq → Prop) → List U → Hq → Prop) : Prop := ∀ {ρ : List Ar} {Z M : Mem} {h : Hq} {us acc : List U} {Q : U → Hq → Prop} {P : R → Mem → Prop}, fin Q acc h → In ρ h Z M us → Sts ρ acc → (∀ r M', VPost ρ Z Q r M' → P r M') → (∃ ys : List PyData, toRs ρ acc = ys.map R.d ∧ P (.d (.list ys)) M) ∨ ∃ A B, M = A ++ B ∧ ∀ q, P (.v (.ref q)) (A ++ (q, .lst (toRs ρ acc)) :: B)
theorem fin_d : Fin ofD := fun ⟨ys, e, q⟩ i s k => by
  subst e
  exact .inl ⟨ys, toRs_d _ ys, k _ _ (in_d i q)⟩
theorem fin_c : Fin ofC := fun ⟨o, e, q⟩ i s k => .inr ⟨_, [], by simp, fun p => k _ _ (new_postO e i s q p)⟩
theorem ve_lc' {fin : (U → Hq → Prop) → List U → Hq → Prop} (hf : Fin fin) (hc : X.calm = true) (hN : X.N.Nodup) (ok : BlkOk X.N X.env.scope scope own) (hg : blkG X scope fun Y => PG Y tg (gOf X.K t)) (hI : VI X tg iter I) (hE : blkG X scope fun Y => VE Y elt E) (hi : inT (own.map (·.2)) t = true) (hs : ∀ x, foldedSetIterable iter X.env x = pure x) :
    VE X (.ListComp elt [⟨tg, iter, [], 0⟩] scope pos) (fun us h Q => I us h fun items kp h1 => items.length ≤ sizeLine ∧ lc kp t E (wipeU us (own.map (·.2))) (fin Q) items [] h1) := .mk fun us h Q ρ Z M s i =>
  ex_lc hc hN ok hg (fun σ F H st => cI_mono (hI.out us h _ ρ Z M s i σ F H st) fun J H1 ⟨F1, M1, rs, keep, wk, ⟨items, kp, h1, ρ1, er, e1, i1, si, hk, k0, l, q⟩, k1, m1, g1⟩ => by
    subst er
    obtain ⟨z1, z2⟩ := lc_core hi hE i1 si q
    rw [i.rs e1] at z2
    refine ⟨F1, M1, _, keep, wk, ⟨_, z1, ?_, by rw [toRs_len]; exact l, z2, ?_⟩, k1, m1, g1⟩
    · rintro j acc M' ⟨au, h', ρ', ea, ex, i', sa, l, q⟩
      subst ea
      exact ⟨hk ρ' h' M' us ex i' (lc_kp q), by rw [toRs_len]; exact l⟩
    · rintro acc M' ⟨au, h', ρ', ea, ex, i', sa, l, q⟩
      subst ea
      rw [toRs_len, List.drop_length] at q
      exact hf (kOk_iff.mp q).2 i' sa fun r M' z => z.up (e1.trans ex)) hs
theorem ve_lcf' {fin : (U → Hq → Prop) → List U → Hq → Prop} (hf : Fin fin) (hc : X.calm = true) (hN : X.N.Nodup) (ok : BlkOk X.N X.env.scope scope own) (hg : blkG X scope fun Y => PG Y tg (gOf X.K t)) (hI : VI X tg iter I) (hT : blkG X scope fun Y => VT Y c T1) (hE : blkG X scope fun Y => VE Y elt E) (hi : inT (own.map (·.2)) t = true) (hs : ∀ x, foldedSetIterable iter X.env x = pure x) :
    VE X (.ListComp elt [⟨tg, iter, [c], 0⟩] scope pos) (fun us h Q => I us h fun items kp h1 => items.length ≤ sizeLine ∧ lcf kp t T1 E (wipeU us (own.map (·.2))) (fin Q) items [] h1) := .mk fun us h Q ρ Z M s i =>
  ex_lc hc hN ok hg (fun σ F H st => cI_mono (hI.out us h _ ρ Z M s i σ F H st) fun J H1 ⟨F1, M1, rs, keep, wk, ⟨items, kp, h1, ρ1, er, e1, i1, si, hk, k0, l, q⟩, k1, m1, g1⟩ => by
    subst er
    obtain ⟨z1, z2⟩ := lcf_core hi hT hE i1 si q
    rw [i.rs e1] at z2
    refine ⟨F1, M1, _, keep, wk, ⟨_, z1, ?_, by rw [toRs_len]; exact l, z2, ?_⟩, k1, m1, g1⟩
    · rintro j acc M' ⟨au, h', ρ', ea, ex, i', sa, l, q⟩
      subst ea
      exact ⟨hk ρ' h' M' us ex i' (lcf_kp q), by rw [toRs_len]; exact l⟩
    · rintro acc M' ⟨au, h', ρ', ea, ex, i', sa, l, q⟩
      subst ea
      rw [toRs_len, List.drop_length] at q
      exact hf (kOk_iff.mp q).2 i' sa fun r M' z => z.up (e1.trans ex)) hs
/-- x = [..] -/
theorem vb_setLc' {fin : (U → Hq → Prop) → List U → Hq → Prop} {y : Str} {py spos : Pos} (k : Nat) (hf : Fin fin) (hc : X.calm = true) (hN : X.N.Nodup) (ok : BlkOk X.N X.env.scope scope own) (hg : blkG X scope fun Y => PG Y tg (gOf X.K t)) (hI : VI X tg iter I) (hE : blkG X scope fun Y => VE Y elt E) (hb : VB X r Rs) (hi : inT (own.map (·.2)) t = true) (hs : ∀ x, foldedSetIterable iter X.env x = pure x)
    (hy : X.N[k]? = some y) (hyl : X.env.scope.names.lookup y = some .local) (hsw : swapsWith (.ListComp elt [⟨tg, iter, [], 0⟩] scope pos) (some (.Name y py)) spos.line X.env = pure true) :
    VB X (.Assign [.Name y py] (.ListComp elt [⟨tg, iter, [], 0⟩] scope pos) spos :: r) (sSet k (fun us h Q => I us h fun items kp h1 => items.length ≤ sizeLine ∧ lc kp t E (wipeU us (own.map (·.2))) (fin Q) items [] h1) Rs) := .mk fun us h D ρ Z M s i =>
  bx_setLc k hc hN ok hg (fun σ F H st => cI_mono (hI.out us h _ ρ Z M s i σ F H st) fun J H1 ⟨F1, M1, rs, keep, wk, ⟨items, kp, h1, ρ1, er, e1, i1, si, hk, k0, l, q⟩, k1, m1, g1⟩ => by
    subst er
    obtain ⟨z1, z2⟩ := lc_core hi hE i1 si q
    rw [i.rs e1] at z2
    refine ⟨F1, M1, _, keep, wk, ⟨_, z1, ?_, by rw [toRs_len]; exact l, z2, ?_⟩, k1, m1, g1⟩
    · rintro j acc M' ⟨au, h', ρ', ea, ex, i', sa, l, q⟩
      subst ea
      exact ⟨hk ρ' h' M' us ex i' (lc_kp q), by rw [toRs_len]; exact l⟩
    · rintro acc M' ⟨au, h', ρ', ea, ex, i', sa, l, q⟩
      subst ea
      rw [toRs_len, List.drop_length] at q
      refine hf (P := fun r0 M' => BX X r ((toRs ρ us).set k r0) M' (toPo ρ Z D)) (kOk_iff.mp q).2 i' sa fun r0 M' ⟨u, h2, ρ2, e2, pm, e3, gd, su, q⟩ => ?_
      subst e2
      have e4 := (e1.trans ex).trans e3
      rw [← i.rs e4, ← toRs_set]
      exact hb.run q e4 ⟨pm, gd, (i.st.up e4).set su⟩) hy hyl hsw hs
theorem vb_setLcf' {fin : (U → Hq → Prop) → List U → Hq → Prop} {y : Str} {py spos : Pos} (k : Nat) (hf : Fin fin) (hc : X.calm = true) (hN : X.N.Nodup) (ok : BlkOk X.N X.env.scope scope own) (hg : blkG X scope fun Y => PG Y tg (gOf X.K t)) (hI : VI X tg iter I) (hT : blkG X scope fun Y => VT Y c T1) (hE : blkG X scope fun Y => VE Y elt E) (hb : VB X r Rs) (hi : inT (own.map (·.2)) t = true) (hs : ∀ x, foldedSetIterable iter X.env x = pure x)
    (hy : X.N[k]? = some y) (hyl : X.env.scope.names.lookup y = some .local) (hsw : swapsWith (.ListComp elt [⟨tg, iter, [c], 0⟩] scope pos) (some (.Name y py)) spos.line X.env = pure true) :
    VB X (.Assign [.Name y py] (.ListComp elt [⟨tg, iter, [c], 0⟩] scope pos) spos :: r) (sSet k (fun us h Q => I us h fun items kp h1 => items.length ≤ sizeLine ∧ lcf kp t T1 E (wipeU us (own.map (·.2))) (fin Q) items [] h1) Rs) := .mk fun us h D ρ Z M s i =>
  bx_setLc k hc hN ok hg (fun σ F H st => cI_mono (hI.out us h _ ρ Z M s i σ F H st) fun J H1 ⟨F1, M1, rs, keep, wk, ⟨items, kp, h1, ρ1, er, e1, i1, si, hk, k0, l, q⟩, k1, m1, g1⟩ => by
    subst er
    obtain ⟨z1, z2⟩ := lcf_core hi hT hE i1 si q
    rw [i.rs e1] at z2
    refine ⟨F1, M1, _, keep, wk, ⟨_, z1, ?_, by rw [toRs_len]; exact l, z2, ?_⟩, k1, m1, g1⟩
    · rintro j acc M' ⟨au, h', ρ', ea, ex, i', sa, l, q⟩
      subst ea
      exact ⟨hk ρ' h' M' us ex i' (lcf_kp q), by rw [toRs_len]; exact l⟩
    · rintro acc M' ⟨au, h', ρ', ea, ex, i', sa, l, q⟩
      subst ea
      rw [toRs_len, List.drop_length] at q
      refine hf (P := fun r0 M' => BX X r ((toRs ρ us).set k r0) M' (toPo ρ Z D)) (kOk_iff.mp q).2 i' sa fun r0 M' ⟨u, h2, ρ2, e2, pm, e3, gd, su, q⟩ => ?_
      subst e2
      have e4 := (e1.trans ex).trans e3
      rw [← i.rs e4, ← toRs_set]
      exact hb.run q e4 ⟨pm, gd, (i.st.up e4).set su⟩) hy hyl hsw hs
end
end Vq
/-! Vc11: a def's body; built-ins; lists that change. -/
namespace Vq
open PySem PySem.Spec PyProof.Rows L2 Hq
/-! ### a def -/
/-- the cells that stay when a def ends: those handed in, and these -/
def gcAt (L : Nat) (Q : U → Hq → Prop) (ex : List Nat) (u : U) (h' : Hq) : Prop := match ren (fnd (List.range L ++ ex)) u with
  | some u' => match renOs (fnd (List.range L ++ ex)) (pick .dead h' (List.range L ++ ex)) with
    | some hl => Q u' hl
    | none => False
  | none => False
def gc (L : Nat) (Q : U → Hq → Prop) : U → Hq → Prop := fun u h' => ∃ ex : List Nat, (List.range L ++ ex).Nodup ∧ (∀ n ∈ ex, n < h'.length) ∧ gcAt L Q ex u h'
def endq (L : Nat) (Q : U → Hq → Prop) : Pq := { nx := fun _ h' => gc L Q (.d .none) h', rt := gc L Q }
/-- nothing but data -/
theorem gc_d {Q : U → Hq → Prop} {x : PyData} {h' : Hq} (q : Q (.d x) []) : gc 0 Q (.d x) h' := ⟨[], List.nodup_nil, fun _ h => (nomatch h), q⟩
section
variable {K : PySem.W.Frag} {M : Mem} {F H : Hp}
/-- cells of the answer forgotten, in any order -/
def Fewer (M' M2 : Mem) : Prop := ∃ M1 : Mem, M'.Perm M1 ∧ M2.Sublist M1
theorem ms_fewer {M' M2 : Mem} {F' H' : Hp} (f : Fewer M' M2) (m : Ms K M' F' H') : Ms K M2 F' H' ∧ Go M' F' H' M2 F' H' := by
  obtain ⟨M1, p, s⟩ := f
  obtain ⟨a, b⟩ := m.perm p.symm
  obtain ⟨c, d⟩ := a.drop s
  exact ⟨c, b.trans d⟩
theorem out_fewer {Q Q' : R → Mem → Prop} {v : V} {H' : Hp} (q : ∀ r M', Q r M' → ∃ M2, Fewer M' M2 ∧ Q' r M2) (o : Out K M F H Q v H') : Out K M F H Q' v H' := by
  obtain ⟨F', M', r, a, b, c, d⟩ := o
  obtain ⟨M2, f, q2⟩ := q r M' b
  obtain ⟨c2, d2⟩ := ms_fewer f c
  exact ⟨F', M2, r, a, q2, c2, d.trans d2⟩
theorem outS_fewer {Q Q' : List R → Mem → Prop} {σ' : L2.St} {H' : Hp} (q : ∀ r M', Q r M' → ∃ M2, Fewer M' M2 ∧ Q' r M2) (o : OutS K M F H Q σ' H') : OutS K M F H Q' σ' H' := by
  obtain ⟨F', M', r, a, b, c, d⟩ := o
  obtain ⟨M2, f, q2⟩ := q r M' b
  obtain ⟨c2, d2⟩ := ms_fewer f c
  exact ⟨F', M2, r, a, q2, c2, d.trans d2⟩
theorem bx_fewer {X : Cx} {st : List Stmt} {ds : List R} {D D' : Po} (h : BX X st ds M D) (n : ∀ r M', D.nx r M' → ∃ M2, Fewer M' M2 ∧ D'.nx r M2) (r : ∀ r M', D.rt r M' → ∃ M2, Fewer M' M2 ∧ D'.rt r M2) (b : ∀ r M', D.bk r M' → False) (c : ∀ r M', D.ct r M' → False) : BX X st ds M D' :=
  fun σ F H s => cB_mono (h σ F H s) ⟨fun σ' H' o => outS_fewer n o, fun v H' o => out_fewer r o, fun σ' H' ⟨_, _, _, _, z, _⟩ => (b _ _ z).elim, fun σ' H' ⟨_, _, _, _, z, _⟩ => (c _ _ z).elim⟩
end
theorem gc_out {ρ ρ' : List Ar} {h h' : Hq} {Z M' : Mem} {Q : U → Hq → Prop} {u : U} {QR : R → Mem → Prop} (g0 : Gd ρ h) (ex : Ext ρ ρ') (pm : M'.Perm (memOf ρ' h' ++ Z)) (gd : Gd ρ' h') (su : StU ρ' u) (q : gc h.length Q u h')
    (k : ∀ u h2 ρ2 M2, Ext ρ ρ2 → M2.Perm (memOf ρ2 h2 ++ Z) → Gd ρ2 h2 → StU ρ2 u → Q u h2 → QR (toR ρ2 u) M2) : ∃ M2, Fewer M' M2 ∧ QR (toR ρ' u) M2 := by
  obtain ⟨exl, nd, lt, q⟩ := q
  have ll : h.length ≤ h'.length := by rw [← g0.len, ← gd.len]; exact ex.le
  have lt2 : ∀ n ∈ List.range h.length ++ exl, n < h'.length := fun n hn => (List.mem_append.mp hn).elim (fun z => Nat.lt_of_lt_of_le (List.mem_range.mp z) ll) (lt n)
  unfold gcAt at q
  split at q
  · rename_i u' eu
    split at q
    · rename_i hl eh
      obtain ⟨g2, pm2⟩ := sub_heap gd nd lt2 eh
      obtain ⟨w1, w2⟩ := ren_ok (moves_pick gd lt2) u u' eu su
      refine ⟨memOf (pick da0 ρ' (List.range h.length ++ exl)) hl ++ Z, ⟨memOf (pick da0 ρ' (List.range h.length ++ exl)) hl ++ Z ++ rest ρ' h' (List.range h.length ++ exl), ?_, List.sublist_append_left _ _⟩, ?_⟩
      · refine (pm.trans (pm2.append_right Z)).trans ?_
        rw [List.append_assoc, List.append_assoc]
        exact List.Perm.append_left _ List.perm_append_comm
      · rw [← w1]
        refine k u' hl _ _ ?_ (List.Perm.refl _) g2 w2 q
        intro n a ea
        have ln : n < h.length := by rw [← g0.len]; exact (List.getElem?_eq_some_iff.mp ea).1
        have e : (List.range h.length ++ exl)[n]? = some n := by
          rw [List.getElem?_append_left (by simpa using ln), List.getElem?_range ln]
        rw [pick_get e (by rw [gd.len]; omega)]
        exact ex n a ea
    · exact q.elim
  · exact q.elim
theorem fx_vc {P : Program} {w : World} {K : PySem.W.Frag} {mg : Str → Option Value} {base : Heap} {k : Nat} {x : Str} {st : Stmt} {N ps : List Str} {sp : Fs} {sem : SB} (a : At K mg x st) (S : FnScope N ps (defScope st)) (hlen : ∀ us h Q, sp us h Q → us.length = ps.length)
    (hb : ∀ (kV doc pm : Value) (an : Option Addr) (cdv ct : Value) (us : List Value), us.length = ps.length → bindArgs (PySem.W.fnOf x x (defArgs st) (defBody st) (defScope st) .none kV doc pm an cdv ct) ⟨us, []⟩ = pure (ps.zip us))
    (vb : ∀ (f : Addr) (cd : Value) (A : Around) (fr : List Env) (s : Shared) (G : Hp) (Z : XK), (bX P w K mg base N x st f cd A fr s G Z).A.guards = some [] → Room k (bX P w K mg base N x st f cd A fr s G Z).A → VB (bX P w K mg base N x st f cd A fr s G Z) (defBody st) sem)
    (vc : ∀ us h Q, sp us h Q → sem (us ++ List.replicate (N.length - ps.length) .no) h (endq h.length Q)) : Fx P w K mg base (k + 1) x st ps (Wof sp) :=
  fx_of a S (fun rs M Q ⟨us, h, ρ, Z, Q', e, i, s, kk⟩ => by rw [e, toRs_len]; exact hlen _ _ _ s) hb fun f cd A fr s G Z rs M Q hg hr ⟨us, h, ρ, Zm, Q', e, i, s', kk⟩ => by
    have i2 : In ρ h Zm M (us ++ List.replicate (N.length - ps.length) .no) := ⟨i.pm, i.gd, fun u hu => (List.mem_append.mp hu).elim (i.st u) fun z => by rw [List.eq_of_mem_replicate z]; exact .no⟩
    have b := (vb f cd A fr s G Z hg hr).out _ h _ ρ Zm M (vc us h Q' s') i2
    have er : toRs ρ (us ++ List.replicate (N.length - ps.length) .no) = rs ++ List.replicate (N.length - ps.length) .no := by
      rw [toRs_app, e, toRs_map ρ (List.replicate _ _), List.map_replicate, toR_no]
    rw [er] at b
    refine bx_fewer b ?_ ?_ (fun _ _ ⟨_, _, _, _, _, _, z⟩ => z) fun _ _ ⟨_, _, _, _, _, _, z⟩ => z
    · rintro ds M' ⟨us', h', ρ', e', ex, i', q⟩
      obtain ⟨M2, f, q2⟩ := gc_out (QR := Q) i.gd ex i'.pm i'.gd (.d .none) q kk
      rw [toR_d] at q2
      exact ⟨M2, f, q2⟩
    · rintro r M' ⟨u, h', ρ', e', pm, ex, gd, su, q⟩
      subst e'
      exact gc_out (QR := Q) i.gd ex pm gd su q kk
/-! ### built-ins -/
section
variable {X : Cx} {e a b c tg iter elt : Expr} {es ifs : List Expr} {us : List U} {h : Hq} {ρ ρ1 ρ2 : List Ar} {Z M : Mem} {pos p p2 : Pos} {S A B C E : SE} {T1 T2 : ST} {Rs As Bs : SB} {r r1 r2 sA sB body : List Stmt} {D : Pq} {k : Nat}
def lenU (h : Hq) : U → Option Nat
  | .d (.tuple xs) => some xs.length
  | .d (.list xs) => some xs.length
  | .d (.str z) => if z.length ≤ sizeLine then some z.length else none
  | .t vs => some vs.length
  | .s ns => some ns.length
  | .c n => match h[n]? with
    | some (.ld xs) => some xs.length
    | some (.ls vs) => some vs.length
    | some (.ll xss) => some xss.length
    | _ => none
  | .ci n i => match h[n]? with
    | some (.ll xss) => match xss[i]? with
      | some xs => some xs.length
      | none => none
    | _ => none
  | _ => none
def sLen (S : SE) : SE := fun us h Q => S us h fun u h1 => match lenU h1 u with
  | some n => Q (.d (.int n)) h1
  | none => False
abbrev rLenS : List V → Hp → VK → Prop := fun xs H Q => ∃ z, xs = [.str z] ∧ z.length ≤ sizeLine ∧ Q (.int z.length) H
abbrev rLenL (K : PySem.W.Frag) : List V → Hp → VK → Prop := fun xs H Q => ∃ p ys, xs = [.ref p] ∧ (SqL K H p ys ∨ SqT K H p ys) ∧ Q (.int ys.length) H
def crOr (r1 r2 : List V → Hp → VK → Prop) : List V → Hp → VK → Prop := fun xs H Q => r1 xs H Q ∨ r2 xs H Q
theorem callr_or {f : Value} {r1 r2 : List V → Hp → VK → Prop} (h1 : CallR X f r1) (h2 : CallR X f r2) : CallR X f (crOr r1 r2) := fun pins s σ H xs us Q I r q => q.elim (h1 pins s σ H xs us Q I r) (h2 pins s σ H xs us Q I r)
theorem lenU_els {u : U} {n : Nat} (e : lenU h u = some n) : (∃ z : Str, u = .d (.str z) ∧ z.length ≤ sizeLine ∧ n = z.length) ∨ (∃ vs, tps u = some vs ∧ vs.length = n) ∨ ∃ vs, els h u = some vs ∧ vs.length = n := by
  unfold lenU at e
  split at e
  · cases e; exact .inr (.inl ⟨_, rfl, by simp⟩)
  · cases e; exact .inr (.inr ⟨_, rfl, by simp⟩)
  · split at e
    · cases e; exact .inl ⟨_, rfl, by assumption, rfl⟩
    · cases e
  · cases e; exact .inr (.inl ⟨_, rfl, rfl⟩)
  · cases e; exact .inr (.inr ⟨_, rfl, by simp⟩)
  · rename_i m
    split at e
    · rename_i xs e2; cases e; exact .inr (.inr ⟨xs.map U.d, by simp only [els, e2], by simp⟩)
    · rename_i vs e2; cases e; exact .inr (.inr ⟨vs, by simp only [els, e2], rfl⟩)
    · rename_i xss e2; cases e; exact .inr (.inr ⟨_, by simp only [els, e2]; rfl, by simp⟩)
    · cases e
  · rename_i m j
    split at e
    · rename_i xss e2
      split at e
      · rename_i xs e3; cases e; exact .inr (.inr ⟨xs.map U.d, by simp only [els, e2, e3], by simp⟩)
      · cases e
    · cases e
  · cases e
theorem ve_len (hm : X.mg "len" = none) (ha : VE X e S) (hg : Gl X "len" := by rfl) (he : starEach [e] X.env = (false, eval e X.env) :: starEach [] X.env := by exact st_any rfl) : VE X (.Call (.Name "len" p) [e] [] pos) (sLen S) := .mk fun us h Q ρ Z M s i =>
  ex_callB (callr_or call_len_str call_len_seq) (fun x H Q Q' m q => q.imp (fun ⟨z, a, b, q⟩ => ⟨z, a, b, m _ _ q⟩) fun ⟨p, ys, a, b, q⟩ => ⟨p, ys, a, b, m _ _ q⟩) hm PySem.boot_len (ax_cons (ha.run s i fun u h1 ρ1 M1 q e1 i1 s1 q1 => ax_nil fun F H vs m w => by
    obtain ⟨v, ev, w1⟩ := rrs1 w
    subst ev
    split at q
    · rename_i n en
      have fin := (in_d i1 q).up e1
      rcases lenU_els en with ⟨z, rfl, l, rfl⟩ | ⟨ws, et, rfl⟩ | ⟨ws, et, rfl⟩
      · rw [toR_d] at w1
        exact .inl ⟨z, by rw [rr_str w1], l, Out.mk0 m rrI fin⟩
      · obtain ⟨p, xs, rfl, a, b⟩ := (tps_isT s1 et M1).get m w1
        have l : xs.length = ws.length := by rw [b.length, toRs_len]
        exact .inr ⟨p, xs, rfl, .inr (SqT.of a), Out.mk0 m (by rw [l]; exact rrI) fin⟩
      · obtain ⟨p, xs, rfl, a, b⟩ := (els_isL i1 et).1.get m w1
        have l : xs.length = ws.length := by rw [b.length, toRs_len]
        exact .inr ⟨p, xs, rfl, .inl a, Out.mk0 m (by rw [l]; exact rrI) fin⟩
    · exact q.elim) he) hg (he := he)
/-- one int in, one out -/
def sI1 (f : Int → Int) (S : SE) : SE := fun us h Q => S us h fun u h1 => match u with
  | .d (.int i) => Q (.d (.int (f i))) h1
  | _ => False
def absI (i : Int) : Int := if i < 0 then -i else i
theorem ve_abs (hm : X.mg "abs" = none) (ha : VE X e S) (hg : Gl X "abs" := by rfl) (he : starEach [e] X.env = (false, eval e X.env) :: starEach [] X.env := by exact st_any rfl) : VE X (.Call (.Name "abs" p) [e] [] pos) (sI1 absI S) := .mk fun us h Q ρ Z M s i => by
  have q : EX X e (toRs ρ us) M fun r M' => ∃ k : Int, r = T k ∧ VPost ρ Z Q (T (absI k)) M' := ha.run s i fun u h1 ρ1 M1 k e i1 s1 q1 => by
    split at k
    · rw [toR_d]; exact ⟨_, rfl, (in_d i1 k).up e⟩
    · exact k.elim
  exact ex_callB call_abs (fun x H Q Q' m ⟨y, a, b⟩ => ⟨y, a, m _ _ b⟩) hm (by decide +kernel) (ax_cons (q.mono fun r M1 ⟨k, ek, q⟩ => ax_nil fun F H vs m w => by
    subst ek
    obtain ⟨v, ev, w1⟩ := rrs1 w
    subst ev
    exact ⟨k, by rw [rr_int w1], Out.mk0 m rrI q⟩) he) hg (he := he)
end
end Vq
/-! Vc12: more built-ins, tests; lists that change. -/
namespace Vq
open PySem PySem.Spec PyProof.Rows L2 Hq
section
variable {X : Cx} {e a b c tg iter elt o : Expr} {es ifs : List Expr} {us : List U} {h : Hq} {ρ ρ1 ρ2 : List Ar} {Z M : Mem} {pos p p2 apos : Pos} {S A B C E : SE} {T1 T2 : ST} {Rs As Bs : SB} {r r1 r2 sA sB body : List Stmt} {D : Pq} {k : Nat}
/-- int of an int or a truth -/
def intU : U → Option Int
  | .d (.int i) => some i
  | .d (.bool b) => some (if b then 1 else 0)
  | _ => none
def sInt (S : SE) : SE := fun us h Q => S us h fun u h1 => match intU u with
  | some i => Q (.d (.int i)) h1
  | none => False
theorem ve_int1 (hm : X.mg "int" = none) (ha : VE X e S) (hg : Gl X "int" := by rfl) (he : starEach [e] X.env = (false, eval e X.env) :: starEach [] X.env := by exact st_any rfl) : VE X (.Call (.Name "int" p) [e] [] pos) (sInt S) := .mk fun us h Q ρ Z M s i => by
  have q : EX X e (toRs ρ us) M fun r M' => (∃ k : Int, r = T k ∧ VPost ρ Z Q (T k) M') ∨ ∃ k : Bool, r = T k ∧ VPost ρ Z Q (T (if k then 1 else 0 : Int)) M' := ha.run s i fun u h1 ρ1 M1 k e i1 s1 q1 => by
    split at k
    · rename_i j ej
      unfold intU at ej
      split at ej
      · cases ej; rw [toR_d]; exact .inl ⟨_, rfl, (in_d i1 k).up e⟩
      · cases ej; rw [toR_d]; exact .inr ⟨_, rfl, (in_d i1 k).up e⟩
      · cases ej
    · exact k.elim
  exact ex_callTy call_int1 (fun x H Q Q' m w => by
    rcases w with ⟨i, a, q⟩ | ⟨i, a, q⟩
    · exact .inl ⟨i, a, m _ _ q⟩
    · exact .inr ⟨i, a, m _ _ q⟩) hm (by decide +kernel) (ax_cons (q.mono fun r M1 q => ax_nil fun F H vs m w => by
    obtain ⟨v, ev, w1⟩ := rrs1 w
    subst ev
    rcases q with ⟨k, ek, q⟩ | ⟨k, ek, q⟩
    · subst ek; exact .inl ⟨k, by rw [rr_int w1], Out.mk0 m rrI q⟩
    · subst ek; exact .inr ⟨k, by rw [rr_bl w1], Out.mk0 m rrI q⟩) he) hg (he := he)
/-- of a list of ints -/
def sInts (P : List Int → (PyData → Prop) → Prop) (S : SE) : SE := fun us h Q => S us h fun u h1 => ∃ ns : List Int, lr h1 u = some (ns.map PyData.int) ∧ P ns fun x => Q (.d x) h1
theorem lr_ints {u : U} {ns : List Int} (i : In ρ h Z M us) (e : lr h u = some (ns.map PyData.int)) : IsL M (toR ρ u) (ns.map T) := by
  have := lr_isL i e
  rw [List.map_map] at this
  exact this
theorem ints_run (ha : VE X e S) {P : List Int → (PyData → Prop) → Prop} {Q : U → Hq → Prop} (s : sInts P S us h Q) (i : In ρ h Z M us) : EX X e (toRs ρ us) M fun r M' => ∃ ns : List Int, IsL M' r (ns.map T) ∧ ∃ K : PyData → Prop, P ns K ∧ ∀ x, K x → VPost ρ Z Q (.d x) M' :=
  ha.run s i fun u h1 ρ1 M1 ⟨ns, en, k⟩ e i1 s1 q1 => ⟨ns, lr_ints i1 en, _, k, fun x q => (in_d i1 q).up e⟩
theorem ve_sum (hc : X.calm = true) (hm : X.mg "sum" = none) (ha : VE X e S) (hg : Gl X "sum" := by rfl) (he : starEach [e] X.env = (false, eval e X.env) :: starEach [] X.env := by exact st_any rfl) : VE X (.Call (.Name "sum" p) [e] [] pos) (sInts (fun ns K => K (.int ns.sum)) S) := .mk fun us h Q ρ Z M s i =>
  ex_sum hm ((ints_run ha s i).mono fun r M' ⟨ns, l, K, k, q⟩ => ⟨ns, l, q _ k⟩) (cr_sum hc) hg he
theorem ve_minL (hc : X.calm = true) (hm : X.mg "min" = none) (ha : VE X e S) (hg : Gl X "min" := by rfl) (he : starEach [e] X.env = (false, eval e X.env) :: starEach [] X.env := by exact st_any rfl) : VE X (.Call (.Name "min" p) [e] [] pos) (sInts (fun ns K => 0 < ns.length ∧ ∀ m : Int, m ∈ ns → (∀ y ∈ ns, m ≤ y) → K (.int m)) S) := .mk fun us h Q ρ Z M s i =>
  ex_minL hc hm ((ints_run ha s i).mono fun r M' ⟨ns, l, K, k, q⟩ => ⟨ns, l, k.1, fun m h1 h2 => q _ (k.2 m h1 h2)⟩) hg he
theorem ve_maxL (hc : X.calm = true) (hm : X.mg "max" = none) (ha : VE X e S) (hg : Gl X "max" := by rfl) (he : starEach [e] X.env = (false, eval e X.env) :: starEach [] X.env := by exact st_any rfl) : VE X (.Call (.Name "max" p) [e] [] pos) (sInts (fun ns K => 0 < ns.length ∧ ∀ m : Int, m ∈ ns → (∀ y ∈ ns, y ≤ m) → K (.int m)) S) := .mk fun us h Q ρ Z M s i =>
  ex_maxL hc hm ((ints_run ha s i).mono fun r M' ⟨ns, l, K, k, q⟩ => ⟨ns, l, k.1, fun m h1 h2 => q _ (k.2 m h1 h2)⟩) hg he
/-- of a list of truths -/
def sBls (f : List Bool → Bool) (S : SE) : SE := fun us h Q => S us h fun u h1 => ∃ bs : List Bool, lr h1 u = some (bs.map PyData.bool) ∧ Q (.d (.bool (f bs))) h1
theorem bls_run (ha : VE X e S) {f : List Bool → Bool} {Q : U → Hq → Prop} (s : sBls f S us h Q) (i : In ρ h Z M us) : EX X e (toRs ρ us) M fun r M' => ∃ bs : List Bool, IsL M' r (bs.map T) ∧ VPost ρ Z Q (T (f bs)) M' :=
  ha.run s i fun u h1 ρ1 M1 ⟨bs, en, k⟩ e i1 s1 q1 => ⟨bs, by have := lr_isL i1 en; rw [List.map_map] at this; exact this, (in_d i1 k).up e⟩
theorem ve_all (hc : X.calm = true) (hm : X.mg "all" = none) (ha : VE X e S) (hg : Gl X "all" := by rfl) (he : starEach [e] X.env = (false, eval e X.env) :: starEach [] X.env := by exact st_any rfl) : VE X (.Call (.Name "all" p) [e] [] pos) (sBls (fun bs => bs.all id) S) := .mk fun us h Q ρ Z M s i =>
  ex_all (cr_all hc) hm (bls_run ha s i) hg he
theorem ve_any (hc : X.calm = true) (hm : X.mg "any" = none) (ha : VE X e S) (hg : Gl X "any" := by rfl) (he : starEach [e] X.env = (false, eval e X.env) :: starEach [] X.env := by exact st_any rfl) : VE X (.Call (.Name "any" p) [e] [] pos) (sBls (fun bs => bs.any id) S) := .mk fun us h Q ρ Z M s i =>
  ex_callB (cr_any hc) (fun x H Q Q' m ⟨p, ys, a, b, q⟩ => ⟨p, ys, a, b, m _ _ q⟩) hm (by decide +kernel) (ax_cons ((bls_run ha s i).mono fun r M1 ⟨bs, h1, q⟩ => ax_nil fun F H vs m w => by
    obtain ⟨v, ev, w1⟩ := rrs1 w
    subst ev
    obtain ⟨p, xs, rfl, a, b⟩ := h1.get m w1
    obtain rfl := rrs_bls b
    exact ⟨p, bs, rfl, a, Out.mk0 m rrB q⟩) he) hg (he := he)
/-- list(xs): data anew -/
def sList (S : SE) : SE := fun us h Q => S us h fun u h1 => match lr h1 u with
  | some xs => Q (.d (.list xs)) h1
  | none => False
theorem ve_list (hm : X.mg "list" = none) (ha : VE X e S) (hg : Gl X "list" := by rfl) (he : starEach [e] X.env = (false, eval e X.env) :: starEach [] X.env := by exact st_any rfl) : VE X (.Call (.Name "list" p) [e] [] pos) (sList S) := .mk fun us h Q ρ Z M s i =>
  ex_list hm (ha.run s i fun u h1 ρ1 M1 k e1 i1 s1 q1 => by
    split at k
    · rename_i xs ex
      exact ⟨_, lr_isL i1 ex, .inl ⟨xs, rfl, (in_d i1 k).up e1⟩⟩
    · exact k.elim) hg he
/-- .. a new cell -/
def sListC (S : SE) : SE := fun us h Q => S us h fun u h1 => ∃ vs o, els h1 u = some vs ∧ OfL o vs ∧ Q (.c h1.length) (h1 ++ [o])
theorem ve_listC (hm : X.mg "list" = none) (ha : VE X e S) (hg : Gl X "list" := by rfl) (he : starEach [e] X.env = (false, eval e X.env) :: starEach [] X.env := by exact st_any rfl) : VE X (.Call (.Name "list" p) [e] [] pos) (sListC S) := .mk fun us h Q ρ Z M s i =>
  ex_list hm (ha.run s i fun u h1 ρ1 M1 ⟨vs, o, ev, ho, k⟩ e1 i1 s1 q1 => by
    obtain ⟨l, sv⟩ := els_isL i1 ev
    exact ⟨_, l, .inr ⟨M1, [], by simp, fun p => (new_postO ho i1 sv k p).up e1⟩⟩) hg he
/-- sorted(ints) -/
def sSorted (S : SE) : SE := fun us h Q => S us h fun u h1 => ∃ ns : List Int, lr h1 u = some (ns.map PyData.int) ∧ ∀ ms : List Int, ms.Perm ns → ms.Pairwise (· ≤ ·) → Q (.d (.list (ms.map PyData.int))) h1
theorem ints_w {K : PySem.W.Frag} {F : Hp} (ms : List Int) : Rrs K F (ms.map V.int) ((ms.map PyData.int).map R.d) := by
  have := ints_rrs (K := K) (F := F) ms
  rw [List.map_map]
  exact this
theorem ve_sorted (hm : X.mg "sorted" = none) (ha : VE X e S) (hg : Gl X "sorted" := by rfl) (he : starEach [e] X.env = (false, eval e X.env) :: starEach [] X.env := by exact st_any rfl) : VE X (.Call (.Name "sorted" p) [e] [] pos) (sSorted S) := .mk fun us h Q ρ Z M s i =>
  ex_callB cr_sortedI (fun x H Q Q' m ⟨p, ys, a, b, q⟩ => ⟨p, ys, a, b, fun z p h1 h2 h3 => m _ _ (q z p h1 h2 h3)⟩) hm (by decide +kernel) (ax_cons (ha.run s i fun u h1 ρ1 M1 ⟨ns, en, k⟩ e1 i1 s1 q1 => ax_nil fun F H vs m w => by
    obtain ⟨v, ev, w1⟩ := rrs1 w
    subst ev
    obtain ⟨p, xs, rfl, a, b⟩ := (lr_ints i1 en).get m w1
    obtain rfl := rrs_ints b
    exact ⟨p, ns, rfl, a, fun ms q h1 h2 h3 => newL m (ints_w ms) h3 ((in_d i1 (k ms h1 h2)).up e1)⟩) he) hg (he := he)
/-! is None -/
def noU : U → Option Bool
  | .d x => some (isNo x)
  | .no => none
  | _ => some false
def sIsN (S : SE) : SE := fun us h Q => S us h fun u h1 => match noU u with
  | some k => Q (.d (.bool k)) h1
  | none => False
def tIsN (S : SE) : ST := fun us h Q => S us h fun u h1 => match noU u with
  | some k => Q k h1
  | none => False
abbrev rIsN : R2 := fun x y H Q => y = .non ∧ Q (.bl (decide (x = .non))) H
theorem mo_isN : Mo2 rIsN := fun x y H Q Q' m ⟨a, q⟩ => ⟨a, m _ _ q⟩
abbrev rNotN : R2 := fun x y H Q => y = .non ∧ Q (.bl (!decide (x = .non))) H
theorem mo_notN : Mo2 rNotN := fun x y H Q Q' m ⟨a, q⟩ => ⟨a, m _ _ q⟩
theorem ad_ref {ρ : List Ar} {n : Nat} (h : ad ρ n ≠ .no) : ∃ p, ad ρ n = .v (.ref p) := by
  unfold ad at h ⊢
  split
  · exact ⟨_, rfl⟩
  · rename_i e; rw [e] at h; exact absurd rfl h
theorem noU_ok {u : U} {k : Bool} (e : noU u = some k) (s : StU ρ u) {K : PySem.W.Frag} {F : Hp} {v : V} (w : Rr K F v (toR ρ u)) : decide (v = .non) = k := by
  have hk := s.ok
  cases u with
  | no => cases e
  | d x => cases e; rw [toR_d] at w; exact dq_non (rr_d.mp w)
  | s ns => cases e; rw [toR_s] at w; obtain ⟨a, rfl, _⟩ := rr_s.mp w; rfl
  | t us => cases e; rw [toR_t] at w; obtain ⟨a, xs, rfl, _⟩ := rr_t.mp w; rfl
  | c n =>
    cases e
    have hk := hk rfl
    rw [toR_c] at w hk
    obtain ⟨p, ep⟩ := ad_ref hk
    rw [ep] at w
    rw [rr_v.mp w]; rfl
  | ci n j =>
    cases e
    cases s with
    | @ci _ _ a h1 h2 =>
      rw [toR_ci, adi_of (q := a.2[j]) h1 (by simp [h2])] at w
      rw [rr_v.mp w]; rfl
def cIsN : CO := fun x y h Q => match y with
  | .d .none => match noU x with
    | some k => Q k
    | none => False
  | _ => False
theorem cs_isN : CoS X rIsN cIsN := fun x y us h Q ρ Z M s i sx sy => by
  unfold cIsN at s
  split at s
  · split at s
    · rename_i k ek
      rw [toR_d]
      exact fun F H u v m w1 w2 => ⟨by have w2 := rr_d.mp w2; cases w2; rfl, Out.mk0 m (by rw [noU_ok ek sx w1]; exact rrB) ⟨k, rfl, rfl, s⟩⟩
    · exact s.elim
  · exact s.elim
theorem cs_notN : CoS X rNotN (fun x y h Q => cIsN x y h fun b => Q (!b)) := fun x y us h Q ρ Z M s i sx sy => by
  unfold cIsN at s
  dsimp only at s
  split at s
  · split at s
    · rename_i k ek
      rw [toR_d]
      exact fun F H u v m w1 w2 => ⟨by have w2 := rr_d.mp w2; cases w2; rfl, Out.mk0 m (by rw [noU_ok ek sx w1]; exact rrB) ⟨!k, rfl, rfl, s⟩⟩
    · exact s.elim
  · exact s.elim
theorem vt_is (ha : VE X a A) (hb : VE X b B) : VT X (.Compare a [.Is] [b] pos) (tCmp cIsN A B) := vt_cmp op_isN mo_isN cs_isN ha hb (nobehind _ (by decide) (by decide))
theorem ve_is (ha : VE X a A) (hb : VE X b B) : VE X (.Compare a [.Is] [b] pos) (sCmp cIsN A B) := ve_cmp op_isN mo_isN cs_isN ha hb (nobehind _ (by decide) (by decide))
theorem vt_isnot (ha : VE X a A) (hb : VE X b B) : VT X (.Compare a [.IsNot] [b] pos) (tCmp (fun x y h Q => cIsN x y h fun b => Q (!b)) A B) := vt_cmp op_notN mo_notN cs_notN ha hb (nobehind _ (by decide) (by decide))
theorem ve_isnot (ha : VE X a A) (hb : VE X b B) : VE X (.Compare a [.IsNot] [b] pos) (sCmp (fun x y h Q => cIsN x y h fun b => Q (!b)) A B) := ve_cmp op_notN mo_notN cs_notN ha hb (nobehind _ (by decide) (by decide))
/-! in -/
def lt' (h : Hq) : U → Option (List PyData)
  | .d (.tuple xs) => some xs
  | u => lr h u
def cIn : CO := fun x y h Q => match x with
  | .d (.int i) => ∃ ns : List Int, lt' h y = some (ns.map PyData.int) ∧ Q (decide (i ∈ ns))
  | .d (.str z) => ∃ ns : List Str, lt' h y = some (ns.map PyData.str) ∧ Q (decide (z ∈ ns))
  | _ => False
theorem lt_ok {y : U} {xs : List PyData} (i : In ρ h Z M us) (s : StU ρ y) (e : lt' h y = some xs) : IsL M (toR ρ y) (xs.map R.d) ∨ IsT M (toR ρ y) (xs.map R.d) := by
  unfold lt' at e
  split at e
  · cases e; rw [toR_d]; exact .inr (.fz _)
  · exact .inl (lr_isL i e)
theorem cs_in : CoS X (rIn X.K false) cIn := fun x y us h Q ρ Z M s i sx sy => by
  unfold cIn at s
  split at s
  · obtain ⟨ns, e, q⟩ := s
    rw [toR_d]
    have := lt_ok i sy e
    rw [List.map_map] at this
    exact ow_inI (ns := ns) this ⟨_, rfl, rfl, q⟩
  · obtain ⟨ns, e, q⟩ := s
    rw [toR_d]
    have := lt_ok i sy e
    rw [List.map_map] at this
    exact ow_inS (ns := ns) this ⟨_, rfl, rfl, q⟩
  · exact s.elim
theorem cs_nin : CoS X (rIn X.K true) (fun x y h Q => cIn x y h fun b => Q (!b)) := fun x y us h Q ρ Z M s i sx sy => by
  unfold cIn at s
  dsimp only at s
  split at s
  · obtain ⟨ns, e, q⟩ := s
    rw [toR_d]
    have := lt_ok i sy e
    rw [List.map_map] at this
    exact ow_inI (ns := ns) this ⟨_, rfl, rfl, q⟩
  · obtain ⟨ns, e, q⟩ := s
    rw [toR_d]
    have := lt_ok i sy e
    rw [List.map_map] at this
    exact ow_inS (ns := ns) this ⟨_, rfl, rfl, q⟩
  · exact s.elim
theorem vt_in (ha : VE X a A) (hb : VE X b B) (hm : behindInMarks .In b = false := by rfl) : VT X (.Compare a [.In] [b] pos) (tCmp cIn A B) := vt_cmp op_in_seq mo_in cs_in ha hb hm
theorem ve_in (ha : VE X a A) (hb : VE X b B) (hm : behindInMarks .In b = false := by rfl) : VE X (.Compare a [.In] [b] pos) (sCmp cIn A B) := ve_cmp op_in_seq mo_in cs_in ha hb hm
theorem vt_nin (ha : VE X a A) (hb : VE X b B) (hm : behindInMarks .NotIn b = false := by rfl) : VT X (.Compare a [.NotIn] [b] pos) (tCmp (fun x y h Q => cIn x y h fun b => Q (!b)) A B) := vt_cmp op_notIn_seq mo_in cs_nin ha hb hm
theorem ve_nin (ha : VE X a A) (hb : VE X b B) (hm : behindInMarks .NotIn b = false := by rfl) : VE X (.Compare a [.NotIn] [b] pos) (sCmp (fun x y h Q => cIn x y h fun b => Q (!b)) A B) := ve_cmp op_notIn_seq mo_in cs_nin ha hb hm
end
end Vq
/-! Vc13: chains, kinds, texts of data; stores; lists that change. -/
namespace Vq
open PySem PySem.Spec PyProof.Rows L2 Hq
section
variable {X : Cx} {e a b c tg iter elt o : Expr} {es ifs : List Expr} {us : List U} {h : Hq} {ρ ρ1 ρ2 : List Ar} {Z M : Mem} {pos p p2 apos : Pos} {S A B C E : SE} {T1 T2 : ST} {Rs As Bs : SB} {r r1 r2 sA sB body : List Stmt} {D : Pq} {k : Nat}
/-! ### a < b < c -/
def in2 (x y : U) (P : Int → Int → Prop) : Prop := match x, y with
  | .d (.int i), .d (.int j) => P i j
  | _, _ => False
theorem in2_of {x y : U} {P : Int → Int → Prop} (s : in2 x y P) : ∃ i j, x = .d (.int i) ∧ y = .d (.int j) ∧ P i j := by
  unfold in2 at s
  split at s
  · exact ⟨_, _, rfl, rfl, s⟩
  · exact s.elim
def tChn (f g : Int → Int → Bool) (A B C : SE) : ST := fun us h Q => A us h fun x h1 => B us h1 fun y h2 => in2 x y fun i j => If (f i j) (C us h2 fun z h3 => in2 y z fun _ k => Q (g j k) h3) (Q false h2)
def sChn (f g : Int → Int → Bool) (A B C : SE) : SE := fun us h Q => tChn f g A B C us h fun k h1 => Q (.d (.bool k)) h1
theorem chn_run {f g : Int → Int → Bool} (ha : VE X a A) (hb : VE X b B) (hc : VE X c C) {Q : Bool → Hq → Prop} (s : tChn f g A B C us h Q) (i : In ρ h Z M us) {σ : L2.St} {F H : Hp} (st : Sta X.K σ (toRs ρ us) M F H) :
    tChain (rI0 fun i j => .bl (f i j)) (rI0 fun i j => .bl (g i j)) (cE X a) (cE X b) (cE X c) σ H (Out X.K M F H fun r M' => ∃ k : Bool, r = T k ∧ TPost ρ Z Q k M') := by
  have q : EX X a (toRs ρ us) M fun r1 M1 => EX X b (toRs ρ us) M1 fun r2 M2 => ∃ i j : Int, r1 = T i ∧ r2 = T j ∧ (if f i j = true then EX X c (toRs ρ us) M2 fun r3 M3 => ∃ k : Int, r3 = T k ∧ TPost ρ Z Q (g j k) M3 else TPost ρ Z Q false M2) := ha.run s i fun x h1 ρ1 M1 k1 e1 i1 s1 q1 => by
    rw [q1]
    refine hb.run k1 i1 fun y h2 ρ2 M2 k2 e2 i2 s2 q2 => ?_
    obtain ⟨m, n, rfl, rfl, q⟩ := in2_of k2
    rw [toR_d, toR_d, q2]
    refine ⟨m, n, rfl, rfl, if_of q (fun q => hc.run q i2 fun z h3 ρ3 M3 k3 e3 i3 s3 q3 => ?_) fun q => ⟨h2, ρ2, i2.pm, e1.trans e2, i2.gd, q⟩⟩
    obtain ⟨_, k, e, rfl, q⟩ := in2_of k3
    rw [toR_d]
    exact ⟨k, rfl, h3, ρ3, i3.pm, (e1.trans e2).trans e3, i3.gd, q⟩
  refine cE_mono (q σ F H st) fun x H1 ⟨F1, M1, r1, w1, h1, m1, g1⟩ => ?_
  refine cE_mono (h1 σ F1 H1 (st.go g1 m1)) fun y H2 ⟨F2, M2, r2, w2, ⟨m, n, er1, er2, q⟩, m2, g2⟩ => ?_
  subst er1 er2
  refine ⟨m, n, rr_int w1, rr_int w2, f m n, rfl, ?_⟩
  cases hf : f m n with
  | true =>
    rw [if_pos hf] at q
    rw [if_pos rfl]
    refine cE_mono (q σ F2 H2 ((st.go g1 m1).go g2 m2)) fun z H3 ⟨F3, M3, r3, w3, ⟨k, e, q⟩, m3, g3⟩ => ?_
    subst e
    exact ⟨n, k, rr_int w2, rr_int w3, F3, M3, _, rrB, ⟨_, rfl, q⟩, m3, (g1.trans g2).trans g3⟩
  | false =>
    rw [if_neg (by rw [hf]; exact Bool.false_ne_true)] at q
    rw [if_neg Bool.false_ne_true]
    exact ⟨F2, M2, _, rrB, ⟨_, rfl, q⟩, m2, g1.trans g2⟩
theorem ve_chn {op op' : CmpOp} {f g : Int → Int → Bool} (ho : OpR X (compareOp op) (rI0 fun i j => .bl (f i j))) (ho' : OpR X (compareOp op') (rI0 fun i j => .bl (g i j))) (ha : VE X a A) (hb : VE X b B) (hc : VE X c C) (hm : lastMarks [op, op'] [b, c] = false := by with_unfolding_all rfl) : VE X (.Compare a [op, op'] [b, c] pos) (sChn f g A B C) := .mk fun us h Q ρ Z M s i =>
  ex_pe (pe_chain ho ho' (peC a) (peC b) (peC c) hm) fun σ F H st => by
    have mo : ∀ v H', Out X.K M F H (fun r M' => ∃ k : Bool, r = T k ∧ TPost ρ Z (fun k h => Q (.d (.bool k)) h) k M') v H' → Out X.K M F H (VPost ρ Z Q) v H' := fun v H' ⟨F', M', r, w, ⟨k, e, h', ρ', pm, ex, gd, q⟩, m, g⟩ => ⟨F', M', r, w, ⟨.d (.bool k), h', ρ', by rw [toR_d]; exact e, pm, ex, gd, .d _, q⟩, m, g⟩
    refine cE_mono (chn_run ha hb hc s i st) fun x H1 z => cE_mono z fun y H2 ⟨i, j, a, b, k, e, w⟩ => ⟨i, j, a, b, k, e, ?_⟩
    split at w
    · rename_i hk
      rw [if_pos hk]
      exact cE_mono w fun z H3 ⟨i, j, a, b, w⟩ => ⟨i, j, a, b, mo _ _ w⟩
    · rename_i hk
      rw [if_neg hk]
      exact mo _ _ w
theorem vt_chn {op op' : CmpOp} {f g : Int → Int → Bool} (ho : OpR X (compareOp op) (rI0 fun i j => .bl (f i j))) (ho' : OpR X (compareOp op') (rI0 fun i j => .bl (g i j))) (ha : VE X a A) (hb : VE X b B) (hc : VE X c C) (hm : lastMarks [op, op'] [b, c] = false := by with_unfolding_all rfl) : VT X (.Compare a [op, op'] [b, c] pos) (tChn f g A B C) := .mk fun us h Q ρ Z M s i =>
  tx_pt (pt_chain ho ho' (peC a) (peC b) (peC c) hm) fun σ F H st => by
    have mo : ∀ v H', Out X.K M F H (fun r M' => ∃ k : Bool, r = T k ∧ TPost ρ Z Q k M') v H' → ∃ k, v = .bl k ∧ OutB X.K M F H (TPost ρ Z Q) k H' := fun v H' o => outB_of (σ := σ) o
    refine cE_mono (chn_run ha hb hc s i st) fun x H1 z => cE_mono z fun y H2 ⟨i, j, a, b, k, e, w⟩ => ⟨i, j, a, b, k, e, ?_⟩
    split at w
    · rename_i hk
      rw [if_pos hk]
      exact cE_mono w fun z H3 ⟨i, j, a, b, w⟩ => ⟨i, j, a, b, mo _ _ w⟩
    · rename_i hk
      rw [if_neg hk]
      exact mo _ _ w
/-! ### min, max of two -/
def sM2 (f : Int → Int → Int) (A B : SE) : SE := fun us h Q => A us h fun x h1 => B us h1 fun y h2 => in2 x y fun i j => Q (.d (.int (f i j))) h2
def min2 (i j : Int) : Int := if j < i then j else i
def max2 (i j : Int) : Int := if j > i then j else i
theorem m2_run {f : Int → Int → Int} (ha : VE X a A) (hb : VE X b B) {Q : U → Hq → Prop} (s : sM2 f A B us h Q) (i : In ρ h Z M us) : EX X a (toRs ρ us) M fun r1 M1 => EX X b (toRs ρ us) M1 fun r2 M2 => ∃ i j : Int, r1 = T i ∧ r2 = T j ∧ VPost ρ Z Q (T (f i j)) M2 := ha.run s i fun x h1 ρ1 M1 k1 e1 i1 s1 q1 => by
  rw [q1]
  refine hb.run k1 i1 fun y h2 ρ2 M2 k2 e2 i2 s2 q2 => ?_
  obtain ⟨m, n, rfl, rfl, q⟩ := in2_of k2
  rw [toR_d, toR_d]
  exact ⟨m, n, rfl, rfl, ((in_d i2 q).up e2).up e1⟩
theorem ve_min2 (hc : X.calm = true) (hm : X.mg "min" = none) (ha : VE X a A) (hb : VE X b B) (hg : Gl X "min" := by rfl) (he : starEach [a, b] X.env = (false, eval a X.env) :: starEach [b] X.env := by exact st_any rfl) (he2 : starEach [b] X.env = (false, eval b X.env) :: starEach [] X.env := by exact st_any rfl) (hpl : (backTo pos (starEach [b] X.env)).any (·.1) = false := by rfl) : VE X (.Call (.Name "min" p) [a, b] [] pos) (sM2 min2 A B) := .mk fun us h Q ρ Z M s i =>
  ex_callB (call_min2 hc) (fun x H Q Q' m ⟨i, j, a, q⟩ => ⟨i, j, a, m _ _ q⟩) hm (by decide +kernel) (ax_cons ((m2_run ha hb s i).mono fun r1 M1 z => ax_cons (z.mono fun r2 M2 ⟨m, n, e1, e2, q⟩ => ax_nil fun F H vs ms w => by
    subst e1 e2
    obtain ⟨v, v', ev, w1, w2⟩ := rrs2 w
    subst ev
    exact ⟨m, n, by rw [rr_int w1, rr_int w2], Out.mk0 ms rrI q⟩) he2) he) hg (he := he) (hpl := hpl)
theorem ve_max2 (hc : X.calm = true) (hm : X.mg "max" = none) (ha : VE X a A) (hb : VE X b B) (hg : Gl X "max" := by rfl) (he : starEach [a, b] X.env = (false, eval a X.env) :: starEach [b] X.env := by exact st_any rfl) (he2 : starEach [b] X.env = (false, eval b X.env) :: starEach [] X.env := by exact st_any rfl) (hpl : (backTo pos (starEach [b] X.env)).any (·.1) = false := by rfl) : VE X (.Call (.Name "max" p) [a, b] [] pos) (sM2 max2 A B) := .mk fun us h Q ρ Z M s i =>
  ex_callB (call_max2 hc) (fun x H Q Q' m ⟨i, j, a, q⟩ => ⟨i, j, a, m _ _ q⟩) hm (by decide +kernel) (ax_cons ((m2_run ha hb s i).mono fun r1 M1 z => ax_cons (z.mono fun r2 M2 ⟨m, n, e1, e2, q⟩ => ax_nil fun F H vs ms w => by
    subst e1 e2
    obtain ⟨v, v', ev, w1, w2⟩ := rrs2 w
    subst ev
    exact ⟨m, n, by rw [rr_int w1, rr_int w2], Out.mk0 ms rrI q⟩) he2) he) hg (he := he) (hpl := hpl)
/-! ### isinstance, repr -/
/-- something of the same kind -/
def kindU (h : Hq) : U → Option PyData
  | .d x => some x
  | .s _ => some (.list [])
  | .t _ => some (.tuple [])
  | .c n => match h[n]? with
    | some (.ld _) => some (.list [])
    | some (.ls _) => some (.list [])
    | some (.ll _) => some (.list [])
    | _ => none
  | .ci n i => match h[n]? with
    | some (.ll xss) => if i < xss.length then some (.list []) else none
    | _ => none
  | _ => none
def sIsi (cn : String) (S : SE) : SE := fun us h Q => S us h fun u h1 => match da h1 u with
  | some d => Q (.d (.bool (isK cn d))) h1
  | none => False
theorem ve_isi {c : Str} {cn : String} (hk : kitsAll cn = true) (hv : bootBuiltins c = some (.type cn)) (hm : X.mg "isinstance" = none) (hm2 : X.mg c = none) (ha : VE X e S) (gl : Gl X "isinstance" := by rfl) (gl2 : Gl X c := by rfl)
    (he : starEach [e, .Name c p2] X.env = (false, eval e X.env) :: starEach [.Name c p2] X.env := by exact st_any rfl) (he2 : starEach [.Name c p2] X.env = (false, eval (.Name c p2) X.env) :: starEach [] X.env := by exact st_any rfl) (hpl : (backTo pos (starEach [.Name c p2] X.env)).any (·.1) = false := by rfl) (hn : c ≠ "__name__" := by decide) (hd : (c == ("__debug__" : Str)) = false := by decide) : VE X (.Call (.Name "isinstance" p) [e, .Name c p2] [] pos) (sIsi cn S) := .mk fun us h Q ρ Z M s i =>
  ex_isi hk hv hm hm2 (ha.run s i fun u h1 ρ1 M1 k e1 i1 s1 q1 => by
    split at k
    · rename_i d ed
      exact ⟨d, da_isD i1 ed, (in_d i1 k).up e1⟩
    · exact k.elim) gl gl2 he he2 hpl hn hd
def sRepr (S : SE) : SE := fun us h Q => S us h fun u h1 => ∃ xs : List PyData, da h1 u = some (.list xs) ∧ (∃ c n, Sho c n (.list xs) ∧ c ≤ 16000000 ∧ n ≤ 100) ∧ Q (.d (.str (PyData.shown (.list xs)))) h1
theorem ve_repr (hg : X.A.guards = some []) (hr : Room k X.A) (hm : X.mg "repr" = none) (ha : VE X e S) (gl : Gl X "repr" := by rfl) (he : starEach [e] X.env = (false, eval e X.env) :: starEach [] X.env := by exact st_any rfl) : VE X (.Call (.Name "repr" p) [e] [] pos) (sRepr S) := .mk fun us h Q ρ Z M s i =>
  ex_repr hg hr hm (ha.run s i fun u h1 ρ1 M1 ⟨xs, ed, ⟨c, n, sh, hc, hn⟩, q⟩ e1 i1 s1 q1 => ⟨xs, da_isD i1 ed, sh.1, sh.2, Nat.le_trans sh.3 hn, Nat.le_trans (shown_le _ sh.1 sh.2) (Nat.le_trans sh.4 (Nat.le_trans hc (by show 16000000 ≤ sizeLine; rw [sizeLine_eq]; decide))), (in_d i1 q).up e1⟩) gl he
/-! ### targets of several parts -/
def sAsg (t : Tg) (S : SE) (R : SB) : SB := fun us h D => S us h fun u h1 => match asg t u us with
  | some us1 => R us1 h1 D
  | none => False
theorem vb_asg {t : Tg} (ha : VE X e S) (hg : VG X tg t) (hb : VB X r Rs) (hs : swapsWithSole [tg] e pos.line X.env = pure false := by first | exact sws_not rfl | rfl) (hsw : swappedStores [tg] e X.env = pure none := by rfl) (h1 : (assignEach [tg] X.env).map (·.2) = [assign tg X.env] := by exact as_any rfl) : VB X (.Assign [tg] e pos :: r) (sAsg t S Rs) := .mk fun us h D ρ Z M s i =>
  bx_asg (ha.run s i fun u h1 ρ1 M1 q e1 i1 s1 q1 => by
    split at q
    · rename_i us1 ea
      rw [q1]
      exact hg.out u us us1 ρ1 _ M1 _ ea s1 rfl (hb.run q e1 ⟨i1.pm, i1.gd, asg_st t _ _ _ ea s1 i1.st⟩)
    · exact q.elim) hs hsw h1
/-- x, y = a, b -/
def sPar (i j : Nat) (A B : SE) (R : SB) : SB := fun us h D => A us h fun u h1 => B us h1 fun v h2 => R ((us.set i u).set j v) h2 D
theorem vb_par (i j : Nat) {x y : Str} {px py pt : Pos} {kt k2 pt2} (hc : X.calm = true) (hN : X.N.Nodup) (ha : VE X a A) (hb : VE X b B) (hR : VB X r Rs) (hi : X.N[i]? = some x := by rfl) (hj : X.N[j]? = some y := by rfl) (hij : i ≠ j := by decide)
    (hx : X.env.scope.names.lookup x = some .local := by rfl) (hy : X.env.scope.names.lookup y = some .local := by rfl) (hw : swappedStores [.Tuple [.Name x px, .Name y py] kt pt] (.Tuple [a, b] k2 pt2) X.env = pure (some [x, y]) := by rfl)
    (hs : swapsWithSole [.Tuple [.Name x px, .Name y py] kt pt] (.Tuple [a, b] k2 pt2) pos.line X.env = pure false := by rfl) (he : starEach [a, b] X.env = (false, eval a X.env) :: starEach [b] X.env := by exact st_any rfl) (he2 : starEach [b] X.env = (false, eval b X.env) :: starEach [] X.env := by exact st_any rfl) : VB X (.Assign [.Tuple [.Name x px, .Name y py] kt pt] (.Tuple [a, b] k2 pt2) pos :: r) (sPar i j A B Rs) := .mk fun us h D ρ Z M s i' =>
  bx_par i j hc hN (ax_cons (ha.run s i' fun u h1 ρ1 M1 k1 e1 i1 s1 q1 => by
    rw [q1]
    refine ax_cons (hb.run k1 i1 fun v h2 ρ2 M2 k2 e2 i2 s2 q2 => ax_nil ⟨_, _, rfl, ?_⟩) he2
    rw [q2, ← s1.st _ e2, ← toRs_set, ← toRs_set]
    exact hR.run k2 (e1.trans e2) ⟨i2.pm, i2.gd, (i2.st.set (s1.up e2)).set s2⟩) he) hi hj hij hx hy hw hs
end
/-! ### lists that change -/
section
variable {X : Cx} {e a b c tg iter elt o : Expr} {us : List U} {h : Hq} {ρ ρ1 ρ2 : List Ar} {Z M : Mem} {pos p p2 apos : Pos} {S A B C E : SE} {Rs : SB} {r : List Stmt} {D : Pq}
/-- a list's cell written -/
theorem write_perm {U1 W rest : Mem} {q : Addr} {c c' : Cell} (hM : M = U1 ++ (q, c) :: W) (p1 : M.Perm ((q, c) :: rest)) : (U1 ++ (q, c') :: W).Perm ((q, c') :: rest) := by
  subst hM
  have p2 : ((q, c) :: (U1 ++ W)).Perm ((q, c) :: rest) := List.perm_middle.symm.trans p1
  exact List.perm_middle.trans (p2.cons_inv.cons _)
/-- what a changed list becomes -/
inductive Chg : Ob → List U → Ob → List U → Prop
  | dd {xs ys : List PyData} : Chg (.ld xs) (xs.map U.d) (.ld ys) (ys.map U.d)
  | du {xs : List PyData} {vs : List U} : Chg (.ld xs) (xs.map U.d) (.ls vs) vs
  | uu {ws vs : List U} : Chg (.ls ws) ws (.ls vs) vs
theorem chg_mem {ob ob' : Ob} {ws vs : List U} (ch : Chg ob ws ob' vs) {ρ : List Ar} {a : Ar} : mem1 ρ a ob = [(a.1, .lst (toRs ρ ws))] ∧ mem1 ρ a ob' = [(a.1, .lst (toRs ρ vs))] ∧ (Sts ρ vs → StO ρ ob') ∧ ShO a ob' := by
  cases ch with
  | dd => exact ⟨by rw [toRs_d]; rfl, by rw [toRs_d]; rfl, fun _ => trivial, trivial⟩
  | du => exact ⟨by rw [toRs_d]; rfl, by rw [toRs_map]; rfl, fun s => s, trivial⟩
  | uu => exact ⟨by rw [toRs_map]; rfl, by rw [toRs_map]; rfl, fun s => s, trivial⟩
theorem chg_write {n : Nat} {ob ob' : Ob} {ws vs : List U} (ch : Chg ob ws ob' vs) (i : In ρ h Z M us) (e : h[n]? = some ob) (sv : Sts ρ vs) : ∃ q, toR ρ (.c n) = .v (.ref q) ∧ (q, Cell.lst (toRs ρ ws)) ∈ M ∧ ∀ U1 W, M = U1 ++ (q, .lst (toRs ρ ws)) :: W → In ρ (h.set n ob') Z (U1 ++ (q, .lst (toRs ρ vs)) :: W) us := by
  obtain ⟨a, ea, sh, st⟩ := i.gd.at e
  obtain ⟨m1, m2, m3, m4⟩ := chg_mem ch (ρ := ρ) (a := a)
  obtain ⟨rest, p1, p2⟩ := cell_set i.gd ea e
  refine ⟨a.1, by rw [toR_c, ad_of ea], cell_mem i ea e (by rw [m1]; exact List.mem_singleton.mpr rfl), fun U1 W hM => ⟨?_, i.gd.set (m3 sv) fun a' ea' => by rw [ea] at ea'; cases ea'; exact m4, i.st⟩⟩
  rw [m1] at p1
  have q1 : M.Perm ((a.1, .lst (toRs ρ ws)) :: (rest ++ Z)) := i.pm.trans (by rw [← List.cons_append]; exact p1.append_right Z)
  refine (write_perm hM q1).trans ?_
  rw [← List.cons_append]
  refine List.Perm.append_right Z ?_
  have := p2 ob'
  rw [m2] at this
  exact this.symm
/-- an inner list's cell written -/
theorem zip_split {α : Type} : ∀ {xs : List α} {n : Nat} {x : α}, xs[n]? = some x → ∀ y, (xs.set n y).Perm (y :: xs.eraseIdx n)
  | x :: xs, 0, _, e, y => by simp
  | z :: xs, n + 1, x, e, y => by
    simp only [List.set_cons_succ, List.eraseIdx_cons_succ]
    exact ((zip_split (xs := xs) (n := n) (by simpa using e) y).cons z).trans (.swap ..)
theorem inn_write {n j : Nat} {xss : List (List PyData)} {xs ys : List PyData} (i : In ρ h Z M us) (e : h[n]? = some (.ll xss)) (e2 : xss[j]? = some xs) : ∃ q, toR ρ (.ci n j) = .v (.ref q) ∧ (q, Cell.lst (xs.map R.d)) ∈ M ∧ ∀ U1 W, M = U1 ++ (q, .lst (xs.map R.d)) :: W → In ρ (h.set n (.ll (xss.set j ys))) Z (U1 ++ (q, .lst (ys.map R.d)) :: W) us := by
  obtain ⟨a, ea, sh, st⟩ := i.gd.at e
  have sh : a.2.length = xss.length := sh
  have lj := (List.getElem?_eq_some_iff.mp e2).1
  have aj : a.2[j]? = some a.2[j] := by simp [show j < a.2.length by omega]
  obtain ⟨rest, p1, p2⟩ := cell_set i.gd ea e
  have zj : (a.2.zip xss)[j]? = some (a.2[j], xs) := by rw [List.zip_eq_zipWith, List.getElem?_zipWith, aj, e2]
  have z0 := zip_split zj (a.2[j], xs)
  rw [set_self zj] at z0
  have zs : a.2.zip (xss.set j ys) = (a.2.zip xss).set j (a.2[j], ys) := by
    refine List.ext_getElem? fun k => ?_
    by_cases hk : j = k
    · subst hk
      rw [List.getElem?_set_self (List.getElem?_eq_some_iff.mp zj).1, List.zip_eq_zipWith, List.getElem?_zipWith, aj, List.getElem?_set_self lj]
    · rw [List.getElem?_set_ne hk, List.zip_eq_zipWith, List.zip_eq_zipWith, List.getElem?_zipWith, List.getElem?_zipWith, List.getElem?_set_ne hk]
  have z1 := zip_split zj (a.2[j], ys)
  rw [← zs] at z1
  obtain ⟨er, her⟩ : ∃ er : Mem, er = (a.1, Cell.lst (a.2.map fun q => R.v (.ref q))) :: (((a.2.zip xss).eraseIdx j).map fun z => (z.1, Cell.lst (z.2.map R.d))) := ⟨_, rfl⟩
  have m1 : (mem1 ρ a (.ll xss)).Perm ((a.2[j], .lst (xs.map R.d)) :: er) := by
    rw [her]
    exact ((z0.map _).cons _).trans (.swap ..)
  have m2 : (mem1 ρ a (.ll (xss.set j ys))).Perm ((a.2[j], .lst (ys.map R.d)) :: er) := by
    rw [her]
    exact ((z1.map _).cons _).trans (.swap ..)
  have q1 : M.Perm ((a.2[j], .lst (xs.map R.d)) :: (er ++ rest ++ Z)) := i.pm.trans (by
    rw [← List.cons_append, ← List.cons_append]
    exact (p1.trans (m1.append_right rest)).append_right Z)
  refine ⟨a.2[j], by rw [toR_ci, adi_of ea aj], q1.symm.subset List.mem_cons_self, fun U1 W hM => ⟨?_, i.gd.set trivial fun a' ea' => by rw [ea] at ea'; cases ea'; show a.2.length = _; rw [List.length_set]; exact sh, i.st⟩⟩
  refine (write_perm hM q1).trans ?_
  rw [← List.cons_append, ← List.cons_append]
  exact ((m2.append_right rest).symm.trans (p2 _).symm).append_right Z
/-! ### x.append(e) -/
def addOb (h : Hq) (n : Nat) (v : U) : Option Ob := match h[n]? with
  | some (.ld xs) => if xs.length < sizeLine then (match v with
    | .d x => some (.ld (xs ++ [x]))
    | v => some (.ls (xs.map U.d ++ [v]))) else none
  | some (.ls vs) => if vs.length < sizeLine then some (.ls (vs ++ [v])) else none
  | _ => none
/-- what stands in a changing list -/
def oAdd' (u v : U) (h : Hq) (Q : Hq → Prop) : Prop := match u with
  | .c n => match h[n]? with
    | some (.ld xs) => match v with
      | .d x => xs.length < sizeLine ∧ Q (h.set n (.ld (xs ++ [x])))
      | v => xs.length < sizeLine ∧ Q (h.set n (.ls (xs.map U.d ++ [v])))
    | some (.ls vs) => vs.length < sizeLine ∧ Q (h.set n (.ls (vs ++ [v])))
    | _ => False
  | .ci n i => match h[n]? with
    | some (.ll xss) => match xss[i]? with
      | some xs => match v with
        | .d x => xs.length < sizeLine ∧ Q (h.set n (.ll (xss.set i (xs ++ [x]))))
        | _ => False
      | none => False
    | _ => False
  | _ => False
def isLst (u : U) (h : Hq) : Prop := match u with
  | .c n => match h[n]? with
    | some (.ld _) => True
    | some (.ls _) => True
    | _ => False
  | .ci n i => match h[n]? with
    | some (.ll xss) => match xss[i]? with
      | some _ => True
      | none => False
    | _ => False
  | _ => False
def sApp (O E : SE) : SE := fun us h Q => O us h fun u h1 => isLst u h1 ∧ E us h1 fun v h2 => oAdd' u v h2 fun h3 => Q (.d .none) h3
theorem isLst_ok {u : U} (i : In ρ h Z M us) (k : isLst u h) : ∃ q, toR ρ u = .v (.ref q) ∧ ∃ ys, (q, Cell.lst ys) ∈ M := by
  unfold isLst at k
  split at k
  · rename_i n
    split at k
    · rename_i xs e
      obtain ⟨p, h1, h2⟩ := cell_of (n := n) (vs := xs.map U.d) i (by simp only [els, e])
      exact ⟨p, h1, _, h2⟩
    · rename_i vs e
      obtain ⟨p, h1, h2⟩ := cell_of (n := n) (vs := vs) i (by simp only [els, e])
      exact ⟨p, h1, _, h2⟩
    · exact k.elim
  · rename_i n j
    split at k
    · rename_i xss e
      split at k
      · rename_i xs e2
        obtain ⟨q, h1, h2, _⟩ := inn_write (ys := []) i e e2
        exact ⟨q, h1, _, h2⟩
      · exact k.elim
    · exact k.elim
  · exact k.elim
theorem add_ok {u v : U} {Q : Hq → Prop} (i : In ρ h Z M us) (sv : StU ρ v) (k : oAdd' u v h Q) : ∃ q xs, toR ρ u = .v (.ref q) ∧ (q, Cell.lst xs) ∈ M ∧ xs.length < sizeLine ∧ ∀ U1 W, M = U1 ++ (q, .lst xs) :: W → ∃ h', In ρ h' Z (U1 ++ (q, .lst (xs ++ [toR ρ v])) :: W) us ∧ Q h' := by
  unfold oAdd' at k
  split at k
  · rename_i n
    split at k
    · rename_i xs e
      split at k
      · rename_i x
        obtain ⟨q, h1, h2, h3⟩ := chg_write (.dd (ys := xs ++ [x])) i e (.ds _)
        refine ⟨q, _, h1, h2, by rw [toRs_len, List.length_map]; exact k.1, fun U1 W hM => ⟨_, ?_, k.2⟩⟩
        have := h3 U1 W hM
        rw [List.map_append, toRs_app] at this
        simpa [toRs] using this
      · obtain ⟨q, h1, h2, h3⟩ := chg_write (.du (xs := xs) (vs := xs.map U.d ++ [v])) i e (fun w hw => (List.mem_append.mp hw).elim (Sts.ds xs w) fun z => by rw [List.mem_singleton.mp z]; exact sv)
        refine ⟨q, _, h1, h2, by rw [toRs_len, List.length_map]; exact k.1, fun U1 W hM => ⟨_, ?_, k.2⟩⟩
        have := h3 U1 W hM
        rw [toRs_app] at this
        simpa [toRs] using this
    · rename_i vs e
      have sw : Sts ρ vs := (ls_isM i e).2
      obtain ⟨q, h1, h2, h3⟩ := chg_write (.uu (ws := vs) (vs := vs ++ [v])) i e (fun w hw => (List.mem_append.mp hw).elim (sw w) fun z => by rw [List.mem_singleton.mp z]; exact sv)
      refine ⟨q, _, h1, h2, by rw [toRs_len]; exact k.1, fun U1 W hM => ⟨_, ?_, k.2⟩⟩
      have := h3 U1 W hM
      rw [toRs_app] at this
      simpa [toRs] using this
    · exact k.elim
  · rename_i n j
    split at k
    · rename_i xss e
      split at k
      · rename_i xs e2
        split at k
        · rename_i x
          obtain ⟨q, h1, h2, h3⟩ := inn_write (ys := xs ++ [x]) i e e2
          refine ⟨q, _, h1, h2, by rw [List.length_map]; exact k.1, fun U1 W hM => ⟨_, ?_, k.2⟩⟩
          have := h3 U1 W hM
          rw [List.map_append] at this
          rw [toR_d]
          exact this
        · exact k.elim
      · exact k.elim
    · exact k.elim
  · exact k.elim
theorem ve_app (ha : VE X o A) (hb : VE X e B) (he : starEach [e] X.env = (false, eval e X.env) :: starEach [] X.env := by exact st_any rfl)
    (hb' : ∀ {to : TE} {t : TA} {r}, MtR X "list.append" r → PE X o to → PA X [e] t → PE X (.Call (.Attribute o "append" apos) [e] [] pos) (tBM X.K "list" r to t) := by intro _ _ _ h1 h2 h3; exact pe_bm PySem.F.plainAttrs_list PySem.F.slot_list_append PySem.F.type_list_append h1 h2 h3) : VE X (.Call (.Attribute o "append" apos) [e] [] pos) (sApp A B) := .mk fun us h Q ρ Z M s i =>
  ex_append (ha.run s i fun u h1 ρ1 M1 ⟨k1, k2⟩ e1 i1 s1 q1 => by
    obtain ⟨q, hq1, hq2⟩ := isLst_ok i1 k1
    refine ⟨q, hq1, hq2, ?_⟩
    rw [q1]
    refine hb.run k2 i1 fun v h2 ρ2 M2 k3 e2 i2 s2 q2 => ?_
    obtain ⟨q', xs, w1, w2, w3, w4⟩ := add_ok i2 s2 k3
    have eq : q' = q := by rw [s1.st _ e2, hq1] at w1; cases w1; rfl
    subst eq
    obtain ⟨U1, W, hM⟩ := List.append_of_mem w2
    obtain ⟨h', i3, q3⟩ := w4 U1 W hM
    exact ⟨U1, W, xs, hM, w3, (in_d i3 q3).up (e1.trans e2)⟩) hb' he
/-! ### x[i] = e -/
def oSet' (u : U) (i : Int) (v : U) (h : Hq) (Q : Hq → Prop) : Prop := match u with
  | .c n => match h[n]? with
    | some (.ld xs) => match v with
      | .d x => ∃ j, ixN xs.length i = some j ∧ Q (h.set n (.ld (xs.set j x)))
      | v => ∃ j, ixN xs.length i = some j ∧ Q (h.set n (.ls ((xs.map U.d).set j v)))
    | some (.ls vs) => ∃ j, ixN vs.length i = some j ∧ Q (h.set n (.ls (vs.set j v)))
    | _ => False
  | .ci n m => match h[n]? with
    | some (.ll xss) => match xss[m]? with
      | some xs => match v with
        | .d x => ∃ j, ixN xs.length i = some j ∧ Q (h.set n (.ll (xss.set m (xs.set j x))))
        | _ => False
      | none => False
    | _ => False
  | _ => False
theorem set_ok {u v : U} {t : Int} {Q : Hq → Prop} (i : In ρ h Z M us) (sv : StU ρ v) (k : oSet' u t v h Q) : ∃ q xs j, toR ρ u = .v (.ref q) ∧ (q, Cell.lst xs) ∈ M ∧ ixN xs.length t = some j ∧ ∀ U1 W, M = U1 ++ (q, .lst xs) :: W → ∃ h', In ρ h' Z (U1 ++ (q, .lst (xs.set j (toR ρ v))) :: W) us ∧ Q h' := by
  unfold oSet' at k
  split at k
  · rename_i n
    split at k
    · rename_i xs e
      split at k
      · rename_i x
        obtain ⟨j, kj, k⟩ := k
        obtain ⟨q, h1, h2, h3⟩ := chg_write (.dd (ys := xs.set j x)) i e (.ds _)
        refine ⟨q, _, j, h1, h2, by rw [toRs_len, List.length_map]; exact kj, fun U1 W hM => ⟨_, ?_, k⟩⟩
        have := h3 U1 W hM
        rwa [List.map_set, toRs_set] at this
      · obtain ⟨j, kj, k⟩ := k
        obtain ⟨q, h1, h2, h3⟩ := chg_write (.du (xs := xs) (vs := (xs.map U.d).set j v)) i e ((Sts.ds xs).set sv)
        refine ⟨q, _, j, h1, h2, by rw [toRs_len, List.length_map]; exact kj, fun U1 W hM => ⟨_, ?_, k⟩⟩
        have := h3 U1 W hM
        rwa [toRs_set] at this
    · rename_i vs e
      obtain ⟨j, kj, k⟩ := k
      have sw : Sts ρ vs := (ls_isM i e).2
      obtain ⟨q, h1, h2, h3⟩ := chg_write (.uu (ws := vs) (vs := vs.set j v)) i e (sw.set sv)
      refine ⟨q, _, j, h1, h2, by rw [toRs_len]; exact kj, fun U1 W hM => ⟨_, ?_, k⟩⟩
      have := h3 U1 W hM
      rwa [toRs_set] at this
    · exact k.elim
  · rename_i n m
    split at k
    · rename_i xss e
      split at k
      · rename_i xs e2
        split at k
        · rename_i x
          obtain ⟨j, kj, k⟩ := k
          obtain ⟨q, h1, h2, h3⟩ := inn_write (ys := xs.set j x) i e e2
          refine ⟨q, _, j, h1, h2, by rw [List.length_map]; exact kj, fun U1 W hM => ⟨_, ?_, k⟩⟩
          have := h3 U1 W hM
          rwa [List.map_set, ← toR_d ρ x] at this
        · exact k.elim
      · exact k.elim
    · exact k.elim
  · exact k.elim
def sSto (E O I : SE) (R : SB) : SB := fun us h D => E us h fun v h1 => O us h1 fun u h2 => I us h2 fun w h3 => match w with
  | .d (.int t) => oSet' u t v h3 fun h4 => R us h4 D
  | _ => False
theorem vb_sto (ha : VE X e A) (hb : VE X o B) (hc : VE X c C) (hR : VB X r Rs) (hs : swapsWithSole [.Subscript o c p] e pos.line X.env = pure false := by first | exact sws_not rfl | rfl) (hsw : swappedStores [.Subscript o c p] e X.env = pure none := by rfl) (h1' : (assignEach [.Subscript o c p] X.env).map (·.2) = [assign (.Subscript o c p) X.env] := by exact as_any rfl)
    (has : ∀ v, assign (.Subscript o c p) X.env v = (do
      let ov ← holding [v] (eval o X.env)
      let iv ← holding [v, ov] (eval c X.env)
      standAt p
      holding [v, ov, iv] (setItem ov iv v)
      release [v, ov, iv] []) := by intro _; rfl) : VB X (.Assign [.Subscript o c p] e pos :: r) (sSto A B C Rs) := .mk fun us h D ρ Z M s i =>
  bx_asg (ha.run s i fun v h1 ρ1 M1 k1 e1 i1 s1 q1 => by
    rw [q1]
    refine gx_subL (hb.run k1 i1 fun u h2 ρ2 M2 k2 e2 i2 s2 q2 => ?_) has
    rw [q2]
    refine hc.run k2 i2 fun w h3 ρ3 M3 k3 e3 i3 s3 q3 => ?_
    split at k3
    · rename_i t
      obtain ⟨q, xs, j, w1, w2, w3, w4⟩ := set_ok i3 ((s1.up e2).up e3) k3
      obtain ⟨U1, W, hM⟩ := List.append_of_mem w2
      obtain ⟨h', i4, k4⟩ := w4 U1 W hM
      rw [s2.st _ e3] at w1
      refine ⟨U1, W, q, xs, t, j, w1, toR_d _ _, hM, w3, ?_⟩
      rw [(s1.up e2).st _ e3, s1.st _ e2] at i4
      rw [q3]
      exact hR.run k4 ((e1.trans e2).trans e3) i4
    · exact k3.elim) hs hsw h1'
end
end Vq
/-! Vc14: cells frozen to data; x += e. -/
namespace Vq
open PySem PySem.Spec PyProof.Rows L2 Hq
mutual
def fz : Nat → U → Hq → Option (PyData × Hq)
  | _, .d x, h => some (x, h)
  | n + 1, .c m, h => match h[m]? with
    | some (.ld xs) => some (.list xs, h.set m .dead)
    | some (.ls vs) => match fzs n vs h with
      | some (xs, h1) => match h1[m]? with
        | some (.ls _) => some (.list xs, h1.set m .dead)
        | _ => none
      | none => none
    | _ => none
  | n + 1, .t vs, h => match fzs n vs h with
    | some (xs, h1) => some (.tuple xs, h1)
    | none => none
  | _, _, _ => none
def fzs : Nat → List U → Hq → Option (List PyData × Hq)
  | _, [], h => some ([], h)
  | 0, _ :: _, _ => none
  | n + 1, v :: vs, h => match fz n v h with
    | some (x, h1) => match fzs n vs h1 with
      | some (xs, h2) => some (x :: xs, h2)
      | none => none
    | none => none
end
section
variable {K : PySem.W.Frag} {ρ : List Ar} {Z : Mem} {us : List U}
theorem frz1 {h : Hq} {M : Mem} {F H : Hp} {m : Nat} {o : Ob} {p : Addr} {xs : List V} {rs : List R} (i : In ρ h Z M us) (ms : Ms K M F H) (e : h[m]? = some o) (ho : ∀ a, ρ[m]? = some a → a.1 = p ∧ mem1 ρ a o = [(p, .lst rs)]) (hp : H p = some (.lst xs)) :
    ∃ M', In ρ (h.set m .dead) Z M' us ∧ Ms K M' (upd F p (.lst xs)) H ∧ Go M F H M' (upd F p (.lst xs)) H := by
  obtain ⟨a, ea, sh, st⟩ := i.gd.at e
  obtain ⟨h1, h2⟩ := ho a ea
  obtain ⟨rest, p1, p2⟩ := cell_set i.gd ea e
  rw [h2] at p1
  have q1 : M.Perm ((p, .lst rs) :: (rest ++ Z)) := i.pm.trans (by rw [← List.cons_append]; exact p1.append_right Z)
  obtain ⟨A, B, hM⟩ := List.append_of_mem (q1.symm.subset List.mem_cons_self)
  subst hM
  obtain ⟨m2, g2⟩ := ms.freeze hp
  refine ⟨A ++ B, ⟨?_, i.gd.set trivial fun _ _ => trivial, i.st⟩, m2, g2⟩
  have p3 := p2 .dead
  have p4 : (A ++ B).Perm (rest ++ Z) := (List.perm_middle.symm.trans q1).cons_inv
  exact p4.trans (p3.symm.append_right Z)
mutual
theorem fz_ok : ∀ (n : Nat) (u : U) (h : Hq) (x : PyData) (h' : Hq), fz n u h = some (x, h') → ∀ {M : Mem} {F H : Hp} {v : V}, In ρ h Z M us → StU ρ u → Ms K M F H → Rr K F v (toR ρ u) → ∃ F' M', Dq F' v x ∧ In ρ h' Z M' us ∧ Ms K M' F' H ∧ Go M F H M' F' H
  | _, .d x, h, y, h', e, M, F, H, v, i, su, ms, w => by
    simp only [fz] at e; cases e
    rw [toR_d] at w
    exact ⟨F, M, rr_d.mp w, i, ms, Go.refl⟩
  | n + 1, .t vs, h, x, h', e, M, F, H, v, i, su, ms, w => by
    simp only [fz] at e
    split at e
    · rename_i xs h1 e1
      cases e
      rw [toR_t] at w
      obtain ⟨a, ys, rfl, w1, w2⟩ := rr_t.mp w
      obtain ⟨F', M', d, i', m', g'⟩ := fzs_ok n vs h xs h' e1 i su.parts ms w2
      exact ⟨F', M', .tup (g'.ex _ _ w1) d, i', m', g'⟩
    · cases e
  | n + 1, .c m, h, x, h', e, M, F, H, v, i, su, ms, w => by
    simp only [fz] at e
    split at e
    · rename_i xs e1
      cases e
      obtain ⟨p, hp, hm⟩ := cell_of (n := m) (vs := xs.map U.d) i (by simp only [els, e1])
      rw [hp] at w
      obtain rfl := rr_v.mp w
      obtain ⟨nF, ys, z1, z2⟩ := ms.mem _ _ hm
      obtain ⟨M', i', m', g'⟩ := frz1 (rs := toRs ρ (xs.map U.d)) i ms e1 (fun a ea => by
        rw [toR_c, ad_of ea] at hp
        have hp : a.1 = p := by cases hp; rfl
        exact ⟨hp, by rw [← hp, toRs_d]; rfl⟩) z1
      rw [toRs_d] at z2
      exact ⟨_, M', .lst upd_same (dqs_up g'.ex _ _ (rrs_dqs z2)), i', m', g'⟩
    · rename_i vs e1
      split at e
      · rename_i xs h1 e2
        split at e
        · rename_i ws e3
          cases e
          obtain ⟨p, hp, hm⟩ := cell_of (n := m) (vs := vs) i (by simp only [els, e1])
          rw [hp] at w
          obtain rfl := rr_v.mp w
          obtain ⟨nF, ys, z1, z2⟩ := ms.mem _ _ hm
          obtain ⟨F1, M1, d, i1, m1, g1⟩ := fzs_ok n vs h xs h1 e2 i (ls_isM i e1).2 ms z2
          obtain ⟨M', i', m', g'⟩ := frz1 (rs := toRs ρ ws) i1 m1 e3 (fun a ea => by
            rw [toR_c, ad_of ea] at hp
            have hp : a.1 = p := by cases hp; rfl
            exact ⟨hp, by rw [← hp, toRs_map]; rfl⟩) z1
          exact ⟨_, M', .lst upd_same (dqs_up g'.ex _ _ d), i', m', g1.trans g'⟩
        · cases e
      · cases e
    · cases e
  | 0, .c _, _, _, _, e, _, _, _, _, _, _, _, _ => by simp [fz] at e
  | 0, .t _, _, _, _, e, _, _, _, _, _, _, _, _ => by simp [fz] at e
  | _, .no, _, _, _, e, _, _, _, _, _, _, _, _ => by simp [fz] at e
  | _, .ci _ _, _, _, _, e, _, _, _, _, _, _, _, _ => by simp [fz] at e
  | _, .s _, _, _, _, e, _, _, _, _, _, _, _, _ => by simp [fz] at e
theorem fzs_ok : ∀ (n : Nat) (vs : List U) (h : Hq) (xs : List PyData) (h' : Hq), fzs n vs h = some (xs, h') → ∀ {M : Mem} {F H : Hp} {ws : List V}, In ρ h Z M us → Sts ρ vs → Ms K M F H → Rrs K F ws (toRs ρ vs) → ∃ F' M', Dqs F' ws xs ∧ In ρ h' Z M' us ∧ Ms K M' F' H ∧ Go M F H M' F' H
  | _, [], h, xs, h', e, M, F, H, ws, i, sv, ms, w => by
    simp only [fzs] at e; cases e
    simp only [toRs] at w
    cases w
    exact ⟨F, M, .nil, i, ms, Go.refl⟩
  | 0, _ :: _, _, _, _, e, _, _, _, _, _, _, _, _ => by simp [fzs] at e
  | n + 1, v :: vs, h, xs, h', e, M, F, H, ws, i, sv, ms, w => by
    simp only [fzs] at e
    split at e
    · rename_i x h1 e1
      split at e
      · rename_i ys h2 e2
        cases e
        simp only [toRs] at w
        cases w with
        | cons w1 w2 =>
          obtain ⟨F1, M1, d1, i1, m1, g1⟩ := fz_ok n v h x h1 e1 i (sv v List.mem_cons_self) ms w1
          obtain ⟨F2, M2, d2, i2, m2, g2⟩ := fzs_ok n vs h1 ys _ e2 i1 (fun u hu => sv u (List.mem_cons_of_mem _ hu)) m1 (Rrs.up g1.ex w2)
          exact ⟨F2, M2, .cons (dq_up g2.ex _ _ d1) d2, i2, m2, g1.trans g2⟩
      · cases e
    · cases e
end
end
/-- frozen -/
def sFz (S : SE) : SE := fun us h Q => S us h fun u h1 => match fz 200 u h1 with
  | some z => Q (.d z.1) z.2
  | none => False
section
variable {X : Cx} {e a b c tg iter elt o : Expr} {us : List U} {h : Hq} {ρ ρ1 ρ2 : List Ar} {Z M : Mem} {pos p p2 apos : Pos} {S A B C E : SE} {Rs : SB} {r : List Stmt} {D : Pq}
theorem ve_fz (ha : VE X e S) : VE X e (sFz S) := .mk fun us h Q ρ Z M s i σ F H st => by
  have q : EX X e (toRs ρ us) M fun r M1 => ∃ u h1 ρ1, r = toR ρ1 u ∧ Ext ρ ρ1 ∧ In ρ1 h1 Z M1 us ∧ StU ρ1 u ∧ ∃ x h2, fz 200 u h1 = some (x, h2) ∧ Q (.d x) h2 := ha.run s i fun u h1 ρ1 M1 k e1 i1 s1 q1 => by
    split at k
    · rename_i z ez
      exact ⟨u, h1, ρ1, rfl, e1, i1, s1, z.1, z.2, ez, k⟩
    · exact k.elim
  refine cE_mono (q σ F H st) fun v H1 ⟨F1, M1, r, w, ⟨u, h1, ρ1, er, e1, i1, s1, x, h2, ef, k⟩, m1, g1⟩ => ?_
  subst er
  obtain ⟨F2, M2, d, i2, m2, g2⟩ := fz_ok (K := X.K) 200 u h1 x h2 ef i1 s1 m1 w
  exact ⟨F2, M2, _, rr_d.mpr d, (in_d i2 k).up e1, m2, g1.trans g2⟩
/-- x += e of ints -/
def sAug (f : Int → Int → Int) (j : Nat) (S : SE) (R : SB) : SB := fun us h D => match us[j]? with
  | some (.d (.int n)) => S us h fun u h1 => match u with
    | .d (.int m) => R (us.set j (.d (.int (f n m)))) h1 D
    | _ => False
  | _ => False
theorem vb_aug (j : Nat) {x : Str} {pos' : Pos} {op : Operator} {f : Int → Int → Int} (ho : PIp X op (ipI f)) (hN : X.N.Nodup) (ha : VE X e S) (hR : VB X r Rs) (hi : X.N[j]? = some x := by rfl) (hx : Loc X.env.scope x := by first | exact Or.inl rfl | exact Or.inr rfl)
    (hf : X.fn x = true ∨ X.env.scope.names.lookup x = some .local := by first | exact .inl rfl | exact .inr rfl) : VB X (.AugAssign (.Name x pos') op e pos :: r) (sAug f j S Rs) := .mk fun us h D ρ Z M s i => by
  unfold sAug at s
  split at s
  · rename_i n en
    have hv : (toRs ρ us)[j]? = some (T n) := by rw [toRs_get en, toR_d]; rfl
    refine bx_augI j ho hN hv (ha.run s i fun u h1 ρ1 M1 k e1 i1 s1 q1 => ?_) hi hx hf
    split at k
    · rename_i m
      rw [toR_d, q1]
      refine ⟨m, rfl, ?_⟩
      have := hR.run k e1 ⟨i1.pm, i1.gd, i1.st.set (.d (.int (f n m)))⟩
      rw [toRs_set, toR_d] at this
      exact this
    · exact k.elim
  · exact s.elim
end
end Vq
/-! Vc15: classes: fields, methods, new instances. -/
namespace Vq
open PySem PySem.Spec PyProof.Rows L2 Hq
/-! ### methods -/
theorem fnG_W {P : Program} {w : World} {K : PySem.W.Frag} {mg : Str → Option Value} {base : Heap} {k : Nat} {x qual : Str} {st : Stmt} {f : Addr} {fd : FuncData} {N ps : List Str} {W : Wp} (D : Fun K x qual st f fd) (S : FnScope N ps (defScope st)) (len : ∀ rs M Q, W rs M Q → rs.length = ps.length)
    (body : ∀ (cd : Value) (A : Around) (fr : List Env) (s : Shared) (G : Hp) (Z : XK) (rs : List R) (M : Mem) (Q : R → Mem → Prop), (bX P w K mg base N qual st f cd A fr s G Z).A.guards = some [] → Room k (bX P w K mg base N qual st f cd A fr s G Z).A → W rs M Q →
      BX (bX P w K mg base N qual st f cd A fr s G Z) (defBody st) (rs ++ List.replicate (N.length - ps.length) .no) M { nx := fun _ M' => Q (.d .none) M', rt := Q }) : FnG P w K mg base CX0 (k + 1) f fd ps (spW K W) := by
  refine fnG_of D S (fun xs G R Z h => ?_) (fun cd A fr s G xs R Z hg hr h => ?_)
  · obtain ⟨rs, M, F, Q, a, b, c, d⟩ := h
    rw [a.length]
    exact len _ _ _ c
  · obtain ⟨rs, M, F, Q, a, b, c, d⟩ := h
    have hl := len _ _ _ c
    have sl : Sl K F (start N xs) (rs ++ List.replicate (N.length - ps.length) .no) := by
      refine ⟨by simp [L2.start, a.length, hl], fun i r hi n => ?_⟩
      unfold L2.start
      by_cases h1 : i < rs.length
      · rw [List.getElem?_append_left h1] at hi
        obtain ⟨v, e1, e2⟩ := rrs_get a hi
        refine ⟨v, ?_, e2⟩
        rw [List.getElem?_append_left (by simpa [a.length] using h1), List.getElem?_map, e1]
        rfl
      · rw [List.getElem?_append_right (by omega), List.getElem?_replicate] at hi
        split at hi
        · cases hi; exact absurd rfl n
        · cases hi
    have q := body cd A fr s G Z rs M Q hg hr c (start N xs) F G ⟨sl, b⟩
    intro pins sh I
    refine wpAny_mono (q pins sh (I.wish _)) (fun fl s' h => ?_) fun _ _ z => False.elim z
    have h := h.unwish
    exact sp_mono h ⟨fun σ' H' ⟨F', M', ds', a', b', c', g'⟩ => d _ _ ⟨F', M', _, rrN, b', c', g'⟩, fun v H' o => d v H' o, fun _ _ ⟨_, _, _, _, z, _⟩ => z.elim, fun _ _ ⟨_, _, _, _, z, _⟩ => z.elim⟩
/-- where a method stands -/
structure AtM (K : PySem.W.Frag) (C : Addr) (m qual : Str) (st : Stmt) : Prop where
  ex : ∃ f fd, Meth K C m f ∧ Fun K m qual st f fd
structure FxM (P : Program) (w : World) (K : PySem.W.Frag) (mg : Str → Option Value) (base : Heap) (k : Nat) (C : Addr) (m qual : Str) (st : Stmt) (ps : List Str) (W : Wp) : Prop where
  ex : ∃ f fd, Meth K C m f ∧ Fun K m qual st f fd ∧ Binds K fd ps [] ∧ FnG P w K mg base CX0 k f fd ps (spW K W)
theorem FxM.mono {P : Program} {w : World} {K : PySem.W.Frag} {mg : Str → Option Value} {base : Heap} {j k : Nat} {C : Addr} {m qual : Str} {st : Stmt} {ps : List Str} {W : Wp} (h : FxM P w K mg base j C m qual st ps W) (l : j ≤ k) : FxM P w K mg base k C m qual st ps W := by
  obtain ⟨f, fd, a, b, c, d⟩ := h.ex
  exact ⟨f, fd, a, b, c, d.mono l⟩
theorem fxm_vc {P : Program} {w : World} {K : PySem.W.Frag} {mg : Str → Option Value} {base : Heap} {k : Nat} {C : Addr} {m qual : Str} {st : Stmt} {N ps : List Str} {sp : Fs} {sem : SB} (a : AtM K C m qual st) (S : FnScope N ps (defScope st)) (hlen : ∀ us h Q, sp us h Q → us.length = ps.length)
    (hb : ∀ (kV doc pm : Value) (an : Option Addr) (cdv ct : Value) (us : List Value), us.length = ps.length → bindArgs (PySem.W.fnOf m qual (defArgs st) (defBody st) (defScope st) .none kV doc pm an cdv ct) ⟨us, []⟩ = pure (ps.zip us))
    (vb : ∀ (f : Addr) (cd : Value) (A : Around) (fr : List Env) (s : Shared) (G : Hp) (Z : XK), (bX P w K mg base N qual st f cd A fr s G Z).A.guards = some [] → Room k (bX P w K mg base N qual st f cd A fr s G Z).A → VB (bX P w K mg base N qual st f cd A fr s G Z) (defBody st) sem)
    (vc : ∀ us h Q, sp us h Q → sem (us ++ List.replicate (N.length - ps.length) .no) h (endq h.length Q)) : FxM P w K mg base (k + 1) C m qual st ps (Wof sp) := by
  obtain ⟨f, fd, hm, D⟩ := a.ex
  refine ⟨f, fd, hm, D, D.binds hb, fnG_W D S (fun rs M Q ⟨us, h, ρ, Z, Q', e, i, s, kk⟩ => by rw [e, toRs_len]; exact hlen _ _ _ s) fun cd A fr s G Z rs M Q hg hr ⟨us, h, ρ, Zm, Q', e, i, s', kk⟩ => ?_⟩
  have i2 : In ρ h Zm M (us ++ List.replicate (N.length - ps.length) .no) := ⟨i.pm, i.gd, fun u hu => (List.mem_append.mp hu).elim (i.st u) fun z => by rw [List.eq_of_mem_replicate z]; exact .no⟩
  have b := (vb f cd A fr s G Z hg hr).out _ h _ ρ Zm M (vc us h Q' s') i2
  have er : toRs ρ (us ++ List.replicate (N.length - ps.length) .no) = rs ++ List.replicate (N.length - ps.length) .no := by
    rw [toRs_app, e, toRs_map ρ (List.replicate _ _), List.map_replicate, toR_no]
  rw [er] at b
  refine bx_fewer b ?_ ?_ (fun _ _ ⟨_, _, _, _, _, _, z⟩ => z) fun _ _ ⟨_, _, _, _, _, _, z⟩ => z
  · rintro ds M' ⟨us', h', ρ', e', ex, i', q⟩
    obtain ⟨M2, f, q2⟩ := gc_out (QR := Q) i.gd ex i'.pm i'.gd (.d .none) q kk
    rw [toR_d] at q2
    exact ⟨M2, f, q2⟩
  · rintro r M' ⟨u, h', ρ', e', pm, ex, gd, su, q⟩
    subst e'
    exact gc_out (QR := Q) i.gd ex pm gd su q kk
/-! ### an instance -/
/-- an instance of C with the fields nms, as far as they are set -/
def insU (C : Addr) (nms : List Str) (u : U) (h : Hq) (P : Nat → List U → Prop) : Prop := match u with
  | .c n => match h[n]? with
    | some (.ins C' nms' vs) => C' = C ∧ nms' = nms ∧ P n vs
    | _ => False
  | _ => False
section
variable {X : Cx} {e a b c tg iter elt o : Expr} {es : List Expr} {us : List U} {h : Hq} {ρ ρ1 ρ2 : List Ar} {Z M : Mem} {pos p p2 apos pos' tpos : Pos} {S A B C E O : SE} {Ss : List SE} {Rs : SB} {r : List Stmt} {D : Pq} {k : Nat} {cC : Addr} {nms : List Str} {m qual x : Str} {st : Stmt} {ps : List Str} {sp : Fs}
theorem insU_of {u : U} {P : Nat → List U → Prop} (s : insU cC nms u h P) : ∃ n vs, u = .c n ∧ h[n]? = some (.ins cC nms vs) ∧ P n vs := by
  unfold insU at s
  split at s
  · rename_i n
    split at s
    · rename_i C' nms' vs e
      obtain ⟨rfl, rfl, q⟩ := s
      exact ⟨n, vs, rfl, e, q⟩
    · exact s.elim
  · exact s.elim
theorem ins_mem {n : Nat} {vs : List U} (i : In ρ h Z M us) (e : h[n]? = some (.ins cC nms vs)) : ∃ p dx, toR ρ (.c n) = .v (.ref p) ∧ (p, Cell.ins cC dx (nms.zip (vs.map (toR ρ)))) ∈ M ∧ Sts ρ vs ∧ ∃ rest, M.Perm ((p, Cell.ins cC dx (nms.zip (vs.map (toR ρ)))) :: rest) ∧ ∀ ws, Sts ρ ws → In ρ (h.set n (.ins cC nms ws)) Z ((p, Cell.ins cC dx (nms.zip (ws.map (toR ρ)))) :: rest) us := by
  obtain ⟨a, ea, sh, st⟩ := i.gd.at e
  obtain ⟨rest, p1, p2⟩ := cell_set i.gd ea e
  refine ⟨a.1, a.2.headD 0, by rw [toR_c, ad_of ea], cell_mem i ea e (List.mem_singleton.mpr rfl), st, rest ++ Z, i.pm.trans (by rw [← List.cons_append]; exact p1.append_right Z), fun ws sw => ⟨?_, i.gd.set sw fun a' ea' => by rw [ea] at ea'; cases ea'; exact sh, i.st⟩⟩
  have := p2 (.ins cC nms ws)
  rw [← List.cons_append]
  exact this.symm.append_right Z
theorem fld_look {K : PySem.W.Frag} {F : Hp} : ∀ {nms : List Str} {rs : List R} {gs : List (Str × V)} {j : Nat} {f : Str} {r : R}, Paired (fun (a : Str × V) (b : Str × R) => a.1 = b.1 ∧ Rr K F a.2 b.2) gs (nms.zip rs) → nms.Nodup → nms[j]? = some f → rs[j]? = some r → ∃ v, gs.lookup f = some v ∧ Rr K F v r
  | [], _, _, _, _, _, _, _, e, _ => by simp at e
  | _ :: _, [], _, _, _, _, _, _, _, e => by simp at e
  | n :: nms, r0 :: rs, _, 0, f, r, .cons (a := g) a b, nd, e1, e2 => by
    have e1 : n = f := by simpa using e1
    have e2 : r0 = r := by simpa using e2
    subst e1 e2
    obtain ⟨g1, g2⟩ := g
    obtain ⟨a1, a2⟩ := a
    dsimp only at a1 a2
    subst a1
    exact ⟨g2, by simp [List.lookup], a2⟩
  | n :: nms, r0 :: rs, _, j + 1, f, r, .cons (a := g) a b, nd, e1, e2 => by
    have e1 : nms[j]? = some f := by simpa using e1
    have nd' := List.nodup_cons.mp nd
    have hne : f ≠ n := fun z => nd'.1 (z ▸ List.mem_of_getElem? e1)
    obtain ⟨v, h1, h2⟩ := fld_look b nd'.2 e1 (by simpa using e2)
    obtain ⟨g1, g2⟩ := g
    obtain ⟨a1, a2⟩ := a
    dsimp only at a1
    subst a1
    refine ⟨v, ?_, h2⟩
    rw [List.lookup_cons, show (f == g1) = false by simpa using hne]
    exact h1
/-- e.f -/
def sFldU (cC : Addr) (nms : List Str) (j : Nat) (S : SE) : SE := fun us h Q => S us h fun u h1 => insU cC nms u h1 fun _ vs => match vs[j]? with
  | some v => Q v h1
  | none => False
theorem ve_fld (j : Nat) {f : Str} (hc : Cls X.K cC) (hn : NoAttr X.K cC f) (hj : nms[j]? = some f) (nd : nms.Nodup) (ha : VE X e S) (hb : attributeBase e f X.env (eval e X.env) = eval e X.env := by rfl) : VE X (.Attribute e f pos) (sFldU cC nms j S) := .mk fun us h Q ρ Z M s i =>
  ex_pe (pe_fld (peC e) hb) fun σ F H st => by
    have q : EX X e (toRs ρ us) M fun r M' => ∃ p dx rs r', r = .v (.ref p) ∧ (p, Cell.ins cC dx (nms.zip rs)) ∈ M' ∧ rs[j]? = some r' ∧ VPost ρ Z Q r' M' := ha.run s i fun u h1 ρ1 M1 k e1 i1 s1 q1 => by
      obtain ⟨n, vs, rfl, en, k⟩ := insU_of k
      obtain ⟨p, dx, hp, hm, sv, _⟩ := ins_mem i1 en
      split at k
      · rename_i v ev
        exact ⟨p, dx, _, _, hp, hm, by rw [List.getElem?_map, ev]; rfl, (in_post i1 (sv v (List.mem_of_getElem? ev)) k).up e1⟩
      · exact k.elim
    refine cE_mono (q σ F H st) fun v H1 ⟨F1, M1, r, w, ⟨p, dx, rs, r', er, hm, hr, q⟩, m1, g1⟩ => ?_
    subst er
    obtain rfl := rr_v.mp w
    obtain ⟨nF, gs, z1, z2⟩ := m1.mem _ _ hm
    obtain ⟨v, hl, w2⟩ := fld_look z2 nd hj hr
    exact ⟨p, cC, dx, gs, v, rfl, z1, hc, hn, hl, Out.trans g1 (Out.mk0 m1 w2 q)⟩
theorem put_set {K : PySem.W.Frag} {F : Hp} {v : V} {r : R} {f : Str} (w : Rr K F v r) : ∀ {nms : List Str} {rs : List R} {gs : List (Str × V)} {j : Nat}, Paired (fun (a : Str × V) (b : Str × R) => a.1 = b.1 ∧ Rr K F a.2 b.2) gs (nms.zip rs) → nms.Nodup → nms[j]? = some f → (j < rs.length → Paired (fun (a : Str × V) (b : Str × R) => a.1 = b.1 ∧ Rr K F a.2 b.2) (L2.putF f v gs) (nms.zip (rs.set j r))) ∧ (j = rs.length → Paired (fun (a : Str × V) (b : Str × R) => a.1 = b.1 ∧ Rr K F a.2 b.2) (L2.putF f v gs) (nms.zip (rs ++ [r])))
  | [], _, _, _, _, _, e => by simp at e
  | n :: nms, [], gs, j, h, nd, e => by
    have hg : gs = [] := by
      rw [List.zip_nil_right] at h
      cases h; rfl
    subst hg
    refine ⟨fun l => by simp at l, fun l => ?_⟩
    have l : j = 0 := by simpa using l
    subst l
    have e : n = f := by simpa using e
    subst e
    show Paired _ [(n, v)] ((n, r) :: nms.zip [])
    rw [List.zip_nil_right]
    exact .cons ⟨rfl, w⟩ .nil
  | n :: nms, r0 :: rs, _, 0, .cons (a := g) a b, nd, e => by
    have e : n = f := by simpa using e
    obtain ⟨g1, g2⟩ := g
    obtain ⟨a1, a2⟩ := a
    dsimp only at a1
    have e2 : g1 = f := a1.trans e
    refine ⟨fun _ => ?_, fun l => by simp at l⟩
    show Paired _ (if g1 = f then (g1, v) :: _ else _) _
    rw [if_pos e2]
    exact .cons ⟨a1, w⟩ b
  | n :: nms, r0 :: rs, _, j + 1, .cons (a := g) a b, nd, e => by
    have e : nms[j]? = some f := by simpa using e
    have nd' := List.nodup_cons.mp nd
    obtain ⟨g1, g2⟩ := g
    obtain ⟨a1, a2⟩ := a
    dsimp only at a1
    have hne : ¬ g1 = f := fun z => nd'.1 (by rw [← a1, z]; exact List.mem_of_getElem? e)
    obtain ⟨h1, h2⟩ := put_set w b nd'.2 e
    refine ⟨fun l => ?_, fun l => ?_⟩
    · show Paired _ (if g1 = f then _ else (g1, g2) :: L2.putF f v _) _
      rw [if_neg hne]
      exact .cons ⟨a1, a2⟩ (h1 (by simpa using l))
    · show Paired _ (if g1 = f then _ else (g1, g2) :: L2.putF f v _) _
      rw [if_neg hne]
      exact .cons ⟨a1, a2⟩ (h2 (by simpa using l))
/-- the fields behind a store at the j-th -/
def setF (vs : List U) (j : Nat) (v : U) : List U := if j < vs.length then vs.set j v else vs ++ [v]
theorem setF_R {vs : List U} {j : Nat} {v : U} : (setF vs j v).map (toR ρ) = if j < (vs.map (toR ρ)).length then (vs.map (toR ρ)).set j (toR ρ v) else vs.map (toR ρ) ++ [toR ρ v] := by
  unfold setF
  rw [List.length_map]
  split
  · rw [List.map_set]
  · rw [List.map_append]; rfl
theorem setF_st {vs : List U} {j : Nat} {v : U} (s : Sts ρ vs) (sv : StU ρ v) : Sts ρ (setF vs j v) := by
  unfold setF
  split
  · exact s.set sv
  · exact fun u hu => (List.mem_append.mp hu).elim (s u) fun z => by rw [List.mem_singleton.mp z]; exact sv
/-- an instance's cell written -/
theorem ins_write {K : PySem.W.Frag} {F H : Hp} {n j : Nat} {vs : List U} {v : U} {f : Str} {y : V} (i : In ρ h Z M us) (ms : Ms K M F H) (e : h[n]? = some (.ins cC nms vs)) (sv : StU ρ v) (w : Rr K F y (toR ρ v)) (hj : nms[j]? = some f) (nd : nms.Nodup) (l : j ≤ vs.length) (hl : nms.length < 1000) :
    ∃ p dx gs M', toR ρ (.c n) = .v (.ref p) ∧ H p = some (.ins cC dx gs) ∧ gs.length < 1000 ∧ In ρ (h.set n (.ins cC nms (setF vs j v))) Z M' us ∧ Ms K M' F (upd H p (.ins cC dx (L2.putF f y gs))) ∧ Go M F H M' F (upd H p (.ins cC dx (L2.putF f y gs))) := by
  obtain ⟨p, dx, hp, hm, sw, rest, pm, back⟩ := ins_mem i e
  obtain ⟨nF, gs, z1, z2⟩ := ms.mem _ _ hm
  have lg : gs.length < 1000 := by
    have := z2.length
    rw [List.length_zip] at this
    omega
  have i2 := back (setF vs j v) (setF_st sw sv)
  obtain ⟨ms1, g1⟩ := ms.perm pm.symm
  obtain ⟨q1, q2⟩ := put_set w z2 nd hj
  have hc : CellOk K F (upd H p (.ins cC dx (L2.putF f y gs))) p (.ins cC dx (nms.zip ((setF vs j v).map (toR ρ)))) := by
    refine ⟨_, upd_same, ?_⟩
    rw [setF_R]
    split
    · rename_i h1; exact q1 h1
    · rename_i h1; exact q2 (by rw [List.length_map] at h1 ⊢; omega)
  obtain ⟨ms2, g2⟩ := Ms.write (A := []) (B := rest) (o := .ins cC dx (L2.putF f y gs)) ms1 hc
  exact ⟨p, dx, gs, _, hp, z1, lg, i2, ms2, g1.trans g2⟩
/-- o.f = e -/
def sFldS (cC : Addr) (nms : List Str) (j : Nat) (E O : SE) (R : SB) : SB := fun us h D => E us h fun v h1 => O us h1 fun u h2 => insU cC nms u h2 fun n vs => j ≤ vs.length ∧ R us (h2.set n (.ins cC nms (setF vs j v))) D
theorem vb_fldS (j : Nat) {f : Str} (hc : Cls X.K cC) (hn : NoAttr X.K cC f) (hj : nms[j]? = some f) (nd : nms.Nodup) (hl : nms.length < 1000) (ha : VE X e E) (hO : VE X o O) (hR : VB X r Rs) (hs : swapsWith e (some (.Attribute o f pos')) pos.line X.env = pure false := by first | exact sw_not rfl | rfl) : VB X (.Assign [.Attribute o f pos'] e pos :: r) (sFldS cC nms j E O Rs) := .mk fun us h D ρ Z M s i =>
  bx_cons (sx_ps (ps_fld (peC o) (peC e) hs) fun σ F H st => by
    have q : EX X e (toRs ρ us) M fun r1 M1 => EX X o (toRs ρ us) M1 fun r2 M2 => ∃ n vs v h2 ρ2, r1 = toR ρ2 v ∧ r2 = toR ρ2 (.c n) ∧ StU ρ2 v ∧ Ext ρ ρ2 ∧ In ρ2 h2 Z M2 us ∧ h2[n]? = some (.ins cC nms vs) ∧ j ≤ vs.length ∧ Rs us (h2.set n (.ins cC nms (setF vs j v))) D := ha.run s i fun v h1 ρ1 M1 k1 e1 i1 s1 q1 => by
      rw [q1]
      refine hO.run k1 i1 fun u h2 ρ2 M2 k2 e2 i2 s2 q2 => ?_
      obtain ⟨n, vs, rfl, en, l, k⟩ := insU_of k2
      exact ⟨n, vs, v, h2, ρ2, (s1.st _ e2).symm, rfl, s1.up e2, e1.trans e2, i2, en, l, k⟩
    refine cE_mono (q σ F H st) fun y H1 ⟨F1, M1, r1, w1, h1, m1, g1⟩ => ?_
    refine cE_mono (h1 σ F1 H1 (st.go g1 m1)) fun x H2 ⟨F2, M2, r2, w2, ⟨n, vs, v, hh, ρ2, er1, er2, sv, ex, i2, en, l, k⟩, m2, g2⟩ => ?_
    subst er1 er2
    obtain ⟨p, dx, gs, M', hp, z1, lg, i3, m3, g3⟩ := ins_write i2 m2 en sv (w1.up g2.ex) hj nd l hl
    rw [hp] at w2
    obtain rfl := rr_v.mp w2
    refine ⟨p, cC, dx, gs, rfl, z1, hc, hn, lg, F2, M', toRs ρ us, st.sl.up ((g1.trans g2).trans g3).ex, ?_, m3, (g1.trans g2).trans g3⟩
    rw [← i.rs ex]
    exact hR.run k ex i3)
/-- o.f += e of ints -/
def sFldA (cC : Addr) (nms : List Str) (g : Int → Int → Int) (j : Nat) (O E : SE) (R : SB) : SB := fun us h D => O us h fun u h1 => insU cC nms u h1 fun n vs => match vs[j]? with
  | some (.d (.int i)) => E us h1 fun v h2 => match v with
    | .d (.int m) => match h2[n]? with
      | some (.ins C' nms' ws) => C' = cC ∧ nms' = nms ∧ j ≤ ws.length ∧ R us (h2.set n (.ins cC nms (setF ws j (.d (.int (g i m)))))) D
      | _ => False
    | _ => False
  | _ => False
theorem vb_fldA (j : Nat) {f : Str} {op : Operator} {g : Int → Int → Int} (hop : InOp X op (fun x y H Q => ∃ i j, x = .int i ∧ y = .int j ∧ Q (.int (g i j)) H)) (hc : Cls X.K cC) (hn : NoAttr X.K cC f) (hj : nms[j]? = some f) (nd : nms.Nodup) (hl : nms.length < 1000) (hO : VE X o O) (ha : VE X e E) (hR : VB X r Rs) : VB X (.AugAssign (.Attribute o f tpos) op e pos :: r) (sFldA cC nms g j O E Rs) := .mk fun us h D ρ Z M s i =>
  bx_cons (sx_ps (ps_fldaug (peC o) (peC e) hop) fun σ F H st => by
    have q : EX X o (toRs ρ us) M fun r1 M1 => ∃ n dx rs v0, r1 = .v (.ref n) ∧ (n, Cell.ins cC dx (nms.zip rs)) ∈ M1 ∧ rs[j]? = some (T (v0 : Int)) ∧ EX X e (toRs ρ us) M1 fun r2 M2 => ∃ k vs m h2 ρ2, r2 = T (m : Int) ∧ toR ρ2 (.c k) = .v (.ref n) ∧ Ext ρ ρ2 ∧ In ρ2 h2 Z M2 us ∧ h2[k]? = some (.ins cC nms vs) ∧ j ≤ vs.length ∧ Rs us (h2.set k (.ins cC nms (setF vs j (.d (.int (g v0 m)))))) D := hO.run s i fun u h1 ρ1 M1 k1 e1 i1 s1 q1 => by
      obtain ⟨n, vs, rfl, en, k⟩ := insU_of k1
      obtain ⟨p, dx, hp, hm, sv, _⟩ := ins_mem i1 en
      split at k
      · rename_i v0 ev
        refine ⟨p, dx, _, v0, hp, hm, by rw [List.getElem?_map, ev]; show some (toR ρ1 (.d (.int v0))) = _; rw [toR_d]; rfl, ?_⟩
        rw [q1]
        refine ha.run k i1 fun v h2 ρ2 M2 k2 e2 i2 s2 q2 => ?_
        split at k2
        · rename_i m
          split at k2
          · rename_i C' nms' ws ew
            obtain ⟨rfl, rfl, l, k3⟩ := k2
            exact ⟨n, ws, m, h2, ρ2, toR_d _ _, by rw [s1.st _ e2, hp], e1.trans e2, i2, ew, l, k3⟩
          · exact k2.elim
        · exact k2.elim
      · exact k.elim
    refine cE_mono (q σ F H st) fun x H1 ⟨F1, M1, r1, w1, ⟨p, dx, rs, v0, er, hm, hr, h1⟩, m1, g1⟩ => ?_
    subst er
    obtain rfl := rr_v.mp w1
    obtain ⟨nF, gs, z1, z2⟩ := m1.mem _ _ hm
    obtain ⟨v, hlk, wv⟩ := fld_look z2 nd hj hr
    refine ⟨p, cC, dx, gs, v, rfl, z1, hc, hn, hlk, ?_⟩
    refine cE_mono (h1 σ F1 H1 (st.go g1 m1)) fun y H2 ⟨F2, M2, r2, w2, ⟨k, vs, m, hh, ρ2, er2, hk, ex, i2, en, l, kk⟩, m2, g2⟩ => ?_
    subst er2
    refine ⟨v0, m, rr_int wv, rr_int w2, ?_⟩
    obtain ⟨p', dx', gs', M', hp', z3, lg, i3, m3, g3⟩ := ins_write (f := f) (y := .int (g v0 m)) (v := .d (.int (g v0 m))) i2 m2 en (.d _) (by rw [toR_d]; exact rrI) hj nd l hl
    rw [hk] at hp'
    cases hp'
    refine ⟨dx', gs', z3, lg, F2, M', toRs ρ us, st.sl.up ((g1.trans g2).trans g3).ex, ?_, m3, (g1.trans g2).trans g3⟩
    rw [← i.rs ex]
    exact hR.run kk ex i3)
end
end Vq
/-! Vc16: calls of methods; new instances. -/
namespace Vq
open PySem PySem.Spec PyProof.Rows L2 Hq
section
variable {X : Cx} {e o : Expr} {es : List Expr} {us : List U} {h : Hq} {ρ ρ1 ρ2 : List Ar} {Z M : Mem} {pos p apos : Pos} {S : SE} {Ss : List SE} {k : Nat} {cC : Addr} {nms : List Str} {m qual x : Str} {st : Stmt} {ps : List Str} {sp : Fs} {Q : R → Mem → Prop} {W : Wp} {ds : List R}
theorem ex_meth {pl : Sem Bool} (G : FxM X.prog X.w X.K X.mg X.base k cC m qual st ps W) (hc : Cls X.K cC) (hg : X.A.guards = some []) (hr : Room k X.A)
    (h : EX X o ds M fun r M1 => ∃ n dx fs, r = .v (.ref n) ∧ (n, Cell.ins cC dx fs) ∈ M1 ∧ fs.lookup m = none ∧ AX X (e :: es) ds M1 fun rs M2 => W (.v (.ref n) :: rs) M2 Q)
    (hst : starEach (e :: es) X.env = (false, eval e X.env) :: starEach es X.env := by exact st_any rfl) (hpl : (backTo pos (starEach es X.env)).any (·.1) = false := by rfl)
    (ht : eval (.Call (.Attribute o m apos) (e :: es) [] pos) X.env = (do
      let ov ← eval o X.env
      standAt apos.atName
      let (f, first) ← holding [ov] (getMethod ov m pl)
      callWith pos f first (backTo pos (starEach (e :: es) X.env)) (backToKw pos (keywordEach [] X.env))) := by rfl) : EX X (.Call (.Attribute o m apos) (e :: es) [] pos) ds M Q := fun σ F H s pins sh I => by
  obtain ⟨f, fd, hm, D, hb, G⟩ := G.ex
  refine PySem.W.methodCall_KW (pl := pl) (thn (h σ F H s pins sh I) fun u s1 ⟨v, H1, I1, rv, F1, M1, r, w, ⟨n, dx, fs, er, hmm, hl, q⟩, m1, g1⟩ => ?_) ht
  subst er
  obtain rfl := rr_v.mp w
  obtain rfl : u = Value.ref n := rv
  obtain ⟨nF, gs, z1, z2⟩ := m1.mem _ _ hmm
  have hl2 : gs.lookup m = none := by
    clear z1 hmm nF
    induction z2 with
    | nil => rfl
    | @cons a b as bs a1 a2 ih =>
      obtain ⟨a11, a12⟩ := a; obtain ⟨b11, b12⟩ := b
      obtain ⟨w1, w2⟩ := a1
      dsimp only at w1
      subst w1
      rw [List.lookup_cons] at hl ⊢
      split at hl
      · cases hl
      · exact ih hl
  refine getmeth_ok I1 z1 hc hm hl2 ?_
  refine PySem.W.callWith_K (first := [.ref n]) (h₀ := X.base) I.ok.mod.kin hm.kp (thn (q σ F1 H1 (s.go g1 m1) pos pins s1 I1) fun us s2 ⟨vs, H2, I2, r2, F2, M2, rs, a2, w2, m2, g2⟩ => ⟨I2.kIn, ?_⟩) hst hpl
  have sp := spW_out (Z := E0) (g1.trans g2) (.cons (rr_v.mpr rfl) a2 : Rrs X.K F2 (.ref n :: vs) (.v (.ref n) :: rs)) m2 w2
  have hl := G.len _ _ _ _ sp
  have r3 : Vals (V.ref n :: vs) (Value.ref n :: us) := .cons rfl r2
  have hb1 := hb s2 (.ref n :: us) I2.kIn (by rw [List.append_nil, ← r3.length]; exact hl)
  rw [List.append_nil] at hb1
  exact call_thn (runG G hg hr hb1 pass0 I2 r3 sp)
/-- o.m(e, ..): the instance's fields bar the method's name -/
def sMeth (cC : Addr) (nms : List Str) (sp : Fs) (S : SE) (Ss : List SE) : SE := fun us h Q => S us h fun u h1 => insU cC nms u h1 fun _ _ => sArgs Ss us h1 fun vs h2 => ∃ sel : List Nat, sel.Nodup ∧ (∀ n ∈ sel, n < h2.length) ∧ callAt sp sel (u :: vs) h2 Q
theorem zip_none {f : Str} : ∀ {nms : List Str} {rs : List R}, f ∉ nms → (nms.zip rs).lookup f = none
  | [], _, _ => rfl
  | _ :: _, [], _ => rfl
  | n :: nms, r :: rs, hn => by
    show (match f == n with | true => some r | false => (nms.zip rs).lookup f) = none
    rw [show (f == n) = false by simp only [beq_eq_false_iff_ne, ne_eq]; intro z; exact hn (z ▸ List.mem_cons_self)]
    exact zip_none fun z => hn (List.mem_cons_of_mem _ z)
theorem ve_meth {pl : Sem Bool} (G : FxM X.prog X.w X.K X.mg X.base k cC m qual st ps (Wof sp)) (hc : Cls X.K cC) (hg : X.A.guards = some []) (hr : Room k X.A) (hn : m ∉ nms) (hO : VE X o S) (ha : VAs X (e :: es) Ss)
    (hst : starEach (e :: es) X.env = (false, eval e X.env) :: starEach es X.env := by exact st_any rfl) (hpl : (backTo pos (starEach es X.env)).any (·.1) = false := by rfl)
    (ht : eval (.Call (.Attribute o m apos) (e :: es) [] pos) X.env = (do
      let ov ← eval o X.env
      standAt apos.atName
      let (f, first) ← holding [ov] (getMethod ov m pl)
      callWith pos f first (backTo pos (starEach (e :: es) X.env)) (backToKw pos (keywordEach [] X.env))) := by rfl) : VE X (.Call (.Attribute o m apos) (e :: es) [] pos) (sMeth cC nms sp S Ss) := .mk fun us h Q ρ Z M s i =>
  ex_meth (pl := pl) G hc hg hr (hO.run s i fun u h1 ρ1 M1 k1 e1 i1 s1 q1 => by
    obtain ⟨n, vs, rfl, en, k⟩ := insU_of k1
    obtain ⟨p, dx, hp, hm, sv, _⟩ := ins_mem i1 en
    refine ⟨p, dx, _, hp, hm, zip_none hn, ?_⟩
    rw [q1]
    refine ha.run k i1 fun vs' h2 ρ2 M2 ⟨sel, nd, lt, q⟩ l e2 i2 s2 q2 => ?_
    have w := call_W nd lt q i2 (.cons (s1.up e2) s2)
    rw [show toRs ρ2 (.c n :: vs') = .v (.ref p) :: toRs ρ2 vs' by rw [← hp, ← s1.st _ e2]; rfl] at w
    exact w.mono fun r M q => (q.up e2).up e1) hst hpl ht
/-! ### a new instance -/
structure Mk1 (K : PySem.W.Frag) (C : Addr) : Prop where
  makes : PySem.W.makesIn K C = true
  kp : PySem.W.keepIn K (.ref C) = true
theorem ex_make (mk : Mk1 X.K cC) (G : FxM X.prog X.w X.K X.mg X.base k cC "__init__" qual st ps W) (hg : X.A.guards = some []) (hr : Room (k + 1) X.A) (hm : X.mg x = some (.ref cC))
    (h : AX X (e :: es) ds M fun rs M1 => ∀ n dx, W (.v (.ref n) :: rs) (M1 ++ (n, Cell.ins cC dx []) :: []) fun r M2 => r = .d .none ∧ Q (.v (.ref n)) M2) (gl : Gl X x := by rfl) (hdb : (x == ("__debug__" : Str)) = false := by decide)
    (he : starEach (e :: es) X.env = (false, eval e X.env) :: starEach es X.env := by exact st_any rfl) (hpl : (backTo pos (starEach es X.env)).any (·.1) = false := by rfl) : EX X (.Call (.Name x p) (e :: es) [] pos) ds M Q := fun σ F H s pins sh I => by
  obtain ⟨f, fd, hM, D, hb, G⟩ := G.ex
  refine wpAny_Call_Name_kw (ld_glob I gl hm ?_ hdb)
  refine PySem.W.callWith_K (h₀ := X.base) I.ok.mod.kin mk.kp (thn (h σ F H s pos pins sh I) fun us s1 ⟨vs, H1, I1, r, F1, M1, rs, a, w, m, g⟩ => ⟨I1.kIn, ?_⟩) he hpl
  have nx : H1 (s1.heap.objs.size + 1) = none := I1.hok.fresh (Nat.le_succ _)
  have nd : H1 s1.heap.objs.size = none := I1.hok.fresh (Nat.le_refl _)
  have hne : s1.heap.objs.size + 1 ≠ s1.heap.objs.size := Nat.succ_ne_self _
  obtain ⟨m1, g1⟩ := m.newF (o := .own (s1.heap.objs.size + 1)) nd
  have nx1 : upd H1 s1.heap.objs.size (.own (s1.heap.objs.size + 1)) (s1.heap.objs.size + 1) = none := by rw [upd_ne hne]; exact nx
  obtain ⟨m2, g2⟩ := Ms.newC (A := M1) (B := []) (o := .ins cC s1.heap.objs.size []) (c := .ins cC s1.heap.objs.size []) (by rw [List.append_nil]; exact m1) nx1 ⟨[], upd_same, .nil⟩
  rw [List.append_nil] at g2
  have I2 := Inv.made (C := cC) I1
  have hw := w (s1.heap.objs.size + 1) s1.heap.objs.size
  have hq := spW_out (X := X) (Z := E0) (vs := .ref (s1.heap.objs.size + 1) :: vs) ((g.trans g1).trans g2) (.cons (rr_v.mpr rfl) (Rrs.up (g1.trans g2).ex a)) m2 hw
  have r2 : Vals (V.ref (s1.heap.objs.size + 1) :: vs) (Value.ref (s1.heap.objs.size + 1) :: us) := .cons rfl r
  have hl : (Value.ref (s1.heap.objs.size + 1) :: us).length = ps.length := by
    rw [← r2.length]; exact G.len _ _ _ _ hq
  have hb1 := hb { s1 with heap := (s1.heap.push PySem.W.emptyDict).push (PySem.W.instObj cC s1.heap.objs.size) } (Value.ref (s1.heap.objs.size + 1) :: us) I2.kIn (by rw [List.append_nil]; exact hl)
  rw [List.append_nil] at hb1
  refine wpAny_call (make_map (f := f) I1.kIn mk.makes hM.at_ (beq_iff_eq.mp hM.fn) (codeAny_mono (G.go _ X.stack _ _ ⟨Value.ref (s1.heap.objs.size + 1) :: us, []⟩ (Value.ref (s1.heap.objs.size + 1) :: us) _ _ E0 hg (hr.make cC us [])
    (I2.env0.make cC us []) hb1 r2 hq) fun r s' hq' => ?_))
  cases r with
  | error e => exact pass0 pins σ _ _ e s' I2 hq'
  | ok fl =>
    cases fl with
    | ret u =>
      obtain ⟨v, H', I3, rv, F3, M3, r3, w3, ⟨er, q3⟩, m3, g3⟩ := I2.after hq'
      subst er
      obtain rfl : v = .non := by cases rr_d.mp w3; rfl
      exact ⟨rv, ⟨V.ref (s1.heap.objs.size + 1), H', I3, rfl, F3, M3, _, rr_v.mpr rfl, q3, m3, g3⟩⟩
    | next => exact False.elim hq'
    | brk => exact False.elim hq'
    | cont => exact False.elim hq'
/-- C(e, ..) -/
def sMake (cC : Addr) (nms : List Str) (sp : Fs) (Ss : List SE) : SE := fun us h Q => sArgs Ss us h fun vs h1 => ∃ sel : List Nat, sel.Nodup ∧ (∀ n ∈ sel, n < h1.length + 1) ∧ callAt sp sel (.c h1.length :: vs) (h1 ++ [.ins cC nms []]) fun u h2 => u = .d .none ∧ Q (.c h1.length) h2
theorem ve_make (mk : Mk1 X.K cC) (G : FxM X.prog X.w X.K X.mg X.base k cC "__init__" qual st ps (Wof sp)) (hg : X.A.guards = some []) (hr : Room (k + 1) X.A) (hm : X.mg x = some (.ref cC)) (ha : VAs X (e :: es) Ss) (gl : Gl X x := by rfl) (hdb : (x == ("__debug__" : Str)) = false := by decide)
    (he : starEach (e :: es) X.env = (false, eval e X.env) :: starEach es X.env := by exact st_any rfl) (hpl : (backTo pos (starEach es X.env)).any (·.1) = false := by rfl) : VE X (.Call (.Name x p) (e :: es) [] pos) (sMake cC nms sp Ss) := .mk fun us h Q ρ Z M s i =>
  ex_make mk G hg hr hm (ha.run s i fun vs h1 ρ1 M1 ⟨sel, nd, lt, q⟩ l e1 i1 s1 q1 n dx => by
    have i2 : In (ρ1 ++ [(n, [dx])]) (h1 ++ [.ins cC nms []]) Z (M1 ++ (n, Cell.ins cC dx []) :: []) us := by
      refine ⟨?_, i1.gd.new (fun _ z => nomatch z) rfl, i1.st.up (Ext.app _ _)⟩
      rw [memOf_new i1.gd]
      have : mem1 (ρ1 ++ [(n, [dx])]) (n, [dx]) (.ins cC nms []) = [(n, Cell.ins cC dx [])] := by simp [mem1]
      rw [this, List.append_assoc]
      refine (i1.pm.append_right _).trans ?_
      rw [List.append_assoc]
      exact List.Perm.append_left _ List.perm_append_comm
    have hl : ρ1.length = h1.length := i1.gd.len
    have en : toR (ρ1 ++ [(n, [dx])]) (.c h1.length) = .v (.ref n) := by
      rw [toR_c, ad_of (a := (n, [dx]))]
      rw [← hl, List.getElem?_append_right (Nat.le_refl _)]
      simp
    have sn : StU (ρ1 ++ [(n, [dx])]) (.c h1.length) := .c (by rw [List.length_append, hl]; simp)
    have w := call_W (us := us) nd (by simpa using lt) q i2 (.cons sn (s1.up (Ext.app _ _)))
    rw [show toRs (ρ1 ++ [(n, [dx])]) (.c h1.length :: vs) = .v (.ref n) :: toRs ρ1 vs by rw [← toRs_st s1 (Ext.app ρ1 [(n, [dx])]), ← en]; rfl] at w
    refine w.mono fun r M q => ?_
    obtain ⟨u, h2, ρ2, a1, a2, a3, a4, a5, ⟨rfl, a6⟩⟩ := q
    refine ⟨by rw [a1, toR_d], .c h1.length, h2, ρ2, ?_, a2, e1.trans ((Ext.app _ _).trans a3), a4, sn.up a3, a6⟩
    rw [sn.st _ a3, en]) gl hdb he hpl
end
end Vq
/-! Vc17: places of lists that change by so much; the first and the rest. -/
namespace Vq
open PySem PySem.Spec PyProof.Rows L2 Hq
section
variable {X : Cx} {e a b c o : Expr} {us : List U} {h : Hq} {ρ ρ1 ρ2 : List Ar} {Z M : Mem} {pos p tpos : Pos} {A B C E S : SE} {Rs : SB} {r : List Stmt} {D : Pq}
theorem get_list : PGet X (rIxL X.K) := by
  intro pins s σ H x y v u Q I rx ry h
  obtain ⟨p, xs, i, z, rfl, rfl, hq, he, q⟩ := h
  cases rx
  obtain ⟨t, rfl⟩ := ry
  obtain ⟨its, r, pl, hz⟩ := I.list hq
  obtain ⟨j, h1, h2, h3, h4, h5⟩ := atI_get he
  obtain ⟨w, ew, rw'⟩ := r.get h2
  have hl := r.length
  have hn := line63
  have fin : EP X pins σ Q w s := ⟨z, H, I, rw', q⟩
  by_cases h0 : 0 ≤ i
  · have hj : i.toNat = j := by
      rw [seqIndex_of h0 h5] at h1
      exact Option.some.inj h1
    exact wpAny_getItem_list pl.isList h0 (by omega) (by rw [hj]; simpa using ew) fin
  · have hj : (i + (its.toArray.size : Int)).toNat = j := by
      rw [seqIndex_neg (by omega) h4] at h1
      rw [List.size_toArray, ← hl]
      exact Option.some.inj h1
    exact wpAny_getItem_list_neg pl.isList (by omega) (by rw [List.size_toArray] <;> omega) (by omega) (by rw [hj]; simpa using ew) fin
/-- o[i] += e of ints -/
def sAugIx (g : Int → Int → Int) (O I E : SE) (R : SB) : SB := fun us h D => O us h fun u h1 => I us h1 fun w h2 => match w with
  | .d (.int t) => ∃ vs n, els h2 u = some vs ∧ atI vs t = some (.d (.int n)) ∧ E us h2 fun v h3 => match v with
    | .d (.int m) => oSet' u t (.d (.int (g n m))) h3 fun h4 => R us h4 D
    | _ => False
  | _ => False
theorem vb_augIx {op : Operator} {g : Int → Int → Int} (hop : PIp X op (ipI g)) (hO : VE X o A) (hI : VE X c C) (hE : VE X e E) (hR : VB X r Rs)
    (ha : ∀ ov iv new, augStore c ov iv new = (do holding [new, ov, iv] (setItem ov iv new); release [new, ov, iv] []; pure .next) := by intros; rfl) : VB X (.AugAssign (.Subscript o c tpos) op e pos :: r) (sAugIx g A C E Rs) := .mk fun us h D ρ Z M s i =>
  bx_cons (sx_ps (ps_augS (peC o) (peC c) get_list (peC e) hop set_list ha) fun σ F H st => by
    have q : EX X o (toRs ρ us) M fun r1 M1 => EX X c (toRs ρ us) M1 fun r2 M2 => ∃ t rs n, r2 = T (t : Int) ∧ IsL M2 r1 rs ∧ atI rs t = some (T (n : Int)) ∧ EX X e (toRs ρ us) M2 fun r3 M3 => ∃ m p xs j, r3 = T (m : Int) ∧ r1 = .v (.ref p) ∧ (p, Cell.lst xs) ∈ M3 ∧ ixN xs.length t = some j ∧ ∀ U1 W, M3 = U1 ++ (p, .lst xs) :: W → ∃ h' ρ', Ext ρ ρ' ∧ In ρ' h' Z (U1 ++ (p, .lst (xs.set j (T (g n m)))) :: W) us ∧ Rs us h' D := hO.run s i fun u h1 ρ1 M1 k1 e1 i1 s1 q1 => by
      rw [q1]
      refine hI.run k1 i1 fun w h2 ρ2 M2 k2 e2 i2 s2 q2 => ?_
      split at k2
      · rename_i t
        obtain ⟨vs, n, ev, en, k3⟩ := k2
        obtain ⟨il, sv⟩ := els_isL i2 ev
        rw [s1.st _ e2] at il
        refine ⟨t, _, n, toR_d _ _, il, by rw [atI_toRs en, toR_d]; rfl, ?_⟩
        rw [q2]
        refine hE.run k3 i2 fun v h3 ρ3 M3 k4 e3 i3 s3 q3 => ?_
        split at k4
        · rename_i m
          obtain ⟨q, xs, j, w1, w2, w3, w4⟩ := set_ok i3 (.d _) k4
          rw [s1.st _ (e2.trans e3)] at w1
          refine ⟨m, q, xs, j, toR_d _ _, w1, w2, w3, fun U1 W hM => ?_⟩
          obtain ⟨h', i4, k5⟩ := w4 U1 W hM
          rw [toR_d] at i4
          exact ⟨h', ρ3, (e1.trans e2).trans e3, i4, k5⟩
        · exact k4.elim
      · exact k2.elim
    refine cE_mono (q σ F H st) fun x H1 ⟨F1, M1, r1, w1, h1, m1, g1⟩ => ?_
    refine cE_mono (h1 σ F1 H1 (st.go g1 m1)) fun y H2 ⟨F2, M2, r2, w2, ⟨t, rs, n, er2, il, en, h2⟩, m2, g2⟩ => ?_
    subst er2
    obtain ⟨p, xs, ex, sq, rr⟩ := il.get m2 (w1.up g2.ex)
    subst ex
    obtain ⟨v, ev, wv⟩ := rrs_atI rr en
    refine ⟨p, xs, t, v, rfl, rr_int w2, sq, ev, ?_⟩
    refine cE_mono (h2 σ F2 H2 (st.go (g1.trans g2) m2)) fun z H3 ⟨F3, M3, r3, w3, ⟨m, p', ys, j, er3, er1, hm, hj, back⟩, m3, g3⟩ => ?_
    subst er3 er1
    have w1' := rr_v.mp w1
    cases w1'
    refine ⟨n, m, rr_int wv, rr_int w3, ?_⟩
    obtain ⟨U1, W, hM⟩ := List.append_of_mem hm
    obtain ⟨h', ρ', ex, i4, k5⟩ := back U1 W hM
    subst hM
    obtain ⟨zs, z1, z2⟩ := (m3.mem _ _ hm).2
    have kk := m3.write (c' := .lst (ys.set j (T (g n m)))) (o := .lst (zs.set j (.int (g n m)))) ⟨_, upd_same, gx_subL.rrs_set j z2 rrI⟩
    refine ⟨_, zs, t, j, rfl, rr_int w2, z1, by rw [z2.length]; exact hj, F3, _, toRs ρ us, st.sl.up ((g1.trans g2).trans g3).ex, ?_, kk.1, ((g1.trans g2).trans g3).trans kk.2⟩
    rw [← i.rs ex]
    exact hR.run k5 ex i4)
/-! ### the first and the rest -/
/-- x, *y = e -/
def sStar (i j : Nat) (S : SE) (R : SB) : SB := fun us h D => S us h fun u h1 => match tps u with
  | some (w :: vs) => match undU vs with
    | some ys => R ((us.set i w).set j (.d (.list ys))) h1 D
    | none => False
  | _ => False
theorem vb_star (i j : Nat) {x y : Str} {px py ps' pt : Pos} {kt : Nat} (hc : X.calm = true) (hN : X.N.Nodup) (ha : VE X e S) (hR : VB X r Rs) (hi : X.N[i]? = some x := by rfl) (hj : X.N[j]? = some y := by rfl) (hx : Loc X.env.scope x := by first | exact Or.inl rfl | exact Or.inr rfl) (hy : Loc X.env.scope y := by first | exact Or.inl rfl | exact Or.inr rfl)
    (hfx : X.fn x = true ∨ X.env.scope.names.lookup x = some .local := by first | exact .inl rfl | exact .inr rfl) (hfy : X.fn y = true ∨ X.env.scope.names.lookup y = some .local := by first | exact .inl rfl | exact .inr rfl)
    (hs : swapsWithSole [.Tuple [.Name x px, .Starred (.Name y py) ps'] kt pt] e pos.line X.env = pure false := by first | exact sws_not rfl | rfl) (hw : swappedStores [.Tuple [.Name x px, .Starred (.Name y py) ps'] kt pt] e X.env = pure none := by rfl) (h1 : (assignEach [.Tuple [.Name x px, .Starred (.Name y py) ps'] kt pt] X.env).map (·.2) = [assign (.Tuple [.Name x px, .Starred (.Name y py) ps'] kt pt) X.env] := by exact as_any rfl)
    (hn : (assignEach [.Name x px, .Starred (.Name y py) ps'] X.env).length = 2 := by rfl) (hst : (assignEach [.Name x px, .Starred (.Name y py) ps'] X.env).findIdx? (·.1) = some 1 := by rfl)
    (h2 : (assignEach [.Name x px, .Starred (.Name y py) ps'] X.env).map (·.2) = assign (.Name x px) X.env :: (assignEach [.Starred (.Name y py) ps'] X.env).map (·.2) := by exact as_any rfl) (h3 : (assignEach [.Starred (.Name y py) ps'] X.env).map (·.2) = (assignEach [.Name y py] X.env).map (·.2) := by rfl) (h4 : (assignEach [.Name y py] X.env).map (·.2) = [assign (.Name y py) X.env] := by exact as_any rfl) :
    VB X (.Assign [.Tuple [.Name x px, .Starred (.Name y py) ps'] kt pt] e pos :: r) (sStar i j S Rs) := .mk fun us h D ρ Z M s i' =>
  bx_asg (ha.run s i' fun u h1 ρ1 M1 k e1 i1 s1 q1 => by
    split at k
    · rename_i w vs et
      split at k
      · rename_i ys eu
        have eu := undU_map eu
        subst eu
        have ht := tps_isT s1 et M1
        rw [show toRs ρ1 (w :: ys.map U.d) = toR ρ1 w :: ys.map R.d by rw [← toRs_d ρ1 ys]; rfl] at ht
        rw [q1]
        have sw : StU ρ1 w := by
          unfold tps at et
          split at et
          · have et := Option.some.inj et
            obtain ⟨x, _, rfl⟩ := List.mem_map.mp (show w ∈ List.map U.d _ by rw [et]; exact List.mem_cons_self)
            exact .d _
          · have et := Option.some.inj et
            exact s1.parts w (by rw [et]; exact List.mem_cons_self)
          · cases et
        refine gx_star hc ht ?_ hn hst
        refine gsx_cons (gx_name i hN (gsx_starred (gsx_cons (gx_name j hN (gsx_nil ?_) hj hy hfy) h4) h3) hi hx hfx) h2
        have q := hR.run k e1 ⟨i1.pm, i1.gd, (i1.st.set sw).set (.d _)⟩
        rw [toRs_set, toRs_set, toR_d] at q
        exact q
      · exact k.elim
    · exact k.elim) hs hw h1
/-- an exception that is not reached -/
theorem vb_raise {x c : Option Expr} : VB X (.Raise x c pos :: r) (fun _ _ _ => False) := .mk fun us h D ρ Z M s i => s.elim
end
/-! ### zip of a frozen list and a list that changes -/
section
variable {X : Cx} {e a b c o : Expr} {us : List U} {h : Hq} {ρ ρ1 ρ2 : List Ar} {Z M : Mem} {pos p tpos : Pos} {A B C E S : SE} {Rs : SB} {r : List Stmt} {D : Pq}
theorem ix_zipC {elts : List Expr} {kk : Nat} {tpos : Pos} {ds : List R} {QI : List R → (Mem → Prop) → Mem → Prop} (hm : X.mg "zip" = none) (h : EX X a ds M fun r1 M1 => EX X b ds M1 fun r2 M2 => ∃ rs qs q2, IsF r1 rs ∧ r2 = .v (.ref q2) ∧ (q2, Cell.lst qs) ∈ M2 ∧ rs.length = qs.length ∧ QI ((List.range rs.length).map fun i => .t [rs.getD i .no, qs.getD i .no]) (fun M => (q2, Cell.lst qs) ∈ M) M2) (gl : Gl X "zip" := by rfl)
    (hp : ∀ {ta : TA}, X.mg "zip" = none → PA X [a, b] ta → PI X (.Tuple elts kk tpos) (.Call (.Name "zip" p) [a, b] [] pos) (RZ.iZipA X.K ta) := by intro _ hm h; exact RZ.pi_zipA rfl hm h)
    (he : starEach [a, b] X.env = (false, eval a X.env) :: starEach [b] X.env := by exact st_any rfl) (he2 : starEach [b] X.env = (false, eval b X.env) :: starEach [] X.env := by exact st_any rfl) : IX X (.Tuple elts kk tpos) (.Call (.Name "zip" p) [a, b] [] pos) ds M QI := ix_pi (hp hm (pa_cons (peC a) (pa_cons (peC b) pa_nil he2) he)) fun σ F H s =>
  cE_mono (h σ F H s) fun v H1 ⟨F1, M1, r1, w1, h1, m1, g1⟩ => cE_mono (h1 σ F1 H1 (s.go g1 m1)) fun u H2 ⟨F2, M2, r2, w2, ⟨rs, qs, q2, f1, er, hm2, hl, q⟩, m2, g2⟩ => by
    subst er
    obtain rfl := rr_v.mp w2
    have w1 := w1.up g2.ex
    obtain ⟨q1, xs, rfl, a1, b1⟩ := f1.get w1
    obtain ⟨ys, a2, b2⟩ := (m2.mem _ _ hm2).2
    refine ⟨q1, q2, xs, ys, rfl, .inl ⟨m2.ex.seq a1, SqL.of a2, F2, M2, _, _, ⟨fun M F H e k mm => ?_, fun i r M F H hi e k mm => ?_⟩, q, hm2, m2, g1.trans g2⟩⟩
    · obtain ⟨zs, c, d⟩ := (mm.mem _ _ k).2
      rw [List.length_map, List.length_range]
      exact ⟨xs, zs, (e.trans mm.ex).seq a1, SqL.of c, .inl (by rw [b1.length]; exact Nat.le_refl _)⟩
    · obtain ⟨zs, c, d⟩ := (mm.mem _ _ k).2
      rw [List.getElem?_map] at hi
      by_cases hlt : i < rs.length
      · rw [List.getElem?_range hlt] at hi
        obtain rfl := Option.some.inj hi
        have hlt2 : i < qs.length := by omega
        obtain ⟨x, c1, c2⟩ := rrs_get b1 (show rs[i]? = some rs[i] by simp [hlt])
        obtain ⟨y, c3, c4⟩ := rrs_get d (show qs[i]? = some qs[i] by simp [hlt2])
        have s1 := (e.trans mm.ex).seq a1
        have s2 : SqL X.K H q2 zs := SqL.of c
        refine ⟨⟨xs, zs, x, y, s1, s2, c1, c3⟩, fun v H' ⟨t, x', y', e1, nt, e2, z1, z2⟩ => ?_⟩
        obtain rfl := Option.some.inj ((z1 xs s1).symm.trans c1)
        obtain rfl := Option.some.inj ((z2 zs s2).symm.trans c3)
        subst e1 e2
        have k := mm.newF (o := .tup [x', y']) nt
        have e3 : rs.getD i R.no = rs[i] := by rw [List.getD_eq_getElem?_getD, show rs[i]? = some rs[i] by simp [hlt]]; rfl
        have e4 : qs.getD i R.no = qs[i] := by rw [List.getD_eq_getElem?_getD, show qs[i]? = some qs[i] by simp [hlt2]]; rfl
        refine ⟨_, rr_t.mpr ⟨t, _, rfl, upd_same, .cons ?_ (.cons ?_ .nil)⟩, k.1, k.2⟩
        · rw [e3]; exact c2.up (e.trans k.2.ex)
        · rw [e4]; exact c4.up k.2.ex
      · rw [List.getElem?_eq_none (by simpa using hlt)] at hi; cases hi
def zpV (xs : List PyData) (vs : List U) : List U := (List.range xs.length).map fun (i : Nat) => U.t [.d (xs.getD i .none), vs.getD i .no]
def iZipC (S1 S2 : SE) : SI := fun us h Q => S1 us h fun u h1 => S2 us h1 fun v h2 => match u, v with
  | .d (.list xs), .c n => match els h2 (.c n) with
    | some vs => xs.length = vs.length ∧ Q (zpV xs vs) (some (n, vs)) h2
    | none => False
  | _, _ => False
theorem vi_zipC {elts : List Expr} {kk : Nat} {tpos : Pos} (hm : X.mg "zip" = none) (ha : VE X a A) (hb : VE X b B) (gl : Gl X "zip" := by rfl)
    (hp : ∀ {ta : TA}, X.mg "zip" = none → PA X [a, b] ta → PI X (.Tuple elts kk tpos) (.Call (.Name "zip" p) [a, b] [] pos) (RZ.iZipA X.K ta) := by intro _ hm h; exact RZ.pi_zipA rfl hm h)
    (he : starEach [a, b] X.env = (false, eval a X.env) :: starEach [b] X.env := by exact st_any rfl) (he2 : starEach [b] X.env = (false, eval b X.env) :: starEach [] X.env := by exact st_any rfl) : VI X (.Tuple elts kk tpos) (.Call (.Name "zip" p) [a, b] [] pos) (iZipC A B) := .mk fun us h Q ρ Z M s i =>
  ix_zipC hm (ha.run s i fun u h1 ρ1 M1 k e1 i1 s1 q1 => by
    rw [q1]
    refine hb.run k i1 fun v h2 ρ2 M2 k2 e2 i2 s2 q2 => ?_
    clear k
    have k := k2
    clear k2
    split at k
    · rename_i xs n
      split at k
      · rename_i vs ev
        obtain ⟨p, c1, c2⟩ := cell_of i2 ev
        have sv := (els_isL i2 ev).2
        rw [toR_d]
        refine ⟨xs.map R.d, toRs ρ2 vs, p, .fz _, c1, c2, by rw [List.length_map, toRs_len]; exact k.1, zpV xs vs, some (n, vs), h2, ρ2, ?_, e1.trans e2, i2, ?_, fun ρ3 h3 M3 us3 e3 i3 k3 => ?_, ev, k.2⟩
        · unfold zpV
          rw [toRs_map ρ2 (List.map _ _), List.map_map, List.length_map]
          refine List.map_congr_left fun i hi => ?_
          have hi := List.mem_range.mp hi
          show _ = toR ρ2 (.t [.d (xs.getD i .none), vs.getD i .no])
          rw [toR_t]
          have hv : i < vs.length := by rw [← k.1]; exact hi
          simp [toRs, toR_d, toRs_map, List.getD_eq_getElem?_getD, hi, hv]
        · intro u hu
          obtain ⟨x, hx, rfl⟩ := List.mem_map.mp hu
          have hx := List.mem_range.mp hx
          refine .t (Sts.cons (.d _) (Sts.cons ?_ .nil))
          rw [List.getD_eq_getElem?_getD, show vs[x]? = some vs[x] by simp [show x < vs.length by rw [← k.1]; exact hx]]
          exact sv _ (List.getElem_mem _)
        · obtain ⟨p', q4, q5⟩ := cell_of i3 (show els h3 (.c n) = some vs from k3)
          rw [toR_keep s2 e3 c1] at q4
          cases q4
          rw [toRs_st sv e3] at q5
          exact q5
      · exact k.elim
    · exact k.elim) gl hp he he2
end
end Vq
/-! Vc18: defs with keyword-only parameters that default to None. -/
namespace Vq
open PySem PySem.Spec PyProof.Rows L2 Hq
/-- a def whose last parameters, ms, are by keyword alone, None where they lack -/
abbrev kwN (ms : List Str) : List (Str × V) := ms.map fun m => (m, V.non)
structure AtN (K : PySem.W.Frag) (mg : Str → Option Value) (x : Str) (st : Stmt) (ms : List Str) : Prop where
  ex : ∃ f fd, mg x = some (.ref f) ∧ FunD K x x (defArgs st) (defBody st) (defScope st) [] (kwN ms) f fd
structure FxN (P : Program) (w : World) (K : PySem.W.Frag) (mg : Str → Option Value) (base : Heap) (k : Nat) (x : Str) (st : Stmt) (ps ms : List Str) (W : Wp) : Prop where
  ex : ∃ f fd, mg x = some (.ref f) ∧ FunD K x x (defArgs st) (defBody st) (defScope st) [] (kwN ms) f fd ∧ FnG P w K mg base CX0 k f fd ps (spW K W)
theorem FxN.mono {P : Program} {w : World} {K : PySem.W.Frag} {mg : Str → Option Value} {base : Heap} {j k : Nat} {x : Str} {st : Stmt} {ps ms : List Str} {W : Wp} (h : FxN P w K mg base j x st ps ms W) (l : j ≤ k) : FxN P w K mg base k x st ps ms W := by
  obtain ⟨f, fd, a, b, d⟩ := h.ex
  exact ⟨f, fd, a, b, d.mono l⟩
theorem funD_fun {K : PySem.W.Frag} {x qual : Str} {st : Stmt} {kws : List (Str × V)} {f : Addr} {fd : FuncData} (F : FunD K x qual (defArgs st) (defBody st) (defScope st) [] kws f fd) : Fun K x qual st f fd := by
  obtain ⟨oc, od, dV, kV, doc, pm, an, cdv, ct, osl, rfl, lk, hcd, hD, hK⟩ := F.ex
  rcases hD with ⟨_, rfl⟩ | ⟨e, _⟩
  · exact ⟨⟨oc, od, kV, doc, pm, an, cdv, ct, osl, rfl, lk, hcd⟩, F.kp⟩
  · exact absurd rfl e
theorem fxn_vc {P : Program} {w : World} {K : PySem.W.Frag} {mg : Str → Option Value} {base : Heap} {k : Nat} {x : Str} {st : Stmt} {N ps ms : List Str} {sp : Fs} {sem : SB} (a : AtN K mg x st ms) (S : FnScope N ps (defScope st)) (hlen : ∀ us h Q, sp us h Q → us.length = ps.length)
    (vb : ∀ (f : Addr) (cd : Value) (A : Around) (fr : List Env) (s : Shared) (G : Hp) (Z : XK), (bX P w K mg base N x st f cd A fr s G Z).A.guards = some [] → Room k (bX P w K mg base N x st f cd A fr s G Z).A → VB (bX P w K mg base N x st f cd A fr s G Z) (defBody st) sem)
    (vc : ∀ us h Q, sp us h Q → sem (us ++ List.replicate (N.length - ps.length) .no) h (endq h.length Q)) : FxN P w K mg base (k + 1) x st ps ms (Wof sp) := by
  obtain ⟨f, fd, hm, D⟩ := a.ex
  refine ⟨f, fd, hm, D, fnG_W (funD_fun D) S (fun rs M Q ⟨us, h, ρ, Z, Q', e, i, s, kk⟩ => by rw [e, toRs_len]; exact hlen _ _ _ s) fun cd A fr s G Z rs M Q hg hr ⟨us, h, ρ, Zm, Q', e, i, s', kk⟩ => ?_⟩
  have i2 : In ρ h Zm M (us ++ List.replicate (N.length - ps.length) .no) := ⟨i.pm, i.gd, fun u hu => (List.mem_append.mp hu).elim (i.st u) fun z => by rw [List.eq_of_mem_replicate z]; exact .no⟩
  have b := (vb f cd A fr s G Z hg hr).out _ h _ ρ Zm M (vc us h Q' s') i2
  have er : toRs ρ (us ++ List.replicate (N.length - ps.length) .no) = rs ++ List.replicate (N.length - ps.length) .no := by
    rw [toRs_app, e, toRs_map ρ (List.replicate _ _), List.map_replicate, toR_no]
  rw [er] at b
  refine bx_fewer b ?_ ?_ (fun _ _ ⟨_, _, _, _, _, _, z⟩ => z) fun _ _ ⟨_, _, _, _, _, _, z⟩ => z
  · rintro ds M' ⟨us', h', ρ', e', ex, i', q⟩
    obtain ⟨M2, f, q2⟩ := gc_out (QR := Q) i.gd ex i'.pm i'.gd (.d .none) q kk
    rw [toR_d] at q2
    exact ⟨M2, f, q2⟩
  · rintro r M' ⟨u, h', ρ', e', pm, ex, gd, su, q⟩
    subst e'
    exact gc_out (QR := Q) i.gd ex pm gd su q kk
section
variable {X : Cx} {e a b c o : Expr} {es : List Expr} {us : List U} {h : Hq} {ρ ρ1 ρ2 : List Ar} {Z M : Mem} {pos p apos : Pos} {S : SE} {Ss Ts : List SE} {k : Nat} {x : Str} {st : Stmt} {ps ms : List Str} {sp : Fs} {Q : R → Mem → Prop} {W : Wp} {ds : List R} {kws : List Keyword}
theorem non_rrs {K : PySem.W.Frag} {F : Hp} : ∀ ms : List Str, Rrs K F ((kwN ms).map (·.2)) (ms.map fun _ => R.d .none)
  | [] => .nil
  | m :: ms => .cons rrN (non_rrs ms)
/-- f(e, ..): the rest lacks -/
theorem ex_callN (G : FxN X.prog X.w X.K X.mg X.base k x st ps ms W) (hg : X.A.guards = some []) (hr : Room k X.A) (n : Nat) (hn : n + ms.length = ps.length) (hk : ms ≠ [])
    (hb : ∀ (D : Addr) (doc pm : Value) (an : Option Addr) (cdv ct : Value) (us ks : List Value), us.length = n → ks.length = ms.length → KwChain D (ms.zip ks) (bindArgs (PySem.W.fnOf x x (defArgs st) (defBody st) (defScope st) .none (.ref D) doc pm an cdv ct) ⟨us, []⟩) (ps.zip (us ++ ks)))
    (h : AX X (e :: es) ds M fun rs M1 => W (rs ++ ms.map fun _ => R.d .none) M1 Q) (gl : Gl X x := by rfl) (hdb : (x == ("__debug__" : Str)) = false := by decide) (he : starEach (e :: es) X.env = (false, eval e X.env) :: starEach es X.env := by exact st_any rfl)
    (hpl : (backTo pos (starEach es X.env)).any (·.1) = false := by rfl) : EX X (.Call (.Name x p) (e :: es) [] pos) ds M Q := fun σ F H s pins sh I => by
  obtain ⟨f, fd, hm, D, G⟩ := G.ex
  obtain ⟨dv, rd, bd⟩ := D.binds0 (ps := ps) n (by simpa using hk) (by simpa using hn) fun D doc pm an cdv ct us ks l1 l2 => by
    have z := hb D doc pm an cdv ct us ks l1 (by simpa using l2)
    rw [show (kwN ms).map (·.1) = ms by simp [kwN, Function.comp_def]]
    exact z
  refine wpAny_Call_Name_kw (ld_glob I gl hm ?_ hdb)
  refine PySem.W.callWith_K (h₀ := X.base) I.ok.mod.kin D.kp (thn (h σ F H s pos pins sh I) fun us s1 ⟨vs, H1, I1, r, F1, M1, rs, a, w, m, g⟩ => ⟨I1.kIn, ?_⟩) he hpl
  have sp := spW_out (Z := E0) g (rrs_app a (non_rrs ms)) m w
  have hl := G.len _ _ _ _ sp
  have r2 : Vals (vs ++ (kwN ms).map (·.2)) (us ++ dv) := r.append rd
  exact call_thn (runG G hg hr (bd s1 us I1.kIn (by rw [← r2.length]; exact hl)) pass0 I1 r2 sp)
/-- f(e, .., k = v, ..): the keywords ms, in this order -/
theorem ex_callNK (G : FxN X.prog X.w X.K X.mg X.base k x st ps ms W) (hg : X.A.guards = some []) (hr : Room k X.A) (n : Nat)
    (hb : ∀ (kV doc pm : Value) (an : Option Addr) (cdv ct : Value) (us ks : List Value), us.length = n → ks.length = ms.length → bindArgs (PySem.W.fnOf x x (defArgs st) (defBody st) (defScope st) .none kV doc pm an cdv ct) ⟨us, ms.zip ks⟩ = pure (ps.zip (us ++ ks)))
    (h : AX X (e :: es) ds M fun rs M1 => rs.length = n ∧ KX X kws ds M1 fun qs M2 => qs.length = ms.length ∧ W (rs ++ qs) M2 Q) (gl : Gl X x := by rfl) (hall : (backToKw pos (keywordEach kws X.env)).all (·.1.isSome) = true := by rfl) (hks : (backToKw pos (keywordEach kws X.env)).filterMap (·.1) = ms := by rfl) (hdb : (x == ("__debug__" : Str)) = false := by decide) (he : starEach (e :: es) X.env = (false, eval e X.env) :: starEach es X.env := by exact st_any rfl)
    (hpl : ((backTo pos (starEach (e :: es) X.env)).any (·.1) || (backToKw pos (keywordEach kws X.env)).any (·.1.isNone)) = false := by rfl) : EX X (.Call (.Name x p) (e :: es) kws pos) ds M Q := fun σ F H s pins sh I => by
  obtain ⟨f, fd, hm, D, G⟩ := G.ex
  have D' := funD_fun D
  refine wpAny_Call_Name_kw (ld_glob I gl hm ?_ hdb)
  refine PySem.W.callWith_KW (h₀ := X.base) I.ok.mod.kin D.kp hall (thn (h σ F H s pos pins sh I) fun us s1 ⟨vs, H1, I1, r, F1, M1, rs, a, ⟨hn, q⟩, m, g⟩ => ?_) hpl he
  refine thn (q σ F1 H1 (s.go g m) pos pins s1 I1) fun ws s2 ⟨zs, H2, I2, rz, F2, M2, qs, a2, ⟨hq, w⟩, m2, g2⟩ => ⟨I2.kIn, ?_⟩
  rw [hks]
  have sp := spW_out (Z := E0) (g.trans g2) (rrs_app (a.up g2.ex) a2) m2 w
  obtain ⟨oc, od, kV, doc, pm, an, cd, ct, osl, rfl, lk, hcd⟩ := D'.ex
  exact call_thn (runG G hg hr (.of_eq (hb kV doc pm an cd ct us ws (by rw [← r.length, a.length]; exact hn) (by rw [← rz.length, a2.length]; exact hq))) pass0 I2 (r.append rz) sp)
/-- f(k = v, ..): all by name -/
theorem ex_callNKw (ix : List Nat) (ks : List Str) (G : FxN X.prog X.w X.K X.mg X.base k x st ps ms W) (hg : X.A.guards = some []) (hr : Room k X.A) (h : KX X kws ds M fun rs M1 => rs.length = ks.length ∧ W (ix.map fun i => rs.getD i .no) M1 Q)
    (hix : ∀ i ∈ ix, i < ks.length) (hb : ∀ (kV doc pm : Value) (an : Option Addr) (cdv ct : Value) (ws : List Value), ws.length = ks.length → bindArgs (PySem.W.fnOf x x (defArgs st) (defBody st) (defScope st) .none kV doc pm an cdv ct) ⟨[], ks.zip ws⟩ = pure (ps.zip (ix.map fun i => ws.getD i .none)))
    (gl : Gl X x := by rfl) (hall : (backToKw pos (keywordEach kws X.env)).all (·.1.isSome) = true := by rfl) (hks : (backToKw pos (keywordEach kws X.env)).filterMap (·.1) = ks := by rfl) (hdb : (x == ("__debug__" : Str)) = false := by decide)
    (hpl : ((backTo pos (starEach [] X.env)).any (·.1) || (backToKw pos (keywordEach kws X.env)).any (·.1.isNone)) = false := by rfl) : EX X (.Call (.Name x p) [] kws pos) ds M Q := fun σ F H s pins sh I => by
  obtain ⟨f, fd, hm, D, G⟩ := G.ex
  have D' := funD_fun D
  refine wpAny_Call_Name_kw (ld_glob I gl hm ?_ hdb)
  refine PySem.W.callWith_KW0 (h₀ := X.base) I.ok.mod.kin D.kp hall (thn (h σ F H s pos pins sh I) fun us s1 ⟨vs, H1, I1, r, F1, M1, rs, a, ⟨hl, w⟩, m, g⟩ => ⟨I1.kIn, ?_⟩) hpl
  rw [hks]
  obtain ⟨vs', w1, w2⟩ := rrs_perm a r ix fun i hi => by rw [hl]; exact hix i hi
  have sp := spW_out (Z := E0) g w1 m w
  obtain ⟨oc, od, kV, doc, pm, an, cd, ct, osl, rfl, lk, hcd⟩ := D'.ex
  exact call_thn (runG G hg hr (.of_eq (hb kV doc pm an cd ct us (by rw [← r.length, a.length]; exact hl))) pass0 I1 w2 sp)
/-! ### without cells -/
def sCallN0 (sp : Fs) (m : Nat) (Ss : List SE) : SE := fun us h Q => sArgs Ss us h fun vs h1 => callAt0 sp (vs ++ List.replicate m (.d .none)) h1 Q
theorem ve_callN0 (n : Nat) (G : FxN X.prog X.w X.K X.mg X.base k x st ps ms (Wof sp)) (hg : X.A.guards = some []) (hr : Room k X.A) (hk : ms ≠ []) (ha : VAs X (e :: es) Ss)
    (hb : ∀ (D : Addr) (doc pm : Value) (an : Option Addr) (cdv ct : Value) (us ks : List Value), us.length = n → ks.length = ms.length → KwChain D (ms.zip ks) (bindArgs (PySem.W.fnOf x x (defArgs st) (defBody st) (defScope st) .none (.ref D) doc pm an cdv ct) ⟨us, []⟩) (ps.zip (us ++ ks)))
    (hn : n + ms.length = ps.length := by rfl) (gl : Gl X x := by rfl) (hdb : (x == ("__debug__" : Str)) = false := by decide) (he : starEach (e :: es) X.env = (false, eval e X.env) :: starEach es X.env := by exact st_any rfl)
    (hpl : (backTo pos (starEach es X.env)).any (·.1) = false := by rfl) : VE X (.Call (.Name x p) (e :: es) [] pos) (sCallN0 sp ms.length Ss) := .mk fun us h Q ρ Z M s i =>
  ex_callN G hg hr n hn hk hb (ha.run s i fun vs h1 ρ1 M1 q l e1 i1 s1 q1 => by
    have sn : Sts ρ1 (vs ++ List.replicate ms.length (.d .none)) := fun u hu => (List.mem_append.mp hu).elim (s1 u) fun z => by rw [List.eq_of_mem_replicate z]; exact .d _
    have w := (call_W List.nodup_nil (fun _ h => nomatch h) (callAt_0 q) i1 sn).mono fun r M q => q.up e1
    rw [toRs_app, toRs_map ρ1 (List.replicate _ _), List.map_replicate, toR_d] at w
    rw [List.map_const']
    exact w) gl hdb he hpl
def sCallNK0 (sp : Fs) (Ss Ts : List SE) : SE := fun us h Q => sArgs Ss us h fun vs h1 => sArgs Ts us h1 fun ws h2 => callAt0 sp (vs ++ ws) h2 Q
theorem ve_callNK0 {kws : List Keyword} (n : Nat) (G : FxN X.prog X.w X.K X.mg X.base k x st ps ms (Wof sp)) (hg : X.A.guards = some []) (hr : Room k X.A) (ha : VAs X (e :: es) Ss) (hT : VKs X kws Ts)
    (hb : ∀ (kV doc pm : Value) (an : Option Addr) (cdv ct : Value) (us ks : List Value), us.length = n → ks.length = ms.length → bindArgs (PySem.W.fnOf x x (defArgs st) (defBody st) (defScope st) .none kV doc pm an cdv ct) ⟨us, ms.zip ks⟩ = pure (ps.zip (us ++ ks)))
    (hn : (e :: es).length = n := by rfl) (hm : kws.length = ms.length := by rfl) (gl : Gl X x := by rfl) (hall : (backToKw pos (keywordEach kws X.env)).all (·.1.isSome) = true := by rfl) (hks : (backToKw pos (keywordEach kws X.env)).filterMap (·.1) = ms := by rfl) (hdb : (x == ("__debug__" : Str)) = false := by decide) (he : starEach (e :: es) X.env = (false, eval e X.env) :: starEach es X.env := by exact st_any rfl)
    (hpl : ((backTo pos (starEach (e :: es) X.env)).any (·.1) || (backToKw pos (keywordEach kws X.env)).any (·.1.isNone)) = false := by rfl) : VE X (.Call (.Name x p) (e :: es) kws pos) (sCallNK0 sp Ss Ts) := .mk fun us h Q ρ Z M s i =>
  ex_callNK G hg hr n hb (ha.run s i fun vs h1 ρ1 M1 q l e1 i1 s1 q1 => by
    refine ⟨by rw [toRs_len, l, hn], ?_⟩
    rw [q1]
    refine kx_mono (hT.out us h1 _ ρ1 Z M1 q i1) fun rs M2 ⟨ws, h2, ρ2, er, l2, pm, ex, gd, st, q⟩ => ?_
    subst er
    refine ⟨by rw [toRs_len, l2, hm], ?_⟩
    have sn : Sts ρ2 (vs ++ ws) := fun u hu => (List.mem_append.mp hu).elim (s1.up ex u) (st u)
    have w := (call_W (us := us) List.nodup_nil (fun _ h => nomatch h) (callAt_0 q) ⟨pm, gd, i1.st.up ex⟩ sn).mono fun r M q => (q.up ex).up e1
    rw [toRs_app, toRs_st s1 ex] at w
    exact w) gl hall hks hdb he hpl
theorem ve_callNKw0 {kws : List Keyword} (ix : List Nat) (ks : List Str) (G : FxN X.prog X.w X.K X.mg X.base k x st ps ms (Wof sp)) (hg : X.A.guards = some []) (hr : Room k X.A) (ha : VKs X kws Ss)
    (hix : ∀ i ∈ ix, i < ks.length) (hb : ∀ (kV doc pm : Value) (an : Option Addr) (cdv ct : Value) (ws : List Value), ws.length = ks.length → bindArgs (PySem.W.fnOf x x (defArgs st) (defBody st) (defScope st) .none kV doc pm an cdv ct) ⟨[], ks.zip ws⟩ = pure (ps.zip (ix.map fun i => ws.getD i .none)))
    (hl : kws.length = ks.length := by rfl) (gl : Gl X x := by rfl) (hall : (backToKw pos (keywordEach kws X.env)).all (·.1.isSome) = true := by rfl) (hks : (backToKw pos (keywordEach kws X.env)).filterMap (·.1) = ks := by rfl) (hdb : (x == ("__debug__" : Str)) = false := by decide)
    (hpl : ((backTo pos (starEach [] X.env)).any (·.1) || (backToKw pos (keywordEach kws X.env)).any (·.1.isNone)) = false := by rfl) : VE X (.Call (.Name x p) [] kws pos) (sCallK0 sp ix Ss) := .mk fun us h Q ρ Z M s i =>
  ex_callNKw ix ks G hg hr (kx_mono (ha.out us h _ ρ Z M s i) fun rs M1 ⟨vs, h1, ρ1, e1, l, pm, ex, gd, st, q⟩ => by
    subst e1
    refine ⟨by rw [toRs_len, l, hl], ?_⟩
    rw [perm_rs]
    exact (call_W (us := us) List.nodup_nil (fun _ h => nomatch h) (callAt_0 q) ⟨pm, gd, i.st.up ex⟩ (perm_st st)).mono fun r M q => q.up ex) hix hb gl hall hks hdb hpl
end
end Vq
/-! Vc19: where a class stands. -/
namespace Vq
open PySem PySem.Spec PyProof.Rows L2 Hq
/-- a class of the text at C, whose instances have these fields -/
structure ClsT (K : PySem.W.Frag) (mg : Str → Option Value) (x : Str) (C : Addr) (nms : List Str) : Prop where
  cl : Cls K C
  no : ∀ f ∈ nms, NoAttr K C f
  made : Mk1 K C
  glo : mg x = some (.ref C)
theorem ino_add {X : Cx} : InOp X .Add (fun x y H Q => ∃ i j, x = .int i ∧ y = .int j ∧ Q (.int ((fun i j => i + j) i j)) H) := in_add
theorem ino_sub {X : Cx} : InOp X .Sub (fun x y H Q => ∃ i j, x = .int i ∧ y = .int j ∧ Q (.int ((fun i j => i - j) i j)) H) := in_sub
/-- [..] * n as a cell -/
def oRepC : SO := fun x y h Q => match x, y with
  | .d (.list xs), .d (.int k) => -(2 ^ 63) ≤ k ∧ k < 2 ^ 63 ∧ xs.length * k.toNat ≤ sizeLine ∧ Q (.c h.length) (h ++ [.ld (List.replicate k.toNat xs).flatten])
  | _, _ => False
theorem os_repC {X : Cx} : OpS X rRep oRepC := fun x y us h Q ρ Z M s i sx sy => by
  unfold oRepC at s
  split at s
  · rename_i xs k
    rw [toR_d, toR_d]
    intro F H x y m w1 w2
    obtain ⟨p, vs, rfl, a, b⟩ := (IsM.fz (M := M) _).get m w1
    refine ⟨p, _, vs, rfl, rr_int w2, a, s.1, s.2.1, by rw [b.length, List.length_map]; exact s.2.2.1, fun z nz => ?_⟩
    have np := new_postO (o := .ld (List.replicate k.toNat xs).flatten) (vs := ((List.replicate k.toNat xs).flatten).map U.d) rfl i (.ds _) s.2.2.2 z
    rw [toRs_d] at np
    exact Out.mk (Ms.newC (A := M) (B := []) (c := .lst _) (by rw [List.append_nil]; exact m) nz ⟨_, upd_same, rrs_rep b _⟩ |>.imp id fun g => by rw [List.append_nil] at g; exact g) (rr_v.mpr rfl) np
  · exact s.elim
theorem ve_repC {X : Cx} {a b : Expr} {A B : SE} {pos : Pos} (ha : VE X a A) (hb : VE X b B) : VE X (.BinOp a .Mult b pos) (sBin oRepC A B) := ve_bin op_rep mo_rep os_repC ha hb
end Vq
/-! Vl: loops and comprehensions by typed states. -/
namespace Vq
open PySem PySem.Spec PyProof.Rows L2 Hq
section
variable {T : ST} {E : SE} {body R : SB} {D : Pq} {t : Tg} {S : Type}
/-- while, by a state and a measure -/
theorem wl_t (st : S → List U) (hp : S → Hq) (J : S → Prop) (μ : S → Nat)
    (step : ∀ s, J s → ∀ N : List U → Hq → Prop, (∀ s' us h, Wku us (st s') → h = hp s' → J s' → μ s' < μ s → N us h) → T (st s) (hp s) fun b h1 => If b (body (st s) h1 { nx := N, rt := D.rt, bk := fun us h => R us h D, ct := N }) (R (st s) h1 D)) :
    ∀ (n : Nat) (s : S), J s → μ s < n → wl T body R D n (st s) (hp s)
  | 0, s, _, l => by omega
  | n + 1, s, j, l => step s j _ fun s' us h w e j' l' => ⟨st s', w, by subst e; exact wl_t st hp J μ step n s' j' (by omega)⟩
theorem while_t (st : S → List U) (hp : S → Hq) (J : S → Prop) (μ : S → Nat) (s0 : S) {us : List U} {h : Hq} (w : Wku us (st s0)) (e : h = hp s0) (j : J s0)
    (step : ∀ s, J s → ∀ N : List U → Hq → Prop, (∀ s' us h, Wku us (st s') → h = hp s' → J s' → μ s' < μ s → N us h) → T (st s) (hp s) fun b h1 => If b (body (st s) h1 { nx := N, rt := D.rt, bk := fun us h => R us h D, ct := N }) (R (st s) h1 D)) : sWhile T body R us h D :=
  ⟨st s0, μ s0 + 1, w, by subst e; exact wl_t st hp J μ step _ s0 j (Nat.lt_succ_self _)⟩
/-- for, by a state -/
theorem lp_t {γ : Type} {kp : Kp} (xs : List γ) (φ : γ → U) (st : S → List U) (hp : S → Hq) (J : Nat → S → Prop) (hk : ∀ i s, J i s → kpH kp (hp s))
    (step : ∀ i x s, xs[i]? = some x → J i s → ∀ N : List U → Hq → Prop, (∀ s' us h, Wku us (st s') → h = hp s' → J (i + 1) s' → N us h) → match asg t (φ x) (st s) with
      | some us1 => body us1 (hp s) { nx := N, rt := D.rt, bk := fun us h => R us h D, ct := N }
      | none => False)
    (fin : ∀ s, J xs.length s → R (st s) (hp s) D) : ∀ (i : Nat) (s : S), i ≤ xs.length → J i s → lp kp t body R D ((xs.drop i).map φ) (st s) (hp s) := by
  intro i s l
  generalize hn : xs.length - i = n
  intro j
  induction n generalizing i s with
  | zero =>
    have e : i = xs.length := by omega
    subst e
    rw [List.drop_length, List.map_nil]
    exact kOk_iff.mpr ⟨hk _ _ j, fin s j⟩
  | succ n ih =>
    have hi : i < xs.length := by omega
    rw [List.drop_eq_getElem_cons hi, List.map_cons]
    refine kOk_iff.mpr ⟨hk _ _ j, ?_⟩
    have q := step i xs[i] s (by simp [hi]) j (fun us2 h2 => ∃ us3, Wku us2 us3 ∧ lp kp t body R D ((xs.drop (i + 1)).map φ) us3 h2) fun s' us h w e j' => ⟨st s', w, by subst e; exact ih (i + 1) s' (by omega) (by omega) j'⟩
    exact q
theorem for_t {γ : Type} {kp : Kp} (xs : List γ) (φ : γ → U) (st : S → List U) (hp : S → Hq) (J : Nat → S → Prop) (s0 : S) {us : List U} {h : Hq} {items : List U} (he : items = xs.map φ) (w : Wku us (st s0)) (e : h = hp s0) (j : J 0 s0)
    (step : ∀ i x s, xs[i]? = some x → J i s → ∀ N : List U → Hq → Prop, (∀ s' us h, Wku us (st s') → h = hp s' → J (i + 1) s' → N us h) → match asg t (φ x) (st s) with
      | some us1 => body us1 (hp s) { nx := N, rt := D.rt, bk := fun us h => R us h D, ct := N }
      | none => False)
    (fin : ∀ s, J xs.length s → R (st s) (hp s) D) (hk : ∀ i s, J i s → kpH kp (hp s) := by exact fun _ _ _ => trivial) : ∃ us1, Wku us us1 ∧ lp kp t body R D items us1 h :=
  ⟨st s0, w, by subst he e; exact lp_t xs φ st hp J hk step fin 0 s0 (Nat.zero_le _) j⟩
/-- the ways of an if joined -/
theorem ifC_t {A B : SB} {us : List U} {h : Hq} (sl : S → List U) (hp : S → Hq) (J : S → Prop) (s : T us h fun k h1 => If k (A us h1 { D with nx := fun us h => ∃ s, Wku us (sl s) ∧ h = hp s ∧ J s }) (B us h1 { D with nx := fun us h => ∃ s, Wku us (sl s) ∧ h = hp s ∧ J s })) (k : ∀ s, J s → R (sl s) (hp s) D) : sIfC T A B R us h D :=
  ⟨_, s, fun us1 h1 ⟨s, w, e, j⟩ => ⟨sl s, w, by subst e; exact k s j⟩⟩
/-! ### comprehensions -/
variable {us : List U} {h : Hq} {Q : U → Hq → Prop} {QA : List U → Hq → Prop}
/-- each element a value that hangs on nothing -/
theorem lc_map {γ : Type} {kp : Kp} (xs : List γ) (φ f : γ → U) (hk : kpH kp h) (he : ∀ x ∈ xs, ∃ us1, asg t (φ x) us = some us1 ∧ ∀ K : U → Hq → Prop, K (f x) h → E us1 h K) (q : QA (xs.map f) h) : lc kp t E us QA (xs.map φ) [] h := by
  have gen : ∀ (xs : List γ) (acc : List U), (∀ x ∈ xs, ∃ us1, asg t (φ x) us = some us1 ∧ ∀ K : U → Hq → Prop, K (f x) h → E us1 h K) → QA (acc ++ xs.map f) h → lc kp t E us QA (xs.map φ) acc h := by
    intro xs
    induction xs with
    | nil => intro acc _ q; exact kOk_iff.mpr ⟨hk, by simpa using q⟩
    | cons x xs ih =>
      intro acc he q
      obtain ⟨us1, e1, e2⟩ := he x List.mem_cons_self
      rw [List.map_cons]
      refine kOk_iff.mpr ⟨hk, ?_⟩
      rw [e1]
      exact e2 _ (ih _ (fun y hy => he y (List.mem_cons_of_mem _ hy)) (by simpa using q))
  exact gen xs [] he (by simpa using q)
theorem lcf_map {γ : Type} {kp : Kp} (xs : List γ) (φ f : γ → U) (p : γ → Bool) (hk : kpH kp h) (he : ∀ x ∈ xs, ∃ us1, asg t (φ x) us = some us1 ∧ (∀ K : Bool → Hq → Prop, K (p x) h → T us1 h K) ∧ (p x = true → ∀ K : U → Hq → Prop, K (f x) h → E us1 h K)) (q : QA ((xs.filter p).map f) h) : lcf kp t T E us QA (xs.map φ) [] h := by
  have gen : ∀ (xs : List γ) (acc : List U), (∀ x ∈ xs, ∃ us1, asg t (φ x) us = some us1 ∧ (∀ K : Bool → Hq → Prop, K (p x) h → T us1 h K) ∧ (p x = true → ∀ K : U → Hq → Prop, K (f x) h → E us1 h K)) → QA (acc ++ (xs.filter p).map f) h → lcf kp t T E us QA (xs.map φ) acc h := by
    intro xs
    induction xs with
    | nil => intro acc _ q; exact kOk_iff.mpr ⟨hk, by simpa using q⟩
    | cons x xs ih =>
      intro acc he q
      obtain ⟨us1, e1, e2, e3⟩ := he x List.mem_cons_self
      have he' := fun y hy => he y (List.mem_cons_of_mem x hy)
      rw [List.map_cons]
      refine kOk_iff.mpr ⟨hk, ?_⟩
      rw [e1]
      refine e2 _ ⟨fun hp => e3 hp _ (ih _ he' (by simpa [List.filter_cons, hp] using q)), fun hp => ih _ he' (by simpa [List.filter_cons, hp] using q)⟩
  exact gen xs [] he (by simpa using q)
/-- elements that draw: a state goes along -/
theorem lc_t {γ β : Type} {kp : Kp} (xs : List γ) (φ : γ → U) (f : β → U) (hp : S → Hq) (J : Nat → List β → S → Prop) (hk : ∀ i ys s, J i ys s → kpH kp (hp s)) (s0 : S) (e0 : h = hp s0) (j0 : J 0 [] s0)
    (step : ∀ i x ys s, xs[i]? = some x → ys.length = i → J i ys s → ∃ us1, asg t (φ x) us = some us1 ∧ ∀ N : U → Hq → Prop, (∀ y s', J (i + 1) (ys ++ [y]) s' → N (f y) (hp s')) → E us1 (hp s) N)
    (fin : ∀ ys s, ys.length = xs.length → J xs.length ys s → QA (ys.map f) (hp s)) : lc kp t E us QA (xs.map φ) [] h := by
  have gen : ∀ (n i : Nat) (ys : List β) (s : S), xs.length - i = n → i ≤ xs.length → ys.length = i → J i ys s → lc kp t E us QA ((xs.drop i).map φ) (ys.map f) (hp s) := by
    intro n
    induction n with
    | zero =>
      intro i ys s hn l ly j
      have e : i = xs.length := by omega
      subst e
      rw [List.drop_length, List.map_nil]
      exact kOk_iff.mpr ⟨hk _ _ _ j, fin ys s ly j⟩
    | succ n ih =>
      intro i ys s hn l ly j
      have hi : i < xs.length := by omega
      rw [List.drop_eq_getElem_cons hi, List.map_cons]
      refine kOk_iff.mpr ⟨hk _ _ _ j, ?_⟩
      obtain ⟨us1, e1, e2⟩ := step i xs[i] ys s (by simp [hi]) ly j
      rw [e1]
      refine e2 _ fun y s' j' => ?_
      have := ih (i + 1) (ys ++ [y]) s' (by omega) (by omega) (by simp [ly]) j'
      rw [List.map_append] at this
      exact this
  subst e0
  exact gen _ 0 [] s0 rfl (Nat.zero_le _) rfl j0
theorem ofd_T {β : Type} (f : β → PyData) {ys : List β} (q : Q (.d (.list (ys.map f))) h) : ofD Q (ys.map fun y => U.d (f y)) h := ⟨ys.map f, by rw [List.map_map]; rfl, q⟩
theorem gc_keep {L : Nat} {Q : U → Hq → Prop} {u : U} {h' : Hq} (q : gcAt L Q [] u h') : gc L Q u h' := ⟨[], by rw [List.append_nil]; exact List.nodup_range, (fun _ h => nomatch h), q⟩
theorem rgU_map (n : Nat) : rgU n = (List.range n).map fun (i : Nat) => U.d (.int (i : Int)) := rfl
end
end Vq
/-! Vr: flat heaps under new numbers; calls that have all cells; ends that keep all cells. -/
namespace Vq
open PySem PySem.Spec PyProof.Rows L2 Hq
def flatU (n : Nat) : U → Prop
  | .c m => m < n
  | .ci m _ => m < n
  | .t _ => False
  | _ => True
def flatO (n : Nat) : Ob → Prop
  | .ls us => ∀ u ∈ us, flatU n u
  | .ins _ _ us => ∀ u ∈ us, flatU n u
  | .dT kvs => ∀ z ∈ kvs, flatU n z.2
  | .dK kvs => ∀ z ∈ kvs, flatU n z.2
  | _ => True
def mvU (g : Nat → Nat) : U → U
  | .c m => .c (g m)
  | .ci m i => .ci (g m) i
  | u => u
def mvO (g : Nat → Nat) : Ob → Ob
  | .ls us => .ls (us.map (mvU g))
  | .ins C nms us => .ins C nms (us.map (mvU g))
  | .dT kvs => .dT (kvs.map fun z => (z.1, mvU g z.2))
  | .dK kvs => .dK (kvs.map fun z => (z.1, mvU g z.2))
  | o => o
theorem mvU_id (u : U) : mvU id u = u := by cases u <;> rfl
theorem mvU_ids (us : List U) : us.map (mvU id) = us := by
  rw [show mvU id = id from funext mvU_id, List.map_id]
theorem mvO_id (o : Ob) : mvO id o = o := by
  have h : ∀ {κ : Type} (kvs : List (κ × U)), (kvs.map fun z => (z.1, mvU id z.2)) = kvs := fun kvs => by
    conv => rhs; rw [← List.map_id kvs]
    exact List.map_congr_left fun z _ => by rw [mvU_id]; rfl
  cases o <;> simp only [mvO, mvU_ids, h]
section
variable {f : Nat → Option Nat} {g : Nat → Nat} {n : Nat}
theorem ren_fl (hf : ∀ m, m < n → f m = some (g m)) {u : U} (h : flatU n u) : ren f u = some (mvU g u) := by
  cases u with
  | c m => simp only [ren, hf m h, mvU]
  | ci m i => simp only [ren, hf m h, mvU]
  | t us => exact h.elim
  | _ => simp only [ren, mvU]
theorem rens_fl (hf : ∀ m, m < n → f m = some (g m)) : ∀ {us : List U}, (∀ u ∈ us, flatU n u) → rens f us = some (us.map (mvU g))
  | [], _ => by simp only [rens, List.map_nil]
  | u :: us, h => by simp only [rens, ren_fl hf (h u List.mem_cons_self), rens_fl hf fun v hv => h v (List.mem_cons_of_mem _ hv), List.map_cons]
theorem renK_fl {κ : Type} (hf : ∀ m, m < n → f m = some (g m)) : ∀ {us : List (κ × U)}, (∀ u ∈ us, flatU n u.2) → renK f us = some (us.map fun z => (z.1, mvU g z.2))
  | [], _ => by simp only [renK, List.map_nil]
  | u :: us, h => by simp only [renK, ren_fl hf (h u List.mem_cons_self), renK_fl hf fun v hv => h v (List.mem_cons_of_mem _ hv), List.map_cons]
theorem renO_fl (hf : ∀ m, m < n → f m = some (g m)) {o : Ob} (h : flatO n o) : renO f o = some (mvO g o) := by
  cases o with
  | ls us => simp only [renO, rens_fl hf h, mvO]
  | ins C nms us => simp only [renO, rens_fl hf h, mvO]
  | dT kvs => simp only [renO, renK_fl hf h, mvO]
  | dK kvs => simp only [renO, renK_fl hf h, mvO]
  | _ => simp only [renO, mvO]
theorem renOs_fl (hf : ∀ m, m < n → f m = some (g m)) : ∀ {h : Hq}, (∀ o ∈ h, flatO n o) → renOs f h = some (h.map (mvO g))
  | [], _ => by simp only [renOs, List.map_nil]
  | o :: h, k => by simp only [renOs, renO_fl hf (k o List.mem_cons_self), renOs_fl hf fun v hv => k v (List.mem_cons_of_mem _ hv), List.map_cons]
end
theorem fnd_range {n m : Nat} (h : m < n) : fnd (List.range n) m = some m := fnd_at List.nodup_range (by simp [h])
theorem pick_range {α : Type} {d : α} (xs : List α) : pick d xs (List.range xs.length) = xs := by
  refine List.ext_getElem? fun i => ?_
  unfold pick
  rw [List.getElem?_map]
  by_cases hi : i < xs.length
  · rw [List.getElem?_range hi]
    simp [List.getD_eq_getElem?_getD, hi]
  · rw [List.getElem?_eq_none (by simpa using hi), List.getElem?_eq_none (by omega)]; rfl
/-- all cells are kept -/
theorem gc_all {L : Nat} {Q : U → Hq → Prop} {u : U} {h' : Hq} (l : L ≤ h'.length) (fu : flatU h'.length u) (fo : ∀ o ∈ h', flatO h'.length o) (q : Q u h') : gc L Q u h' := by
  have e : List.range L ++ (List.range (h'.length - L)).map (fun i => L + i) = List.range h'.length := by
    rw [← List.range_add, show L + (h'.length - L) = h'.length by omega]
  refine ⟨(List.range (h'.length - L)).map fun i => L + i, by rw [e]; exact List.nodup_range, fun n hn => ?_, ?_⟩
  · obtain ⟨i, hi, rfl⟩ := List.mem_map.mp hn
    have := List.mem_range.mp hi
    omega
  · unfold gcAt
    rw [e, ren_fl (f := fnd (List.range h'.length)) (g := id) (fun m hm => fnd_range hm) fu, pick_range, renOs_fl (f := fnd (List.range h'.length)) (g := id) (fun m hm => fnd_range hm) fo]
    simp only [mvU_id, show mvO id = id from funext mvO_id, List.map_id]
    exact q
mutual
theorem ren_some : ∀ u : U, ren some u = some u
  | .no => by simp only [ren]
  | .d _ => by simp only [ren]
  | .s _ => by simp only [ren]
  | .c _ => by simp only [ren]
  | .ci _ _ => by simp only [ren]
  | .t us => by simp only [ren, rens_some us]
theorem rens_some : ∀ us : List U, rens some us = some us
  | [] => by simp only [rens]
  | u :: us => by simp only [rens, ren_some u, rens_some us]
end
theorem renK_some {κ : Type} : ∀ us : List (κ × U), renK some us = some us
  | [] => by simp only [renK]
  | u :: us => by simp only [renK, ren_some u.2, renK_some us]
theorem renO_some (o : Ob) : renO some o = some o := by
  cases o <;> simp only [renO, rens_some, renK_some]
theorem renOs_some : ∀ h : Hq, renOs some h = some h
  | [] => by simp only [renOs]
  | o :: h => by simp only [renOs, renO_some o, renOs_some h]
theorem bk_range (n : Nat) : bk (List.range n) n = some := by
  funext k
  unfold bk
  rw [List.length_range]
  split
  · rename_i h; simp [h]
  · rename_i h; rw [show n + (k - n) = k by omega]
/-- a call that has all cells -/
theorem callAt_all {sp : Fs} {vs : List U} {h : Hq} {Q : U → Hq → Prop} (hv : ∀ u ∈ vs, flatU h.length u) (hh : ∀ o ∈ h, flatO h.length o) (k : ∀ Q' : U → Hq → Prop, (∀ u h', h.length ≤ h'.length → Q u h' → Q' u h') → sp vs h Q') : callAt sp (List.range h.length) vs h Q := by
  unfold callAt
  rw [rens_fl (f := fnd (List.range h.length)) (g := id) (fun m hm => fnd_range hm) hv, pick_range, renOs_fl (f := fnd (List.range h.length)) (g := id) (fun m hm => fnd_range hm) hh]
  simp only [mvU_ids, show mvO id = id from funext mvO_id, List.map_id, bk_range, ren_some, renOs_some]
  refine k _ fun u h' l q => ?_
  have e : put (List.range h.length) h' h ++ h'.drop (List.range h.length).length = h' := by
    rw [List.length_range]
    refine List.ext_getElem? fun i => ?_
    by_cases hi : i < h.length
    · rw [List.getElem?_append_left (by rw [putF_len]; exact hi), put_at (fnd_range hi) hi (by omega)]
    · rw [List.getElem?_append_right (by rw [putF_len]; omega), putF_len, List.getElem?_drop, show h.length + (i - h.length) = i by omega]
  show Q u (put (List.range h.length) h' h ++ h'.drop (List.range h.length).length)
  rw [e]
  exact q
theorem range_sel {h : Hq} : ∀ m ∈ List.range h.length, m < h.length := fun m hm => List.mem_range.mp hm
end Vq
/-! Vc20: isinstance of a list or a tuple. -/
namespace Vq
open PySem PySem.Spec PyProof.Rows L2 Hq
/-- isinstance(e, (list, tuple)) -/
def sIsLT (S : SE) : SE := fun us h Q => S us h fun u h1 => match da h1 u with
  | some d => Q (.d (.bool (isSeq d))) h1
  | none => False
theorem ve_isLT {X : Cx} {e : Expr} {S : SE} {pos p p1 p2 pt : Pos} {kk} (hm : X.mg "isinstance" = none) (hm1 : X.mg "list" = none) (hm2 : X.mg "tuple" = none) (ha : VE X e S) (gl : Gl X "isinstance" := by rfl) (gl1 : Gl X "list" := by rfl) (gl2 : Gl X "tuple" := by rfl)
    (he : starEach [e, .Tuple [.Name "list" p1, .Name "tuple" p2] kk pt] X.env = (false, eval e X.env) :: starEach [.Tuple [.Name "list" p1, .Name "tuple" p2] kk pt] X.env := by exact st_any rfl) (he2 : starEach [.Tuple [.Name "list" p1, .Name "tuple" p2] kk pt] X.env = (false, eval (.Tuple [.Name "list" p1, .Name "tuple" p2] kk pt) X.env) :: starEach [] X.env := by exact st_any rfl)
    (he3 : starEach [.Name "list" p1, .Name "tuple" p2] X.env = (false, eval (.Name "list" p1) X.env) :: starEach [.Name "tuple" p2] X.env := by exact st_any rfl) (he4 : starEach [.Name "tuple" p2] X.env = (false, eval (.Name "tuple" p2) X.env) :: starEach [] X.env := by exact st_any rfl)
    (hpl : (backTo pos (starEach [.Tuple [.Name "list" p1, .Name "tuple" p2] kk pt] X.env)).any (·.1) = false := by rfl) : VE X (.Call (.Name "isinstance" p) [e, .Tuple [.Name "list" p1, .Name "tuple" p2] kk pt] [] pos) (sIsLT S) := .mk fun us h Q ρ Z M s i =>
  ex_isLT hm hm1 hm2 (ha.run s i fun u h1 ρ1 M1 k e1 i1 s1 q1 => by
    split at k
    · rename_i d ed
      exact ⟨d, da_isD i1 ed, (in_d i1 k).up e1⟩
    · exact k.elim) gl gl1 gl2 he he2 he3 he4 hpl
end Vq
/-! Vc21: closed heaps; kinds; values that are data or a new cell, as is wished. -/
namespace Vq
open PySem PySem.Spec PyProof.Rows L2 Hq
/-! ### closed heaps -/
mutual
def clU (n : Nat) : U → Prop
  | .no => True
  | .d _ => True
  | .s _ => True
  | .c m => m < n
  | .ci m _ => m < n
  | .t us => clUs n us
def clUs (n : Nat) : List U → Prop
  | [] => True
  | u :: us => clU n u ∧ clUs n us
end
def clK {κ : Type} (n : Nat) : List (κ × U) → Prop
  | [] => True
  | z :: zs => clU n z.2 ∧ clK n zs
def clO (n : Nat) : Ob → Prop
  | .ls us => clUs n us
  | .ins _ _ us => clUs n us
  | .dT kvs => clK n kvs
  | .dK kvs => clK n kvs
  | _ => True
def clH (n : Nat) : Hq → Prop
  | [] => True
  | o :: h => clO n o ∧ clH n h
theorem clUs_of {n : Nat} : ∀ {us : List U}, (∀ u ∈ us, clU n u) → clUs n us
  | [], _ => by simp only [clUs]
  | u :: us, h => by simp only [clUs]; exact ⟨h u List.mem_cons_self, clUs_of fun v hv => h v (List.mem_cons_of_mem _ hv)⟩
theorem clH_of {n : Nat} : ∀ {us : Hq}, (∀ u ∈ us, clO n u) → clH n us
  | [], _ => by simp only [clH]
  | u :: us, h => by simp only [clH]; exact ⟨h u List.mem_cons_self, clH_of fun v hv => h v (List.mem_cons_of_mem _ hv)⟩
theorem clH_app {n : Nat} : ∀ {h h' : Hq}, clH n h → clH n h' → clH n (h ++ h')
  | [], _, _, b => b
  | _ :: _, _, a, b => ⟨a.1, clH_app a.2 b⟩
mutual
theorem clU_up {n m : Nat} (l : n ≤ m) : ∀ u : U, clU n u → clU m u
  | .no, _ => trivial
  | .d _, _ => trivial
  | .s _, _ => trivial
  | .c k, h => by simp only [clU] at h ⊢; omega
  | .ci k i, h => by simp only [clU] at h ⊢; omega
  | .t us, h => by simp only [clU] at h ⊢; exact clUs_up l us h
theorem clUs_up {n m : Nat} (l : n ≤ m) : ∀ us : List U, clUs n us → clUs m us
  | [], _ => by simp only [clUs]
  | u :: us, h => by simp only [clUs] at h ⊢; exact ⟨clU_up l u h.1, clUs_up l us h.2⟩
end
theorem clK_up {κ : Type} {n m : Nat} (l : n ≤ m) : ∀ us : List (κ × U), clK n us → clK m us
  | [], _ => by simp only [clK]
  | u :: us, h => by simp only [clK] at h ⊢; exact ⟨clU_up l _ h.1, clK_up l us h.2⟩
theorem clO_up {n m : Nat} (l : n ≤ m) (o : Ob) (h : clO n o) : clO m o := by
  cases o with
  | ls us => exact clUs_up l _ h
  | ins C nms us => exact clUs_up l _ h
  | dT us => exact clK_up l _ h
  | dK us => exact clK_up l _ h
  | _ => trivial
theorem clH_up {n m : Nat} (l : n ≤ m) : ∀ {h : Hq}, clH n h → clH m h
  | [], _ => trivial
  | _ :: _, a => ⟨clO_up l _ a.1, clH_up l a.2⟩
section
variable {f : Nat → Option Nat} {n : Nat}
mutual
theorem ren_cl (hf : ∀ m, m < n → f m = some m) : ∀ u : U, clU n u → ren f u = some u
  | .no, _ => by simp only [ren]
  | .d _, _ => by simp only [ren]
  | .s _, _ => by simp only [ren]
  | .c k, h => by simp only [clU] at h; simp only [ren, hf k h]
  | .ci k i, h => by simp only [clU] at h; simp only [ren, hf k h]
  | .t us, h => by simp only [clU] at h; simp only [ren, rens_cl hf us h]
theorem rens_cl (hf : ∀ m, m < n → f m = some m) : ∀ us : List U, clUs n us → rens f us = some us
  | [], _ => by simp only [rens]
  | u :: us, h => by simp only [clUs] at h; simp only [rens, ren_cl hf u h.1, rens_cl hf us h.2]
end
theorem renK_cl {κ : Type} (hf : ∀ m, m < n → f m = some m) : ∀ us : List (κ × U), clK n us → renK f us = some us
  | [], _ => by simp only [renK]
  | u :: us, h => by simp only [clK] at h; simp only [renK, ren_cl hf _ h.1, renK_cl hf us h.2]
theorem renO_cl (hf : ∀ m, m < n → f m = some m) {o : Ob} (h : clO n o) : renO f o = some o := by
  cases o with
  | ls us => simp only [renO, rens_cl hf us h]
  | ins C nms us => simp only [renO, rens_cl hf us h]
  | dT us => simp only [renO, renK_cl hf us h]
  | dK us => simp only [renO, renK_cl hf us h]
  | _ => simp only [renO]
theorem renOs_cl (hf : ∀ m, m < n → f m = some m) : ∀ h : Hq, clH n h → renOs f h = some h
  | [], _ => by simp only [renOs]
  | o :: h, k => by simp only [renOs, renO_cl hf k.1, renOs_cl hf h k.2]
end
/-- all cells are kept -/
theorem gc_cl {L : Nat} {Q : U → Hq → Prop} {u : U} {h' : Hq} (l : L ≤ h'.length) (fu : clU h'.length u) (fo : clH h'.length h') (q : Q u h') : gc L Q u h' := by
  have e : List.range L ++ (List.range (h'.length - L)).map (fun i => L + i) = List.range h'.length := by
    rw [← List.range_add, show L + (h'.length - L) = h'.length by omega]
  refine ⟨(List.range (h'.length - L)).map fun i => L + i, by rw [e]; exact List.nodup_range, fun n hn => ?_, ?_⟩
  · obtain ⟨i, hi, rfl⟩ := List.mem_map.mp hn
    have := List.mem_range.mp hi
    omega
  · unfold gcAt
    rw [e, ren_cl (f := fnd (List.range h'.length)) (fun m hm => fnd_range hm) u fu, pick_range, renOs_cl (f := fnd (List.range h'.length)) (fun m hm => fnd_range hm) h' fo]
    exact q
/-- a call that has all cells -/
theorem callAt_cl {sp : Fs} {vs : List U} {h : Hq} {Q : U → Hq → Prop} (hv : clUs h.length vs) (hh : clH h.length h) (k : ∀ Q' : U → Hq → Prop, (∀ u h', h.length ≤ h'.length → Q u h' → Q' u h') → sp vs h Q') : callAt sp (List.range h.length) vs h Q := by
  unfold callAt
  rw [rens_cl (f := fnd (List.range h.length)) (fun m hm => fnd_range hm) vs hv, pick_range, renOs_cl (f := fnd (List.range h.length)) (fun m hm => fnd_range hm) h hh]
  simp only [bk_range, ren_some, renOs_some]
  refine k _ fun u h' l q => ?_
  have e : put (List.range h.length) h' h ++ h'.drop (List.range h.length).length = h' := by
    rw [List.length_range]
    refine List.ext_getElem? fun i => ?_
    by_cases hi : i < h.length
    · rw [List.getElem?_append_left (by rw [putF_len]; exact hi), put_at (fnd_range hi) hi (by omega)]
    · rw [List.getElem?_append_right (by rw [putF_len]; omega), putF_len, List.getElem?_drop, show h.length + (i - h.length) = i by omega]
  show Q u (put (List.range h.length) h' h ++ h'.drop (List.range h.length).length)
  rw [e]
  exact q
theorem call_cl {sp : Fs} {vs : List U} {h : Hq} {Q : U → Hq → Prop} (hv : clUs h.length vs) (hh : clH h.length h) (k : ∀ Q' : U → Hq → Prop, (∀ u h', h.length ≤ h'.length → Q u h' → Q' u h') → sp vs h Q') : ∃ sel : List Nat, sel.Nodup ∧ (∀ n ∈ sel, n < h.length) ∧ callAt sp sel vs h Q :=
  ⟨List.range h.length, List.nodup_range, range_sel, callAt_cl hv hh k⟩
theorem call_0 {sp : Fs} {vs : List U} {h : Hq} {Q : U → Hq → Prop} (k : callAt0 sp vs h Q) : ∃ sel : List Nat, sel.Nodup ∧ (∀ n ∈ sel, n < h.length) ∧ callAt sp sel vs h Q :=
  ⟨[], List.nodup_nil, (fun _ h => nomatch h), callAt_0 k⟩
/-- the law's own call -/
theorem wof_law {sp : Fs} {ns : List Int} (s : sp [.s ns] [] fun u _ => u = .d (.bool true)) : Wof sp [.s ns] [] fun r _ => r = T true :=
  ⟨[.s ns], [], [], [], _, by simp only [toRs, toR], ⟨.refl _, Gd.nil, .cons (.s ns) .nil⟩, s, fun u h' ρ' M' _ _ _ _ q => by subst q; exact toR_d _ _⟩
/-! ### kinds -/
inductive Kd (H : Hp) : V → PyData → Prop
  | of {v : V} {d : PyData} : Dq H v d → Kd H v d
  | lst {a : Addr} {xs : List V} {ds : List PyData} : H a = some (.lst xs) → Kd H (.ref a) (.list ds)
  | tup {a : Addr} {xs : List V} {ds : List PyData} : H a = some (.tup xs) → Kd H (.ref a) (.tuple ds)
theorem kd_tyx {K : PySem.W.Frag} {H : Hp} {v : V} {d : PyData} (h : Kd H v d) : TyX K H v (.type (tyN d)) := by
  cases h with
  | of h => exact tyx_d h
  | lst a => exact .base (.lst a)
  | tup a => exact .base (.tup a)
theorem kd_kit {K : PySem.W.Frag} {H : Hp} {c : String} (hc : kitsAll c = true) {v : V} {d : PyData} (h : Kd H v d) : PySem.W.kitOne K (.type (tyN d)) (.type c) = some (isK c d) := by
  cases h with
  | of h => exact kit_d hc h
  | lst a => exact kit_d hc (H := fun p => if p = 0 then some (.lst []) else none) (v := .ref 0) (d := .list []) (.lst rfl .nil)
  | tup a => exact kit_d hc (H := fun p => if p = 0 then some (.tup []) else none) (v := .ref 0) (d := .tuple []) (.tup rfl .nil)
theorem Kd.up {H H' : Hp} (e : Same H H') {v : V} {d : PyData} (h : Kd H v d) : Kd H' v d := by
  cases h with
  | of h => exact .of (dq_up e _ _ h)
  | lst a => exact .lst (e _ _ a)
  | tup a => exact .tup (e _ _ a)
def kd (h : Hq) : U → Option PyData
  | .d x => some x
  | .t _ => some (.tuple [])
  | .c n => match h[n]? with
    | some (.ld _) => some (.list [])
    | some (.ls _) => some (.list [])
    | some (.ll _) => some (.list [])
    | _ => none
  | _ => none
section
variable {X : Cx} {e a b : Expr} {us : List U} {h : Hq} {ρ ρ1 : List Ar} {Z M : Mem} {pos p p2 : Pos} {S A B : SE}
theorem kd_get {F H : Hp} {u : U} {d : PyData} {v : V} (i : In ρ h Z M us) (e : kd h u = some d) (m : Ms X.K M F H) (w : Rr X.K F v (toR ρ u)) : Kd H v d := by
  unfold kd at e
  split at e
  · cases e
    rw [toR_d] at w
    exact .of (dq_up m.ex _ _ (rr_d.mp w))
  · cases e
    rw [toR_t] at w
    obtain ⟨a, xs, rfl, h1, _⟩ := rr_t.mp w
    exact .tup (m.ex _ _ h1)
  · rename_i n
    have fin : ∀ {vs : List U}, els h (.c n) = some vs → Kd H v (.list []) := fun ev => by
      obtain ⟨p, h1, h2⟩ := cell_of i ev
      rw [h1] at w
      obtain rfl := rr_v.mp w
      obtain ⟨_, zs, z1, _⟩ := m.mem _ _ h2
      exact .lst z1
    split at e
    · rename_i xs e2
      cases e
      exact fin (by simp only [els, e2]; rfl)
    · rename_i xs e2
      cases e
      exact fin (by simp only [els, e2]; rfl)
    · rename_i xs e2
      cases e
      exact fin (by simp only [els, e2]; rfl)
    · cases e
  · cases e
/-- isinstance(e, c), by kinds -/
def sIsk (cn : String) (S : SE) : SE := fun us h Q => S us h fun u h1 => match kd h1 u with
  | some d => Q (.d (.bool (isK cn d))) h1
  | none => False
theorem kd_run {f : PyData → Bool} (ha : VE X e S) {Q : U → Hq → Prop} (s : S us h fun u h1 => match kd h1 u with
  | some d => Q (.d (.bool (f d))) h1
  | none => False) (i : In ρ h Z M us) {σ : L2.St} {F H : Hp} (st : Sta X.K σ (toRs ρ us) M F H) : cE X e σ H fun v H1 => ∃ d F1 M1, Kd H1 v d ∧ Ms X.K M1 F1 H1 ∧ Go M F H M1 F1 H1 ∧ VPost ρ Z Q (T (f d)) M1 := by
  have q : EX X e (toRs ρ us) M fun r M1 => ∃ u h1 ρ1 d, r = toR ρ1 u ∧ In ρ1 h1 Z M1 us ∧ kd h1 u = some d ∧ VPost ρ Z Q (T (f d)) M1 := ha.run s i fun u h1 ρ1 M1 k e1 i1 s1 q1 => by
    split at k
    · rename_i d ed
      exact ⟨u, h1, ρ1, d, rfl, i1, ed, (in_d i1 k).up e1⟩
    · exact k.elim
  refine cE_mono (q σ F H st) fun v H1 ⟨F1, M1, r, w, ⟨u, h1, ρ1, d, er, i1, ed, q⟩, m1, g1⟩ => ?_
  subst er
  exact ⟨d, F1, M1, kd_get i1 ed m1 w, m1, g1, q⟩
theorem ve_isk {c : Str} {cn : String} (hk : kitsAll cn = true) (hv : bootBuiltins c = some (.type cn)) (hm : X.mg "isinstance" = none) (hm2 : X.mg c = none) (ha : VE X e S) (gl : Gl X "isinstance" := by rfl) (gl2 : Gl X c := by rfl)
    (he : starEach [e, .Name c p2] X.env = (false, eval e X.env) :: starEach [.Name c p2] X.env := by exact st_any rfl) (he2 : starEach [.Name c p2] X.env = (false, eval (.Name c p2) X.env) :: starEach [] X.env := by exact st_any rfl) (hpl : (backTo pos (starEach [.Name c p2] X.env)).any (·.1) = false := by rfl) (hn : c ≠ "__name__" := by decide) (hd : (c == ("__debug__" : Str)) = false := by decide) : VE X (.Call (.Name "isinstance" p) [e, .Name c p2] [] pos) (sIsk cn S) := .mk fun us h Q ρ Z M s i =>
  ex_pe (pe_callB call_isi gl hm (by decide +kernel) (pa_cons (peC e) (pa_cons (pe_bltn gl2 hm2 hv (v := .ty cn) rfl hn hd) pa_nil he2) he) (he := he) (hpl := hpl)) fun σ F H st =>
    cE_mono (kd_run ha s i st) fun v H1 ⟨d, F1, M1, k, m, g, q⟩ => ⟨v, .ty cn, _, _, _, rfl, .ty cn, kd_tyx k, kd_kit hk k, F1, M1, _, rrB, q, m, g⟩
def sIskLT (S : SE) : SE := fun us h Q => S us h fun u h1 => match kd h1 u with
  | some d => Q (.d (.bool (isSeq d))) h1
  | none => False
theorem ve_iskLT {p1 p2 pt : Pos} {kk} (hm : X.mg "isinstance" = none) (hm1 : X.mg "list" = none) (hm2 : X.mg "tuple" = none) (ha : VE X e S) (gl : Gl X "isinstance" := by rfl) (gl1 : Gl X "list" := by rfl) (gl2 : Gl X "tuple" := by rfl)
    (he : starEach [e, .Tuple [.Name "list" p1, .Name "tuple" p2] kk pt] X.env = (false, eval e X.env) :: starEach [.Tuple [.Name "list" p1, .Name "tuple" p2] kk pt] X.env := by exact st_any rfl) (he2 : starEach [.Tuple [.Name "list" p1, .Name "tuple" p2] kk pt] X.env = (false, eval (.Tuple [.Name "list" p1, .Name "tuple" p2] kk pt) X.env) :: starEach [] X.env := by exact st_any rfl)
    (he3 : starEach [.Name "list" p1, .Name "tuple" p2] X.env = (false, eval (.Name "list" p1) X.env) :: starEach [.Name "tuple" p2] X.env := by exact st_any rfl) (he4 : starEach [.Name "tuple" p2] X.env = (false, eval (.Name "tuple" p2) X.env) :: starEach [] X.env := by exact st_any rfl)
    (hpl : (backTo pos (starEach [.Tuple [.Name "list" p1, .Name "tuple" p2] kk pt] X.env)).any (·.1) = false := by rfl) : VE X (.Call (.Name "isinstance" p) [e, .Tuple [.Name "list" p1, .Name "tuple" p2] kk pt] [] pos) (sIskLT S) := .mk fun us h Q ρ Z M s i =>
  ex_pe (pe_callB call_isiT gl hm (by decide +kernel) (pa_cons (peC e) (pa_cons (pe_tup (pa_cons (pe_bltn gl1 hm1 (by decide +kernel) (v := .ty "list") rfl) (pa_cons (pe_bltn gl2 hm2 (by decide +kernel) (v := .ty "tuple") rfl) pa_nil he4) he3)) pa_nil he2) he) (he := he) (hpl := hpl)) fun σ F H st =>
    cE_mono (kd_run ha s i st) fun v H1 ⟨d, F1, M1, k, m, g, q⟩ => ⟨small64 (show 2 < 64 by decide), fun tp np => by
      have kk := m.newF (o := .tup [.ty "list", .ty "tuple"]) np
      have k2 := k.up (fun b o e => by rw [upd_ne (ne_of_none e np)]; exact e : Same H1 (upd H1 tp (.tup [.ty "list", .ty "tuple"])))
      refine ⟨v, tp, [.ty "list", .ty "tuple"], .type (tyN d), [.type "list", .type "tuple"], isSeq d, rfl, upd_same, .cons (.ty _) (.cons (.ty _) .nil), kd_tyx k2, ?_, Out.trans g (Out.mk kk rrB q)⟩
      have h2 : ∀ n : String, kitB n "list" = some false → kitB n "tuple" = some false → PySem.W.kitAny X.K (.type n) [.type "list", .type "tuple"] = some false := fun n a b => kitAny_cons (b := false) (kit_ty a) (fun _ => kitAny_cons (b := false) (kit_ty b) (fun _ => rfl) nofun) nofun
      have hl : PySem.W.kitAny X.K (.type "list") [.type "list", .type "tuple"] = some true := kitAny_cons (b := true) (kit_ty (show kitB "list" "list" = some true by decide +kernel)) nofun fun _ => rfl
      have ht : PySem.W.kitAny X.K (.type "tuple") [.type "list", .type "tuple"] = some true := kitAny_cons (b := false) (kit_ty (show kitB "tuple" "list" = some false by decide +kernel)) (fun _ => kitAny_cons (b := true) (kit_ty (show kitB "tuple" "tuple" = some true by decide +kernel)) nofun fun _ => rfl) nofun
      cases k2 with
      | lst a => exact hl
      | tup a => exact ht
      | of hD2 => cases hD2 with
        | non => exact h2 "NoneType" (by decide +kernel) (by decide +kernel)
        | bl b => exact h2 "bool" (by decide +kernel) (by decide +kernel)
        | int i => exact h2 "int" (by decide +kernel) (by decide +kernel)
        | str x => exact h2 "str" (by decide +kernel) (by decide +kernel)
        | lst a b => exact hl
        | tup a b => exact ht⟩
end
/-! ### frozen, or not, as is wished -/
def sFzO (S : SE) : SE := fun us h Q => S us h fun u h1 => Q u h1 ∨ match fz 200 u h1 with
  | some z => Q (.d z.1) z.2
  | none => False
theorem ve_fzO {X : Cx} {e : Expr} {S : SE} (ha : VE X e S) : VE X e (sFzO S) := .mk fun us h Q ρ Z M s i σ F H st => by
  have q : EX X e (toRs ρ us) M fun r M1 => VPost ρ Z Q r M1 ∨ ∃ u h1 ρ1, r = toR ρ1 u ∧ Ext ρ ρ1 ∧ In ρ1 h1 Z M1 us ∧ StU ρ1 u ∧ ∃ x h2, fz 200 u h1 = some (x, h2) ∧ Q (.d x) h2 := ha.run s i fun u h1 ρ1 M1 k e1 i1 s1 q1 => by
    rcases k with k | k
    · exact .inl ((in_post i1 s1 k).up e1)
    · split at k
      · rename_i z ez
        exact .inr ⟨u, h1, ρ1, rfl, e1, i1, s1, z.1, z.2, ez, k⟩
      · exact k.elim
  refine cE_mono (q σ F H st) fun v H1 ⟨F1, M1, r, w, q, m1, g1⟩ => ?_
  rcases q with q | ⟨u, h1, ρ1, er, e1, i1, s1, x, h2, ef, k⟩
  · exact ⟨F1, M1, r, w, q, m1, g1⟩
  · subst er
    obtain ⟨F2, M2, d, i2, m2, g2⟩ := fz_ok (K := X.K) 200 u h1 x h2 ef i1 s1 m1 w
    exact ⟨F2, M2, _, rr_d.mpr d, (in_d i2 k).up e1, m2, g1.trans g2⟩
/-! ### data or a new cell, as is wished -/
def ofDC (Q : U → Hq → Prop) : List U → Hq → Prop := fun acc h => ofD Q acc h ∨ ofC Q acc h
theorem fin_dc : Fin ofDC := fun q i s k => q.elim (fun q => fin_d q i s k) fun q => fin_c q i s k
def sLcDC (own : List Nat) (I : SI) (t : Tg) (E : SE) : SE := fun us h Q => I us h fun items kp h1 => items.length ≤ sizeLine ∧ lc kp t E (wipeU us own) (ofDC Q) items [] h1
def sLcfDC (own : List Nat) (I : SI) (t : Tg) (T : ST) (E : SE) : SE := fun us h Q => I us h fun items kp h1 => items.length ≤ sizeLine ∧ lcf kp t T E (wipeU us own) (ofDC Q) items [] h1
def oRepD : SO := fun x y h Q => match x, y with
  | .d (.list xs), .d (.int k) => -(2 ^ 63) ≤ k ∧ k < 2 ^ 63 ∧ xs.length * k.toNat ≤ sizeLine ∧ Q (.d (.list (List.replicate k.toNat xs).flatten)) h
  | _, _ => False
def oRepDC : SO := fun x y h Q => oRepD x y h Q ∨ oRepC x y h Q
theorem os_repDC {X : Cx} : OpS X rRep oRepDC := fun x y us h Q ρ Z M s i sx sy => by
  rcases s with s | s
  · unfold oRepD at s
    split at s
    · rw [toR_d, toR_d]
      intro F H x y m w1 w2
      obtain ⟨p, vs, rfl, a, b⟩ := (IsM.fz (M := M) _).get m w1
      exact ⟨p, _, vs, rfl, rr_int w2, a, s.1, s.2.1, by rw [b.length, List.length_map]; exact s.2.2.1, fun z nz => newL m (rrs_rep b _) nz (in_d i s.2.2.2)⟩
    · exact s.elim
  · exact os_repC x y us h Q ρ Z M s i sx sy
theorem ve_repDC {X : Cx} {a b : Expr} {A B : SE} {pos : Pos} (ha : VE X a A) (hb : VE X b B) : VE X (.BinOp a .Mult b pos) (sBin oRepDC A B) := ve_bin op_rep mo_rep os_repDC ha hb
end Vq
/-! Vc22: lists that change: clear, pop(i). -/
namespace Vq
open PySem PySem.Spec PyProof.Rows L2 Hq
section
variable {X : Cx} {e a b c o : Expr} {ds : List R} {us : List U} {h : Hq} {ρ ρ1 ρ2 : List Ar} {Z M : Mem} {pos p apos : Pos} {A B : SE} {Q : R → Mem → Prop}
theorem ex_clear (h : EX X o ds M fun r1 M1 => ∃ q U W xs, r1 = .v (.ref q) ∧ M1 = U ++ (q, Cell.lst xs) :: W ∧ Q (.d .none) (U ++ (q, .lst []) :: W))
    (hb : ∀ {to : TE} {r}, MtR X "list.clear" r → PE X o to → PE X (.Call (.Attribute o "clear" apos) [] [] pos) (tBM0 X.K "list" r to) := by intro _ _ h1 h2; exact pe_bm0 PySem.F.plainAttrs_list PySem.F.slot_list_clear PySem.F.type_list_clear h1 h2) : EX X (.Call (.Attribute o "clear" apos) [] [] pos) ds M Q :=
  ex_pe (hb mt_clear (peC o)) fun σ F H s => cE_mono (h σ F H s) fun x H1 ⟨F1, M1, r1, w1, ⟨q, U, W, xs, e1, e2, qq⟩, m1, g1⟩ => by
    subst e1 e2
    obtain rfl := rr_v.mp w1
    obtain ⟨zs, z1, z2⟩ := (m1.mem q _ (List.mem_append_right U List.mem_cons_self)).2
    have kk := m1.write (c' := .lst []) (o := .lst []) ⟨_, upd_same, .nil⟩
    exact ⟨.inl ⟨rfl, _, SqL.of z1⟩, q, zs, rfl, rfl, z1, F1, _, _, rrN, qq, kk.1, g1.trans kk.2⟩
/-- o.clear() -/
def oClr (u : U) (h : Hq) (Q : Hq → Prop) : Prop := match u with
  | .c n => match h[n]? with
    | some (.ld _) => Q (h.set n (.ld []))
    | some (.ls _) => Q (h.set n (.ls []))
    | _ => False
  | _ => False
def sClr (O : SE) : SE := fun us h Q => O us h fun u h1 => oClr u h1 fun h2 => Q (.d .none) h2
theorem ve_clear (ha : VE X o A) (hb : ∀ {to : TE} {r}, MtR X "list.clear" r → PE X o to → PE X (.Call (.Attribute o "clear" apos) [] [] pos) (tBM0 X.K "list" r to) := by intro _ _ h1 h2; exact pe_bm0 PySem.F.plainAttrs_list PySem.F.slot_list_clear PySem.F.type_list_clear h1 h2) : VE X (.Call (.Attribute o "clear" apos) [] [] pos) (sClr A) := .mk fun us h Q ρ Z M s i =>
  ex_clear (ha.run s i fun u h1 ρ1 M1 k e1 i1 s1 q1 => by
    unfold oClr at k
    split at k
    · rename_i n
      split at k
      · rename_i xs e
        obtain ⟨q, h1', h2, h3⟩ := chg_write (.dd (xs := xs) (ys := [])) i1 e (.ds _)
        obtain ⟨U1, W, hM⟩ := List.append_of_mem h2
        exact ⟨q, U1, W, _, h1', hM, (in_d (h3 U1 W hM) k).up e1⟩
      · rename_i xs e
        obtain ⟨q, h1', h2, h3⟩ := chg_write (.uu (ws := xs) (vs := [])) i1 e .nil
        obtain ⟨U1, W, hM⟩ := List.append_of_mem h2
        exact ⟨q, U1, W, _, h1', hM, (in_d (h3 U1 W hM) k).up e1⟩
      · exact k.elim
    · exact k.elim) hb
/-- o.pop(i) -/
def oPop (u : U) (i : Int) (h : Hq) (Q : U → Hq → Prop) : Prop := match u with
  | .c n => match h[n]? with
    | some (.ld xs) => ∃ j x, ixN xs.length i = some j ∧ xs[j]? = some x ∧ xs.length ≤ sizeLine ∧ Q (.d x) (h.set n (.ld (xs.eraseIdx j)))
    | some (.ls xs) => ∃ j x, ixN xs.length i = some j ∧ xs[j]? = some x ∧ xs.length ≤ sizeLine ∧ Q x (h.set n (.ls (xs.eraseIdx j)))
    | _ => False
  | _ => False
def sPop (O I : SE) : SE := fun us h Q => O us h fun u h1 => isLst u h1 ∧ I us h1 fun w h2 => match w with
  | .d (.int i) => oPop u i h2 Q
  | _ => False
theorem map_erase {α β : Type} (f : α → β) : ∀ (xs : List α) (j : Nat), (xs.eraseIdx j).map f = (xs.map f).eraseIdx j
  | [], _ => rfl
  | _ :: _, 0 => rfl
  | x :: xs, j + 1 => by simp [map_erase f xs j]
theorem pop_ok {u : U} {i : Int} {Q : U → Hq → Prop} (ii : In ρ h Z M us) (k : oPop u i h Q) : ∃ q xs j v, toR ρ u = .v (.ref q) ∧ (q, Cell.lst xs) ∈ M ∧ ixN xs.length i = some j ∧ xs.length ≤ sizeLine ∧ xs[j]? = some (toR ρ v) ∧ StU ρ v ∧ ∀ U1 W, M = U1 ++ (q, .lst xs) :: W → ∃ h', In ρ h' Z (U1 ++ (q, .lst (xs.eraseIdx j)) :: W) us ∧ Q v h' := by
  unfold oPop at k
  split at k
  · rename_i n
    split at k
    · rename_i xs e
      obtain ⟨j, x, k1, k2, k3, k4⟩ := k
      obtain ⟨q, h1, h2, h3⟩ := chg_write (.dd (xs := xs) (ys := xs.eraseIdx j)) ii e (.ds _)
      refine ⟨q, _, j, .d x, h1, h2, by rw [toRs_len, List.length_map]; exact k1, by rw [toRs_len, List.length_map]; exact k3, ?_, .d x, fun U1 W hM => ⟨_, ?_, k4⟩⟩
      · rw [toRs_get (u := .d x)]
        rw [List.getElem?_map, k2]; rfl
      · have := h3 U1 W hM
        rwa [map_erase, toRs_map, map_erase, ← toRs_map] at this
    · rename_i xs e
      obtain ⟨j, x, k1, k2, k3, k4⟩ := k
      have sw : Sts ρ xs := (ls_isM ii e).2
      obtain ⟨q, h1, h2, h3⟩ := chg_write (.uu (ws := xs) (vs := xs.eraseIdx j)) ii e fun w hw => sw w ((List.eraseIdx_sublist _ _).subset hw)
      refine ⟨q, _, j, x, h1, h2, by rw [toRs_len]; exact k1, by rw [toRs_len]; exact k3, toRs_get k2, sw x (List.mem_of_getElem? k2), fun U1 W hM => ⟨_, ?_, k4⟩⟩
      have := h3 U1 W hM
      rwa [toRs_map, map_erase, ← toRs_map] at this
    · exact k.elim
  · exact k.elim
theorem ve_popAt (ha : VE X o A) (hI : VE X e B) (he : starEach [e] X.env = (false, eval e X.env) :: starEach [] X.env := by exact st_any rfl)
    (hb : ∀ {to : TE} {t : TA} {r}, MtR X "list.pop" r → PE X o to → PA X [e] t → PE X (.Call (.Attribute o "pop" apos) [e] [] pos) (tBM X.K "list" r to t) := by intro _ _ _ h1 h2 h3; exact pe_bm PySem.F.plainAttrs_list PySem.F.slot_list_pop PySem.F.type_list_pop h1 h2 h3) : VE X (.Call (.Attribute o "pop" apos) [e] [] pos) (sPop A B) := .mk fun us h Q ρ Z M s i =>
  ex_popAt (ha.run s i fun u h1 ρ1 M1 ⟨k1, k2⟩ e1 i1 s1 q1 => by
    obtain ⟨q, hq1, hq2⟩ := isLst_ok i1 k1
    refine ⟨q, hq1, hq2, ?_⟩
    rw [q1]
    refine hI.run k2 i1 fun w h2 ρ2 M2 k3 e2 i2 s2 q2 => ?_
    split at k3
    · rename_i t
      obtain ⟨q', xs, j, v, w1, w2, w3, w4, w5, w6, w7⟩ := pop_ok i2 k3
      have eq : q' = q := by rw [s1.st _ e2, hq1] at w1; cases w1; rfl
      subst eq
      obtain ⟨U1, W, hM⟩ := List.append_of_mem w2
      obtain ⟨h', i3, q3⟩ := w7 U1 W hM
      exact ⟨U1, W, xs, t, j, toR ρ2 v, toR_d _ _, hM, w3, w4, w5, ((in_post i3 w6 q3).up e2).up e1⟩
    · exact k3.elim) hb he
/-- (x, y, ..) = a list -/
def sAsgL (ts : List Tg) (S : SE) (R : SB) : SB := fun us h D => S us h fun u h1 => match els h1 u with
  | some vs => match asgs ts vs us with
    | some us1 => R us1 h1 D
    | none => False
  | none => False
theorem vb_asgL {es : List Expr} {ts : List Tg} {Rs : SB} {r : List Stmt} {kt : Nat} {pt : Pos} (hc : X.calm = true) (ha : VE X e A) (hg : VGs X es ts) (hb : VB X r Rs) (hl : ts.length = (assignEach es X.env).length := by rfl) (hst : (assignEach es X.env).findIdx? (·.1) = none := by rfl) (hs : swapsWithSole [.Tuple es kt pt] e pos.line X.env = pure false := by first | exact sws_not rfl | rfl) (hsw : swappedStores [.Tuple es kt pt] e X.env = pure none := by rfl) (h1 : (assignEach [.Tuple es kt pt] X.env).map (·.2) = [assign (.Tuple es kt pt) X.env] := by exact as_any rfl) : VB X (.Assign [.Tuple es kt pt] e pos :: r) (sAsgL ts A Rs) := .mk fun us h D ρ Z M s i =>
  bx_asg (ha.run s i fun u h1 ρ1 M1 q e1 i1 s1 q1 => by
    split at q
    · rename_i vs ev
      split at q
      · rename_i us1 ea
        obtain ⟨il, sv⟩ := els_isL i1 ev
        rw [q1]
        exact gx_unl hc il (hg.out vs us us1 ρ1 _ M1 _ ea sv rfl (hb.run q e1 ⟨i1.pm, i1.gd, asgs_st ts _ _ _ ea sv i1.st⟩)) (by rw [toRs_len, asgs_len ea, hl]) hst
      · exact q.elim
    · exact q.elim) hs hsw h1
end
end Vq
/-! Vc23: exceptions: a caught one is held as a cell; blocks that raise; their promises. -/
namespace Vq
open PySem PySem.Spec PyProof.Rows L2 Hq
section
variable {X : Cx} {pins : List (Addr × Obj)} {σ : L2.St} {H : Hp} {s : Shared}
theorem exH_ok {P : Program} {w : World} {H : Hp} {h : Heap} {a : Addr} {cls : Value} {oe : Obj} {vs : Array Value} (e : h.get? a = some oe) (z : Zc cls none oe) (d : oe.data = .fields vs) : ObjOk P w H h a (exH cls a) :=
  ⟨⟨oe, vs, e, z, d⟩, ⟨oe, e⟩, fun _ _ ⟨o, v, q, r⟩ k => ⟨o, v, k o q, r⟩⟩
/-- an exception that is on the ground is tracked from here on -/
theorem inv_track {a : Addr} {cls : Value} {oe : Obj} {vs : Array Value} (I : Inv X pins σ H s) (na : H a = none) (e : s.heap.get? a = some oe) (z : Zc cls none oe) (d : oe.data = .fields vs) (nL : a ≠ X.env.locals) (n0 : X.s_0.heap.get? a = none) (np : ∀ p ∈ X.pn ++ pins, p.1 ≠ a) : Inv X pins σ (upd H a (exH cls a)) s := by
  refine ⟨I.ok, I.os, I.bare, ⟨I.base.keep, I.base.slot, fun b o q n x => ?_, I.base.there, fun b xs q => ?_, fun b o u q => ?_, fun b ps q => ?_⟩, I.loc, I.cell, ?_, fun x c ec => ?_, fun p hp => ?_, fun b u q => ?_, I.len⟩
  · rw [upd_ne (fun z => by rw [z, n0] at q; cases q)]
    exact I.base.free b o q n x
  · have q := I.base.tups b xs q
    rw [upd_ne (ne_of_none q na)]
    exact q
  · have q := I.base.frzs b o u q
    rw [upd_ne (ne_of_none q na)]
    exact q
  · obtain ⟨m, q⟩ := I.base.tbls b ps q
    exact ⟨m, by rw [upd_ne (ne_of_none q na)]; exact q⟩
  · rw [upd_ne (Ne.symm nL)]
    exact I.free
  · have nc : c ≠ a := by
      intro ca
      subst ca
      obtain ⟨v, o, ho, hd⟩ := I.cell x c ec
      rw [e] at ho
      cases ho
      rw [d] at hd
      cases hd
    rw [upd_ne nc]
    exact I.freeC x c ec
  · obtain ⟨q, n, ne, nf, dd⟩ := I.pin p hp
    exact ⟨q, by rw [upd_ne (np p hp)]; exact n, ne, nf, dd⟩
  · exact (HOk.laidN I.hok (fun _ _ z => z) na (exH_ok e z d)) b u q
/-- what 'except x as n: y = n' wishes of an exception of the body: slot i is n's, j is y's -/
def wT (K : PySem.W.Frag) (c : Value) (i j : Nat) (D : Ends) : WX := fun cls d σ H => d = none ∧ PySem.W.exmOne K cls c = some true ∧ ∀ a, H a = none → D.nx (((σ.set i (some (.ref a))).set j (some (.ref a))).set i none) (upd H a (exH cls a))
theorem ps_try_T {x n y : Str} {c : Value} {i j : Nat} {body : List Stmt} {np py pn pa pos pos' : Pos} {tb : WX → TS} (hs : X.stack = X.env :: X.outer) (hf : X.env.frame = some X.env.locals) (hex : X.ex = []) (hN : X.N.Nodup) (hi : X.N[i]? = some n) (hj : X.N[j]? = some y) (hln : X.env.kindOf n = some .local) (hly : X.env.scope.names.lookup y = some .local)
    (hc : Names X x c) (hsw : swapsWith (.Name n pn) (some (.Name y py)) pa.line X.env = pure false) (hd : (n == ("__debug__" : Str)) = false) (hcd : (n == ("__classdict__" : Str)) = false)
    (hb : ∀ (W : WX) (pn : List (Addr × Obj)) (xe : Value → Shared → Prop), Takes (X.tr pn xe) W → PSs (X.tr pn xe) body (tb W)) :
    PS X (.Try body [.ExceptHandler (some (.Name x np)) (some n) [.Assign [.Name y py] (.Name n pn) pa] pos'] [] [] pos) (fun D σ H => tb (wT X.K c i j D) D σ H) := by
  refine ⟨fun pins s σ H D I h => ?_⟩
  have ok := I.ok
  have hfr : X.A.frames = some (X.env :: X.outer) := by rw [ok.frames, hs]
  have hloc : Loc X.env.scope n := .inl hln
  refine wpAny_Try_except ?_
  refine wpAny_mono ((hb (wT X.K c i j D) (X.pn ++ pins) (fun e s₁ => wpAny (model X.prog X.w) X.A (noteFrame e X.env) (fun _ s₂ => wpAny (model X.prog X.w) X.A (setFlight e none) (fun _ s₃ =>
    wpAny (model X.prog X.w) X.A (handleBy e X.env [.ExceptHandler (some (.Name x np)) (some n) [.Assign [.Name y py] (.Name n pn) pa] pos']) (SP X pins D) X.xe s₃) X.xe s₂) X.xe s₁) (fun u s' xx => ?_)).run [] s σ H D (I.toTry _) h) (fun f s1 hsp => ?_) (fun e s1 he => he)
  · obtain ⟨a, B, sI, pins', σ', H', cls, d, rfl, J', nb, up, sky, na, os, ag, rfl, hb1, hyes⟩ := xx
    have J : Inv X pins σ' H' sI := J'.ofTry ok
    have sky' : Sky B (X.env :: X.outer) a (Zc cls none) X.env.locals s'.heap := by rw [← hs]; exact sky
    show wpAny (model X.prog X.w) X.A (noteFrame (.ref a) X.env) _ _ _
    refine Sky.land Zc.steady hfr hf sky' fun h3 fl3 up3 => ?_
    have J3 : Inv X pins σ' H' { s' with heap := h3 } := J.landed nb fl3.1 (up.trans up3) os ag
    obtain ⟨oe3, vs3, he3, hz3, hd3⟩ := fl3.there
    have nfr : a ∉ frs (X.env :: X.outer) := fun hm => by
      obtain ⟨_, o', e', hnf⟩ := fl3.2.2.1.mem hm
      rw [he3] at e'
      cases e'
      exact hnf _ hd3
    have nL : a ≠ X.env.locals := fun z => nfr (List.mem_filterMap.mpr ⟨X.env, List.mem_cons_self, by rw [hf, z]⟩)
    have nF : a ∉ X.fs := fun hm => by
      obtain ⟨e, he, q⟩ := List.mem_filterMap.mp hm
      exact nfr (List.mem_filterMap.mpr ⟨e, List.mem_cons_of_mem _ he, q⟩)
    have nS : a ∉ frs X.stack := by rw [hs]; exact nfr
    have Ba : B.get? a = none := fl3.2.1
    have n0 : X.s_0.heap.get? a = none := by
      cases q : X.s_0.heap.get? a with
      | none => rfl
      | some o =>
        obtain ⟨o', q'⟩ := J.base.there a o q (by rw [hex]; exact fun z => nomatch z)
        rw [nb a o' q' nS] at Ba
        cases Ba
    have npn : ∀ p ∈ X.pn ++ pins, p.1 ≠ a := fun p hp z => by
      obtain ⟨q, _⟩ := J.pin p hp
      rw [z] at q
      rw [nb a _ q nS] at Ba
      cases Ba
    have S3 := J3.suite he3 hd3 na nL nF
    refine wpAny_handleBy_cons (codeAny_handlers_test ?_) (by intro q; cases q)
    have LT : PySem.W.Looks (model X.prog X.w) h3 (typeOf (.ref a)) cls := fun A Q E s k q => wpAny_typeOf_ref (k _ _ he3) (by rw [hz3.1]; exact q)
    have LM := PySem.W.exm_one (M := model X.prog X.w) (J3.kIn) LT hb1
    have test : ∀ {Q : Value → Shared → Prop} {E : Value → Shared → Prop}, Q c { s' with heap := h3 } → wpAny (model X.prog X.w) (X.A.mark (some (.ref a))) (eval (.Name x np) X.env) Q E { s' with heap := h3 } := fun {Q E} q => by
      obtain ⟨hg, hdbg, hm | ⟨hm, hv, hnn⟩⟩ := hc
      · exact ld_glob (X := X.suite a ((a, oe3) :: (X.pn ++ pins))) S3 hg hm q hdbg
      · exact ld_blt (X := X.suite a ((a, oe3) :: (X.pn ++ pins))) S3 hg hm hv q hnn hdbg
    refine test (LM.here ?_)
    refine codeAny_handlers_suite_as ?_
    refine HandSPX.lands_againZ fl3 fun h4 fl4 up4 => ?_
    have J4 : Inv X pins σ' H' { s' with heap := h4 } := J.landed nb fl4.1 ((up.trans up3).trans up4) os ag
    obtain ⟨oe4, vs4, he4, hz4, hd4⟩ := fl4.there
    have S4 := J4.suite he4 hd4 na nL nF
    refine store_ok (X := X.suite a ((a, oe4) :: (X.pn ++ pins))) (v := .ref a) S4 hN hi hloc rfl (fun s5 S5 => ?_) (.inr hln)
    have li : i < σ'.length := by rw [J.len]; exact (List.getElem?_eq_some_iff.mp hi).1
    have pb : PSs (X.suite a ((a, oe4) :: (X.pn ++ pins))) [.Assign [.Name y py] (.Name n pn) pa] (tSeq (tAsg (tVar i) (gName j)) tNext) :=
      pss_cons (ps_set (X := X.suite a ((a, oe4) :: (X.pn ++ pins))) hN hj (.inl hly) (pe_var hi (.inl hln) hd hcd) hsw (.inr hly)) pss_nil
    refine wpAny_mono (pb.run [] s5 _ H' ⟨fun σ6 H6 => σ6 = (σ'.set i (some (.ref a))).set j (some (.ref a)) ∧ H6 = H', fun _ _ => False, fun _ _ => False, fun _ _ => False⟩ S5 ⟨.ref a, List.getElem?_set_self li, rfl, rfl⟩) (fun f s6 hsp => ?_) (fun _ _ z => False.elim z)
    cases f with
    | next =>
      obtain ⟨σ6, H6, S6, rfl, rfl⟩ := hsp
      obtain ⟨e6, n6, _⟩ := S6.pin (a, oe4) (List.mem_append.mpr (.inl List.mem_cons_self))
      have T6 := inv_track (S6.unsuite ok) n6 e6 hz4 hd4 nL n0 npn
      exact gone_ok T6 hN hi hln fun s7 J7 => ⟨_, _, J7, hyes a na⟩
    | brk => obtain ⟨_, _, _, q⟩ := hsp; exact q.elim
    | cont => obtain ⟨_, _, _, q⟩ := hsp; exact q.elim
    | ret u => obtain ⟨_, _, _, _, _, q⟩ := hsp; exact q.elim
  · cases f with
    | next =>
      obtain ⟨σ', H', J', q⟩ := hsp
      exact wpAny_execs_nil ⟨σ', H', J'.ofTry ok, q⟩
    | brk =>
      obtain ⟨σ', H', J', q⟩ := hsp
      exact ⟨σ', H', J'.ofTry ok, q⟩
    | cont =>
      obtain ⟨σ', H', J', q⟩ := hsp
      exact ⟨σ', H', J'.ofTry ok, q⟩
    | ret u =>
      obtain ⟨v, σ', H', J', r, q⟩ := hsp
      exact ⟨v, σ', H', J'.ofTry ok, r, q⟩
end
end Vq
/-! Vc24: blocks and expressions that raise; what a raising def promises; try that catches. -/
namespace Vq
open PySem PySem.Spec PyProof.Rows L2 Hq
abbrev DF : Ends := ⟨fun _ _ => False, fun _ _ => False, fun _ _ => False, fun _ _ => False⟩
theorem df_le (D : Ends) : Ends.Le DF D := ⟨fun _ _ z => z.elim, fun _ _ z => z.elim, fun _ _ z => z.elim, fun _ _ z => z.elim⟩
def RX (X : Cx) (A : List Stmt) (ds : List R) (M : Mem) (E : Value → List R → Mem → Prop) : Prop := ∀ σ F H, Sta X.K σ ds M F H → ∀ W : WX, Takes X W → (∀ c σ' F' M' ds' H', Sta X.K σ' ds' M' F' H' → Go M F H M' F' H' → E c ds' M' → W c none σ' H') → cB X A DF σ H
def RE (X : Cx) (e : Expr) (ds : List R) (M : Mem) (E : Value → Mem → Prop) : Prop := ∀ σ F H, Sta X.K σ ds M F H → ∀ W : WX, Takes X W → (∀ c F' M' H', Ms X.K M' F' H' → Go M F H M' F' H' → E c M' → W c none σ H') → cE X e σ H fun _ _ => False
section
variable {X : Cx} {e a b c : Expr} {es : List Expr} {A B rest r : List Stmt} {us : List U} {h : Hq} {ρ ρ1 : List Ar} {Z M : Mem} {ds : List R} {pos p p2 pos' : Pos} {E : Value → List R → Mem → Prop} {E1 : Value → Mem → Prop}
theorem rx_ret (h : RE X e ds M fun c M' => E c ds M') : RX X (.Return (some e) pos :: rest) ds M E := fun σ F H s W t k pins sh I =>
  (pss_cons (ps_ret (peC e)) (pbC rest)).run pins sh σ H DF I (h σ F H s W t fun c F' M' H' m g q => k c σ F' M' ds H' (s.go g m) g q)
theorem rx_set (i : Nat) {x : Str} {pos' : Pos} (hN : X.N.Nodup) (h : RE X e ds M fun c M' => E c ds M') (hi : X.N[i]? = some x := by rfl) (hx : Loc X.env.scope x := by first | exact Or.inl rfl | exact Or.inr rfl) (hs : swapsWith e (some (.Name x pos')) pos.line X.env = pure false := by first | exact sw_not rfl | rfl)
    (hf : X.fn x = true ∨ X.env.scope.names.lookup x = some .local := by first | exact .inl rfl | exact .inr rfl) : RX X (.Assign [.Name x pos'] e pos :: rest) ds M E := fun σ F H s W t k pins sh I =>
  (pss_cons (ps_set hN hi hx (peC e) hs hf) (pbC rest)).run pins sh σ H DF I (cE_mono (h σ F H s W t fun c F' M' H' m g q => k c σ F' M' ds H' (s.go g m) g q) fun _ _ z => z.elim)
theorem rx_exp (h : RE X e ds M fun c M' => E c ds M') (hs : swapsWith e none pos.line X.env = pure false := by first | exact sw_not rfl | rfl) : RX X (.Expr e pos :: rest) ds M E := fun σ F H s W t k pins sh I =>
  (pss_cons (ps_expr (peC e) hs) (pbC rest)).run pins sh σ H DF I (cE_mono (h σ F H s W t fun c F' M' H' m g q => k c σ F' M' ds H' (s.go g m) g q) fun _ _ z => z.elim)
/-- if c: a block that raises; else on -/
theorem rx_if (h : TX X c ds M fun k M1 => If k (RX X A ds M1 E) (RX X rest ds M1 E)) : RX X (.If c A [] pos :: rest) ds M E := fun σ F H s W t kk pins sh I =>
  (pss_cons (ps_if (ptC c) (pbC A) (pbC [])) (pbC rest)).run pins sh σ H DF I (cT_mono (h σ F H s) fun k H' ⟨F', M', q, m, g⟩ => by
    have go : ∀ {B : List Stmt}, RX X B ds M' E → cB X B DF σ H' := fun z => z σ F' H' (s.go g m) W t fun c σ' F2 M2 ds' H2 s2 g2 q => kk c σ' F2 M2 ds' H2 s2 (g.trans g2) q
    cases k with
    | true => exact cB_mono (go (B := A) (q.1 rfl)) (df_le _)
    | false => exact fun pins sh I => pss_nil.run pins sh σ H' _ I (go (B := rest) (q.2 rfl)))
/-- behind a block that runs through -/
theorem execs_app {M : Model} {A : Around} {env : Env} {E : Value → Shared → Prop} {Q : Flow → Shared → Prop} {s : Shared} (A1 A2 : List Stmt) (h : wpAny M A (execs A1 env) (fun f s' => match f with
  | .next => wpAny M A (execs A2 env) Q E s'
  | f => Q f s') E s) : wpAny M A (execs (A1 ++ A2) env) Q E s := fun Γ p hΓ => by
  have main : ∀ (A1 : List Stmt) (p : Pos) (s : Shared), Sem.wp M Γ (execs A1 env) (fun f p' s' => match f with
      | .next => Sem.wp M Γ (execs A2 env) (fun a _ s' => Q a s') (fun e _ s' => E e s') p' s'
      | f => Q f s') (fun e _ s' => E e s') p s → Sem.wp M Γ (execs (A1 ++ A2) env) (fun a _ s' => Q a s') (fun e _ s' => E e s') p s := by
    intro A1
    induction A1 with
    | nil => exact fun p s h => h
    | cons st A1 ih =>
      intro p s h
      rw [List.cons_append, execs_cons, Sem.wp_bind']
      rw [execs_cons, Sem.wp_bind'] at h
      refine Sem.wp_mono M Γ _ (fun f p' s' h' => ?_) (fun _ _ _ h' => h') _ _ h
      cases f <;> first | exact ih _ _ h' | exact h'
  refine main A1 p s (Sem.wp_mono M Γ _ (fun f p' s' h' => ?_) (fun _ _ _ h' => h') _ _ (h Γ p hΓ))
  cases f <;> first | exact h' Γ p' hΓ | exact h'
end
end Vq
/-! Vc25: what is asked of blocks that raise, by numbered cells; promises of raising defs; try. -/
namespace Vq
open PySem PySem.Spec PyProof.Rows L2 Hq
/-- of an expression, a block that raises: its class, the slots and the heap then -/
abbrev SX1 := List U → Hq → (Value → Hq → Prop) → Prop
abbrev SR := List U → Hq → (Value → List U → Hq → Prop) → Prop
structure VX (X : Cx) (e : Expr) (S : SX1) : Prop where
  out : ∀ us h E ρ Z M, S us h E → In ρ h Z M us → RE X e (toRs ρ us) M fun c M' => ∃ h' ρ', Ext ρ ρ' ∧ In ρ' h' Z M' us ∧ E c h'
structure VR (X : Cx) (A : List Stmt) (S : SR) : Prop where
  out : ∀ us h E ρ Z M, S us h E → In ρ h Z M us → RX X A (toRs ρ us) M fun c ds M' => ∃ us' h' ρ', ds = toRs ρ' us' ∧ Ext ρ ρ' ∧ In ρ' h' Z M' us' ∧ E c us' h'
theorem rx_mono {X : Cx} {A : List Stmt} {ds : List R} {M : Mem} {E E' : Value → List R → Mem → Prop} (h : RX X A ds M E) (q : ∀ c ds M', E c ds M' → E' c ds M') : RX X A ds M E' := fun σ F H s W t k => h σ F H s W t fun c σ' F' M' ds' H' s' g z => k c σ' F' M' ds' H' s' g (q c ds' M' z)
theorem re_mono {X : Cx} {e : Expr} {ds : List R} {M : Mem} {E E' : Value → Mem → Prop} (h : RE X e ds M E) (q : ∀ c M', E c M' → E' c M') : RE X e ds M E' := fun σ F H s W t k => h σ F H s W t fun c F' M' H' m g z => k c F' M' H' m g (q c M' z)
section
variable {X : Cx} {e a b c : Expr} {es : List Expr} {A B rest r : List Stmt} {us : List U} {h : Hq} {ρ ρ1 : List Ar} {Z M : Mem} {ds : List R} {pos p p2 pos' : Pos} {S : SE} {Ss : List SE} {T1 : ST} {Se Sa Sb : SX1} {Ra Rb Rr : SR} {Rs : SB}
def rRet (S : SX1) : SR := fun us h E => S us h fun c h' => E c us h'
theorem vr_ret (ha : VX X e Se) : VR X (.Return (some e) pos :: rest) (rRet Se) := .mk fun us h E ρ Z M s i =>
  rx_ret (re_mono (ha.out us h _ ρ Z M s i) fun c M' ⟨h', ρ', ex, i', q⟩ => ⟨us, h', ρ', (toRs_st i.st ex).symm, ex, i', q⟩)
theorem vr_set (j : Nat) {x : Str} {pos' : Pos} (hN : X.N.Nodup) (ha : VX X e Se) (hi : X.N[j]? = some x := by rfl) (hx : Loc X.env.scope x := by first | exact Or.inl rfl | exact Or.inr rfl) (hs : swapsWith e (some (.Name x pos')) pos.line X.env = pure false := by first | exact sw_not rfl | rfl)
    (hf : X.fn x = true ∨ X.env.scope.names.lookup x = some .local := by first | exact .inl rfl | exact .inr rfl) : VR X (.Assign [.Name x pos'] e pos :: rest) (rRet Se) := .mk fun us h E ρ Z M s i =>
  rx_set j hN (re_mono (ha.out us h _ ρ Z M s i) fun c M' ⟨h', ρ', ex, i', q⟩ => ⟨us, h', ρ', (toRs_st i.st ex).symm, ex, i', q⟩) hi hx hs hf
theorem vr_exp (ha : VX X e Se) (hs : swapsWith e none pos.line X.env = pure false := by first | exact sw_not rfl | rfl) : VR X (.Expr e pos :: rest) (rRet Se) := .mk fun us h E ρ Z M s i =>
  rx_exp (re_mono (ha.out us h _ ρ Z M s i) fun c M' ⟨h', ρ', ex, i', q⟩ => ⟨us, h', ρ', (toRs_st i.st ex).symm, ex, i', q⟩) hs
def rIf (T : ST) (Ra Rr : SR) : SR := fun us h E => T us h fun k h1 => If k (Ra us h1 E) (Rr us h1 E)
theorem vr_if (hc : VT X c T1) (hA : VR X A Ra) (hr : VR X rest Rr) : VR X (.If c A [] pos :: rest) (rIf T1 Ra Rr) := .mk fun us h E ρ Z M s i =>
  rx_if (hc.run s i fun k h1 ρ1 M1 q e1 i1 q1 => by
    rw [q1]
    have up : ∀ c ds M', (∃ us' h' ρ', ds = toRs ρ' us' ∧ Ext ρ1 ρ' ∧ In ρ' h' Z M' us' ∧ E c us' h') → ∃ us' h' ρ', ds = toRs ρ' us' ∧ Ext ρ ρ' ∧ In ρ' h' Z M' us' ∧ E c us' h' := fun c ds M' ⟨us', h', ρ', a, b, d⟩ => ⟨us', h', ρ', a, e1.trans b, d⟩
    exact ⟨fun z => rx_mono (hA.out us h1 E ρ1 Z M1 (q.1 z) i1) up, fun z => rx_mono (hr.out us h1 E ρ1 Z M1 (q.2 z) i1) up⟩)
/-- behind n statements that run through -/
def rApp (R1 : SB) (R2 : SR) : SR := fun us h E => R1 us h { nx := fun us h => R2 us h E, rt := fun _ _ => False }
theorem vr_app (A1 A2 : List Stmt) (h1 : VB X A1 Rs) (h2 : VR X A2 Rr) : VR X (A1 ++ A2) (rApp Rs Rr) := .mk fun us h E ρ Z M s i => fun σ F H st W t k pins sh I => by
  refine execs_app A1 A2 (thn (h1.out us h _ ρ Z M s i σ F H st pins sh I) fun f s' q => ?_)
  cases f with
  | next =>
    obtain ⟨σ', H', I', F', M', ds', sl, ⟨us', h', ρ', e', ex, i', z⟩, m, g⟩ := q
    subst e'
    exact h2.out us' h' E ρ' Z M' z i' σ' F' H' ⟨sl, m⟩ W t (fun c σ2 F2 M2 ds2 H2 s2 g2 ⟨us2, h2, ρ2, e2, ex2, i2, q2⟩ => k c σ2 F2 M2 ds2 H2 s2 (g.trans g2) ⟨us2, h2, ρ2, e2, ex.trans ex2, i2, q2⟩) pins s' I'
  | ret v =>
    obtain ⟨_, _, _, _, _, _, _, _, _, ⟨_, _, _, _, _, _, _, _, z⟩, _⟩ := q
    exact z.elim
  | brk =>
    obtain ⟨_, _, _, _, _, _, _, ⟨_, _, _, _, _, _, z⟩, _⟩ := q
    exact z.elim
  | cont =>
    obtain ⟨_, _, _, _, _, _, _, ⟨_, _, _, _, _, _, z⟩, _⟩ := q
    exact z.elim
/-! ### expressions -/
/-- a if t else b -/
def xIf (T : ST) (A B : SX1) : SX1 := fun us h E => T us h fun k h1 => If k (A us h1 E) (B us h1 E)
theorem vx_if (hc : VT X c T1) (hA : VX X a Sa) (hB : VX X b Sb) : VX X (.IfExp c a b pos) (xIf T1 Sa Sb) := .mk fun us h E ρ Z M s i => fun σ F H st W t kk pins sh I => by
  refine (pe_ifExp (ptC c) (peC a) (peC b)).run pins sh σ H _ I ?_
  refine cT_mono (hc.run (P := fun k M1 => If k (RE X a (toRs ρ us) M1 fun c M' => ∃ h' ρ', Ext ρ ρ' ∧ In ρ' h' Z M' us ∧ E c h') (RE X b (toRs ρ us) M1 fun c M' => ∃ h' ρ', Ext ρ ρ' ∧ In ρ' h' Z M' us ∧ E c h')) s i (fun k h1 ρ1 M1 q e1 i1 q1 => ?_) σ F H st) fun k H' ⟨F', M', q, m, g⟩ => ?_
  · rw [q1]
    have up : ∀ c M', (∃ h' ρ', Ext ρ1 ρ' ∧ In ρ' h' Z M' us ∧ E c h') → ∃ h' ρ', Ext ρ ρ' ∧ In ρ' h' Z M' us ∧ E c h' := fun c M' ⟨h', ρ', b, d⟩ => ⟨h', ρ', e1.trans b, d⟩
    exact ⟨fun z => re_mono (hA.out us h1 E ρ1 Z M1 (q.1 z) i1) up, fun z => re_mono (hB.out us h1 E ρ1 Z M1 (q.2 z) i1) up⟩
  · have go : ∀ {e : Expr}, RE X e (toRs ρ us) M' (fun c M' => ∃ h' ρ', Ext ρ ρ' ∧ In ρ' h' Z M' us ∧ E c h') → cE X e σ H' fun _ _ => False := fun z => z σ F' H' (st.go g m) W t fun c F2 M2 H2 m2 g2 q => kk c F2 M2 H2 m2 (g.trans g2) q
    cases k with
    | true => exact go (q.1 rfl)
    | false => exact go (q.2 rfl)
/-- o[i] where o raises -/
theorem vx_sub {i : Expr} (ha : VX X a Sa) (hev : ∀ env : Env, ∃ f : Value → Sem Value, eval (.Subscript a i pos) env = eval a env >>= f := by exact fun _ => ⟨_, rfl⟩) : VX X (.Subscript a i pos) Sa := .mk fun us h E ρ Z M s i => fun σ F H st W t kk pins sh I => by
  obtain ⟨f, ef⟩ := hev X.env
  rw [ef]
  exact wpAny_bind (thn (ha.out us h E ρ Z M s i σ F H st W t kk pins sh I) fun u s1 ⟨_, _, _, _, z⟩ => z.elim)
end
end Vq
/-! Vc26: promises of raising defs, their calls; raise; try; isinstance of a held exception. -/
namespace Vq
open PySem PySem.Spec PyProof.Rows L2 Hq
/-- where an own exception class without own __init__ stands, and what it says -/
structure ExcT (K : PySem.W.Frag) (mg : Str → Option Value) (x : Str) (C : Addr) : Prop where
  own : ∃ bmB B newId initId, ExcBaseFacts B newId initId bmB ∧ PySem.W.excIn K C bmB newId = true
  glo : mg x = some (.ref C)
  kp : PySem.W.keepIn K (.ref C) = true
  sub : PySem.W.subIn K (.ref C) (.type "BaseException") = some true
  ty : PySem.W.typeIn K (.ref C) = some (.type "type")
  ex : ExcC K C
  self : PySem.W.subIn K (.ref C) (.ref C) = some true
theorem ExcT.exm {K : PySem.W.Frag} {mg : Str → Option Value} {x : Str} {C : Addr} (t : ExcT K mg x C) : PySem.W.exmOne K (.ref C) (.ref C) = some true := PySem.W.exm_ref t.sub t.ex.hd t.ty t.self
/-- what a raising def promises: of its arguments, data all, the classes that may come -/
abbrev Fr := List U → (Value → Prop) → Prop
def spR (K : PySem.W.Frag) (sp : Fr) : Sp := fun vs H _ Z => ∃ us M F E, Rrs K F vs (toRs [] us) ∧ Ms K M F H ∧ Sts [] us ∧ sp us E ∧ ∀ c F' H', E c → Ms K M F' H' → Go M F H M F' H' → Z c none H'
structure FxR (P : Program) (w : World) (K : PySem.W.Frag) (mg : Str → Option Value) (base : Heap) (k : Nat) (x : Str) (st : Stmt) (ps : List Str) (sp : Fr) : Prop where
  ex : ∃ f fd, mg x = some (.ref f) ∧ Fun K x x st f fd ∧ Binds K fd ps [] ∧ FnG P w K mg base (L2.CX P w) k f fd ps (spR K sp)
abbrev rX (P : Program) (w : World) (K : PySem.W.Frag) (mg : Str → Option Value) (base : Heap) (N : List Str) (x : Str) (st : Stmt) (f : Addr) (cd : Value) (A : Around) (fr : List Env) (s : Shared) (G : Hp) (Z : XK) : Cx := cxOf (L2.CX P w) P w K mg base N x (defScope st) f cd A fr s G Z
theorem FxR.mono {P : Program} {w : World} {K : PySem.W.Frag} {mg : Str → Option Value} {base : Heap} {j k : Nat} {x : Str} {st : Stmt} {ps : List Str} {sp : Fr} (h : FxR P w K mg base j x st ps sp) (l : j ≤ k) : FxR P w K mg base k x st ps sp := by
  obtain ⟨f, fd, a, b, c, d⟩ := h.ex
  exact ⟨f, fd, a, b, c, d.mono l⟩
theorem fnR_of {P : Program} {w : World} {K : PySem.W.Frag} {mg : Str → Option Value} {base : Heap} {k : Nat} {x qual : Str} {st : Stmt} {f : Addr} {fd : FuncData} {N ps : List Str} {sp : Fr} {sem : SR} (D : Fun K x qual st f fd) (S : FnScope N ps (defScope st)) (hlen : ∀ us E, sp us E → us.length = ps.length)
    (vr : ∀ (cd : Value) (A : Around) (fr : List Env) (s : Shared) (G : Hp) (Z : XK), (rX P w K mg base N qual st f cd A fr s G Z).A.guards = some [] → Room k (rX P w K mg base N qual st f cd A fr s G Z).A → VR (rX P w K mg base N qual st f cd A fr s G Z) (defBody st) sem)
    (vc : ∀ us E, sp us E → sem (us ++ List.replicate (N.length - ps.length) .no) [] fun c _ _ => E c) : FnG P w K mg base (L2.CX P w) (k + 1) f fd ps (spR K sp) := by
  refine fnG_of D S (fun xs G R Z h => ?_) (fun cd A fr s G xs R Z hg hr h => ?_)
  · obtain ⟨us, M, F, E, a, b, c, d, _⟩ := h
    rw [a.length, toRs_len]
    exact hlen _ _ d
  · obtain ⟨us, M, F, E, a, b, c, d, kk⟩ := h
    have hl := hlen _ _ d
    have hl2 : (toRs [] us).length = ps.length := by rw [toRs_len]; exact hl
    have er : toRs [] (us ++ List.replicate (N.length - ps.length) .no) = toRs [] us ++ List.replicate (N.length - ps.length) .no := by
      rw [toRs_app, toRs_map [] (List.replicate _ _), List.map_replicate, toR_no]
    have sl : Sl K F (start N xs) (toRs [] us ++ List.replicate (N.length - ps.length) .no) := by
      refine ⟨by simp [L2.start, a.length, hl2], fun i r hi n => ?_⟩
      unfold L2.start
      by_cases h1 : i < (toRs [] us).length
      · rw [List.getElem?_append_left h1] at hi
        obtain ⟨v, e1, e2⟩ := rrs_get a hi
        refine ⟨v, ?_, e2⟩
        rw [List.getElem?_append_left (by simpa [a.length] using h1), List.getElem?_map, e1]
        rfl
      · rw [List.getElem?_append_right (by omega), List.getElem?_replicate] at hi
        split at hi
        · cases hi; exact absurd rfl n
        · cases hi
    have i2 : In [] [] M M (us ++ List.replicate (N.length - ps.length) .no) := ⟨.refl _, .nil, fun u hu => (List.mem_append.mp hu).elim (c u) fun z => by rw [List.eq_of_mem_replicate z]; exact .no⟩
    have q := (vr cd A fr s G Z hg hr).out _ [] _ [] M M (vc us E d) i2
    rw [er] at q
    have q2 := q (start N xs) F G ⟨sl, b⟩ (fun cls d _ H => Z cls d H) (takes_of rfl rfl rfl rfl) fun c σ' F' M' ds' H' s' g ⟨_, h', ρ', _, _, i', z⟩ => by
      obtain ⟨m2, g2⟩ := ms_fewer ⟨memOf ρ' h' ++ M, i'.pm, List.sublist_append_right _ _⟩ s'.ms
      exact kk c F' H' z m2 (g.trans g2)
    exact cB_mono q2 (df_le _)
theorem fxr_vc {P : Program} {w : World} {K : PySem.W.Frag} {mg : Str → Option Value} {base : Heap} {k : Nat} {x : Str} {st : Stmt} {N ps : List Str} {sp : Fr} {sem : SR} (a : At K mg x st) (S : FnScope N ps (defScope st)) (hlen : ∀ us E, sp us E → us.length = ps.length)
    (hb : ∀ (kV doc pm : Value) (an : Option Addr) (cdv ct : Value) (us : List Value), us.length = ps.length → bindArgs (PySem.W.fnOf x x (defArgs st) (defBody st) (defScope st) .none kV doc pm an cdv ct) ⟨us, []⟩ = pure (ps.zip us))
    (vr : ∀ (f : Addr) (cd : Value) (A : Around) (fr : List Env) (s : Shared) (G : Hp) (Z : XK), (rX P w K mg base N x st f cd A fr s G Z).A.guards = some [] → Room k (rX P w K mg base N x st f cd A fr s G Z).A → VR (rX P w K mg base N x st f cd A fr s G Z) (defBody st) sem)
    (vc : ∀ us E, sp us E → sem (us ++ List.replicate (N.length - ps.length) .no) [] fun c _ _ => E c) : FxR P w K mg base (k + 1) x st ps sp := by
  obtain ⟨f, fd, hm, D⟩ := a.ex
  exact ⟨f, fd, hm, D, D.binds hb, fnR_of D S hlen (fun cd A fr s G Z => vr f cd A fr s G Z) vc⟩
section
variable {X : Cx} {e a b c : Expr} {es : List Expr} {A B rest r body : List Stmt} {us : List U} {h : Hq} {ρ ρ1 : List Ar} {Z M : Mem} {ds : List R} {pos p p2 pos' : Pos} {S : SE} {Ss : List SE} {T1 : ST} {Se Sa Sb : SX1} {Ra Rb Rr : SR} {Rs Bs : SB} {k : Nat} {x : Str} {st : Stmt} {ps : List Str} {sp : Fr}
theorem runR {f : Addr} {fd : FuncData} {sp : Sp} {Z : XK} {W : WX} {pins : List (Addr × Obj)} {σ : L2.St} {H : Hp} {s : Shared} {us : List Value} {ar : Args} {xs : List V} (G : FnG X.prog X.w X.K X.mg X.base (L2.CX X.prog X.w) k f fd ps sp) (hg : X.A.guards = some []) (hr : Room k X.A) (hb : BindsTo s fd ar (ps.zip us)) (tk : Takes X W) (hW : ∀ c d H', Z c d H' → W c d σ H')
    (I : Inv X pins σ H s) (r : Vals xs us) (h : sp xs H (fun _ _ => False) Z) : codeAny (model X.prog X.w) X.A (.call (.ref f) ar) (fun r s' => match r with | .ok (.ret u) => EP X pins σ (fun _ _ => False) u s' | .ok _ => False | .error e => X.xe e s') s :=
  codeAny_mono (G.go X.A X.stack s H ar us xs _ Z hg hr I.env0 hb r h) fun r s' q => by
    cases r with
    | error e => exact tk e s' (XE.of_call I hW q)
    | ok fl =>
      cases fl with
      | ret u => exact I.after q
      | next => exact q.elim
      | brk => exact q.elim
      | cont => exact q.elim
/-- arguments that are data -/
def dArgs (vs : List U) (P : List U → Prop) : Prop := match rens (fun _ => none) vs with
  | some vs' => P vs'
  | none => False
def xCall (sp : Fr) (Ss : List SE) : SX1 := fun us h E => sArgs Ss us h fun vs h1 => dArgs vs fun vs' => sp vs' fun c => E c h1
theorem vx_call (G : FxR X.prog X.w X.K X.mg X.base k x st ps sp) (hg : X.A.guards = some []) (hr : Room k X.A) (hlen : ∀ us E, sp us E → us.length = ps.length) (ha : VAs X (e :: es) Ss) (gl : Gl X x := by rfl) (hdb : (x == ("__debug__" : Str)) = false := by decide) (he : starEach (e :: es) X.env = (false, eval e X.env) :: starEach es X.env := by exact st_any rfl)
    (hpl : (backTo pos (starEach es X.env)).any (·.1) = false := by rfl) : VX X (.Call (.Name x p) (e :: es) [] pos) (xCall sp Ss) := .mk fun us h E ρ Z M s i => fun σ F H st W t kk pins sh I => by
  obtain ⟨f, fd, hm, D, hb, G⟩ := G.ex
  have q : AX X (e :: es) (toRs ρ us) M fun rs M1 => ∃ vs h1 ρ1 vs', rs = toRs ρ1 vs ∧ Ext ρ ρ1 ∧ In ρ1 h1 Z M1 us ∧ rens (fun _ => none) vs = some vs' ∧ Sts ρ1 vs ∧ sp vs' fun c => E c h1 := ha.run s i fun vs h1 ρ1 M1 q l e1 i1 s1 q1 => by
    unfold dArgs at q
    split at q
    · rename_i vs' ev
      exact ⟨vs, h1, ρ1, vs', rfl, e1, i1, ev, s1, q⟩
    · exact q.elim
  refine wpAny_Call_Name_kw (ld_glob I gl hm ?_ hdb)
  refine PySem.W.callWith_K (h₀ := X.base) I.ok.mod.kin D.kp (thn (q σ F H st pos pins sh I) fun us1 s1 ⟨vs1, H1, I1, r, F1, M1, rs, a, ⟨vs, h1, ρ1, vs', er, e1, i1, ev, sv, w⟩, m, g⟩ => ⟨I1.kIn, ?_⟩) he hpl
  subst er
  have mv : Moves (fun _ => none) ρ1 [] := fun n m e => nomatch e
  obtain ⟨q1, q2⟩ := rens_ok mv vs vs' ev sv
  rw [← q1] at a
  have hl := hlen _ _ w
  have hb1 := hb s1 us1 I1.kIn (by rw [List.append_nil, ← r.length, a.length, toRs_len]; exact hl)
  rw [List.append_nil] at hb1
  refine call_thn (runR G hg hr hb1 t (Z := fun c d H' => d = none ∧ W c none σ H') (fun c d H' ⟨ed, z⟩ => by rw [ed]; exact z) I1 r ⟨vs', M1, F1, fun c => E c h1, a, m, q2, w, fun c F' H' z m' g' => ⟨rfl, kk c F' M1 H' m' (g.trans g') ⟨h1, ρ1, e1, i1, z⟩⟩⟩)
end
end Vq
/-! Vc27: raise; try .. except X as n: y = n; isinstance of a held exception. -/
namespace Vq
open PySem PySem.Spec PyProof.Rows L2 Hq
section
variable {X : Cx} {e a b c : Expr} {es : List Expr} {A B rest r body : List Stmt} {us : List U} {h : Hq} {ρ ρ1 : List Ar} {Z M : Mem} {ds : List R} {pos p p2 pos' : Pos} {S : SE} {Ss : List SE} {T1 : ST} {Se Sa Sb : SX1} {Ra Rb Rr : SR} {Rs Bs : SB} {k : Nat} {x : Str} {st : Stmt} {ps : List Str} {sp : Fr} {C : Addr}
theorem vr_none {A : List Stmt} : VR X A fun _ _ _ => False := .mk fun _ _ _ _ _ _ s _ => s.elim
def rRaise (C : Addr) : SR := fun us h E => E (.ref C) us h
theorem vr_raise {m : Str} {j} (T : ExcT X.K X.mg x C) (hc : X.calm = true) (gl : Gl X x := by rfl) (hdb : (x == ("__debug__" : Str)) = false := by decide) : VR X (.Raise (some (.Call (.Name x p) [.Constant (.str m) j p2] [] pos)) none pos' :: rest) (rRaise C) := .mk fun us h E ρ Z M s i => fun σ F H st W t kk pins sh I => by
  obtain ⟨bmB, B, newId, initId, Fb, q⟩ := T.own
  exact (pss_cons (ps_raise hc t (pmk_own Fb q T.glo T.kp (raises_own T.sub T.ty) gl hdb)) (pbC rest)).run pins sh σ H DF I (kk (.ref C) σ F M _ H st Go.refl ⟨us, h, ρ, rfl, Ext.refl _, i, s⟩)
/-- try: a block that raises; the exception is held behind it -/
def sTryT (C : Addr) (i j : Nat) (Rb : SR) (Bs : SB) : SB := fun us h D => Rb us h fun c us' h' => c = .ref C ∧ Bs (((us'.set i (.c h'.length)).set j (.c h'.length)).set i .no) (h' ++ [.ex c]) D
theorem vb_tryT {n y : Str} {np py pn pa : Pos} (i j : Nat) (T : ExcT X.K X.mg x C) (hN : X.N.Nodup) (hb : ∀ (pn : List (Addr × Obj)) (xe : Value → Shared → Prop), VR (X.tr pn xe) body Rb) (hr : VB X rest Bs)
    (hs : X.stack = X.env :: X.outer := by rfl) (hf : X.env.frame = some X.env.locals := by rfl) (hex : X.ex = [] := by rfl) (hi : X.N[i]? = some n := by rfl) (hj : X.N[j]? = some y := by rfl) (hln : X.env.kindOf n = some .local := by rfl) (hly : X.env.scope.names.lookup y = some .local := by rfl)
    (hg : Gl X x := by rfl) (hdx : (x == ("__debug__" : Str)) = false := by decide) (hsw : swapsWith (.Name n pn) (some (.Name y py)) pa.line X.env = pure false := by first | exact sw_not rfl | rfl) (hd : (n == ("__debug__" : Str)) = false := by decide) (hcd : (n == ("__classdict__" : Str)) = false := by decide) :
    VB X (.Try body [.ExceptHandler (some (.Name x np)) (some n) [.Assign [.Name y py] (.Name n pn) pa] pos'] [] [] pos :: rest) (sTryT C i j Rb Bs) := .mk fun us h D ρ Z M s ii =>
  bx_cons (sx_ps (ps_try_T (tb := fun W D σ H => ∀ (pn : List (Addr × Obj)) (xe : Value → Shared → Prop), Takes (X.tr pn xe) W → cB (X.tr pn xe) body DF σ H) hs hf hex hN hi hj hln hly ⟨hg, hdx, .inl T.glo⟩ hsw hd hcd
    fun W pn xe tk => ⟨fun pins s σ H D I q => cB_mono (q pn xe tk) (df_le D) pins s I⟩) fun σ F H st pn xe tk => (hb pn xe).out us h _ ρ Z M s ii σ F H st _ tk fun cl σ' F' M' ds' H' s' g ⟨us', h', ρ', e', ex, i', ec, q⟩ => by
      subst e' ec
      refine ⟨rfl, T.exm, fun a na => ?_⟩
      have m0 : Ms X.K (M' ++ []) F' H' := by rw [List.append_nil]; exact s'.ms
      obtain ⟨m1, g1⟩ := m0.newC (p := a) (o := exH (.ref C) a) (c := .raw (exH (.ref C) a)) na upd_same
      rw [List.append_nil] at g1
      have l : ρ'.length = h'.length := i'.gd.len
      have ea : ad (ρ' ++ [(a, [])]) h'.length = .v (.ref a) := ad_of (a := (a, [])) (by rw [List.getElem?_append_right (by omega), l]; simp)
      have ex1 := Ext.app ρ' [(a, [])]
      have ra : Rr X.K F' (.ref a) (.v (.ref a)) := rr_v.mpr rfl
      have gd := i'.gd.new (a := (a, [])) (o := .ex (.ref C)) trivial trivial
      have sc : StU (ρ' ++ [(a, [])]) (.c h'.length) := .c (by simp [l])
      have sl : Sl X.K F' (((σ'.set i (some (.ref a))).set j (some (.ref a))).set i none) (toRs (ρ' ++ [(a, [])]) (((us'.set i (.c h'.length)).set j (.c h'.length)).set i .no)) := by
        have z := wipe_sl ((s'.sl.set (i := i) ra).set (i := j) ra) [i]
        rw [toRs_set, toRs_set, toRs_set, toR_no, toR_c, ea, toRs_st i'.st ex1]
        exact z
      refine ⟨F', M' ++ (a, .raw (exH (.ref C) a)) :: [], _, sl, ?_, m1, g.trans g1⟩
      refine hr.run q (ex.trans ex1) ⟨?_, gd, ((((i'.st.up ex1).set sc).set sc).set .no)⟩
      rw [memOf_new i'.gd]
      refine (i'.pm.append_right _).trans ?_
      rw [List.append_assoc, List.append_assoc]
      exact List.Perm.append_left _ List.perm_append_comm)
/-- .. or one that runs through -/
def sTry (C : Addr) (i j : Nat) (Sb : SB) (Rb : SR) (Bs : SB) : SB := fun us h D => Sb us h { D with nx := fun us h => Bs us h D } ∨ sTryT C i j Rb Bs us h D
theorem bx_or {D : Po} {P Q : Prop} (h : P ∨ Q) (f : P → BX X A ds M D) (g : Q → BX X A ds M D) : BX X A ds M D := h.elim f g
theorem vb_try {n y : Str} {np py pn pa : Pos} {Sn : SB} (i j : Nat) (T : ExcT X.K X.mg x C) (hN : X.N.Nodup) (hn : VB X.nox body Sn) (hb : ∀ (pn : List (Addr × Obj)) (xe : Value → Shared → Prop), VR (X.tr pn xe) body Rb) (hr : VB X rest Bs)
    (hs : X.stack = X.env :: X.outer := by rfl) (hf : X.env.frame = some X.env.locals := by rfl) (hex : X.ex = [] := by rfl) (hi : X.N[i]? = some n := by rfl) (hj : X.N[j]? = some y := by rfl) (hln : X.env.kindOf n = some .local := by rfl) (hly : X.env.scope.names.lookup y = some .local := by rfl)
    (hg : Gl X x := by rfl) (hdx : (x == ("__debug__" : Str)) = false := by decide) (hsw : swapsWith (.Name n pn) (some (.Name y py)) pa.line X.env = pure false := by first | exact sw_not rfl | rfl) (hd : (n == ("__debug__" : Str)) = false := by decide) (hcd : (n == ("__classdict__" : Str)) = false := by decide) :
    VB X (.Try body [.ExceptHandler (some (.Name x np)) (some n) [.Assign [.Name y py] (.Name n pn) pa] pos'] [] [] pos :: rest) (sTry C i j Sn Rb Bs) := .mk fun us h D ρ Z M s ii =>
  bx_or s (fun s => bx_cons (sx_ps (ps_try_thru0 (pbC body)) fun σ F H st => by
    have q : BX X.nox body (toRs ρ us) M ((toPo ρ Z D).then X rest) := (hn.out us h _ ρ Z M s ii).mono (fun ds M' ⟨us', h', ρ', e', ex, i', z⟩ => by subst e'; exact hr.run z ex i') (fun _ _ z => z) (fun _ _ z => z) (fun _ _ z => z)
    exact q σ F H st)) fun s => (vb_tryT i j T hN hb hr hs hf hex hi hj hln hly hg hdx hsw hd hcd).out us h D ρ Z M s ii
/-! ### isinstance of a held exception -/
theorem kit_sub {K : PySem.W.Frag} {C : Addr} {n : String} {b : Bool} (hm : PySem.W.kitMeta n = true) (h : PySem.W.subIn K (.ref C) (.type n) = some b) : PySem.W.kitOne K (.ref C) (.type n) = some b := by
  unfold PySem.W.kitOne
  rw [if_neg (show ¬ ((Value.ref C == Value.type n) = true) by intro z; exact nomatch (beq_iff_eq.mp z))]
  show (if PySem.W.kitMeta n = true then PySem.W.subIn K (.ref C) (.type n) else none) = some b
  rw [if_pos hm]
  exact h
def rIsX (K : PySem.W.Frag) : List V → Hp → VK → Prop := fun xs H Q => ∃ (a D : Addr) (c : V) (cv : Value) (b : Bool), xs = [.ref a, c] ∧ H a = some (exH (.ref D) a) ∧ ExcC K D ∧ ClsV c cv ∧ PySem.W.kitOne K (.ref D) cv = some b ∧ Q (.bl b) H
theorem call_isX : CallR X (.builtin "isinstance") (rIsX X.K) := by
  intro pins s σ H xs us Q I r h
  obtain ⟨a, D, c, cv, b, rfl, ha, C, k, e, q⟩ := h
  obtain ⟨u1, u2, rfl, r1, r2⟩ := vals2 r
  cases (show u1 = Value.ref a from r1)
  have e2 := k.eq r2
  subst e2
  obtain ⟨⟨oe, vs, hget, hz, hv⟩, _, _⟩ := (show ObjOk X.prog X.w H s.heap a (exH (.ref D) a) from I.hok a _ ha)
  have J : PySem.W.InstAt s.heap a oe D none := by
    obtain ⟨oc, od, oda, osl⟩ := oe
    obtain ⟨h1, h2⟩ := hz
    dsimp only at h1 h2 hv
    subst h1 h2 hv
    exact ⟨hget, rfl, rfl, trivial⟩
  exact PySem.W.kia_one (PySem.W.handS_kitx_exc C.hg C.hk C.hs C.hd C.ha C.hn C.ht C.hm) I.kIn J e (fun z => nomatch z) fun tk => ⟨.bl b, H, I.kept (t' := tk) fun _ _ z => z, rfl, q⟩
/-- the classes that may be asked, and the answers -/
def sIsE (l : List (Addr × Bool)) (S : SE) : SE := fun us h Q => S us h fun u h1 => match u with
  | .c n => match h1[n]? with
    | some (.ex (.ref D)) => ∃ b, (D, b) ∈ l ∧ Q (.d (.bool b)) h1
    | _ => False
  | _ => False
theorem ve_isE {c : Str} {cn : String} (l : List (Addr × Bool)) (hl : ∀ D b, (D, b) ∈ l → ExcC X.K D ∧ PySem.W.kitOne X.K (.ref D) (.type cn) = some b) (hv : bootBuiltins c = some (.type cn)) (hm : X.mg "isinstance" = none) (hm2 : X.mg c = none) (ha : VE X e S) (gl : Gl X "isinstance" := by rfl) (gl2 : Gl X c := by rfl)
    (he : starEach [e, .Name c p2] X.env = (false, eval e X.env) :: starEach [.Name c p2] X.env := by exact st_any rfl) (he2 : starEach [.Name c p2] X.env = (false, eval (.Name c p2) X.env) :: starEach [] X.env := by exact st_any rfl) (hpl : (backTo pos (starEach [.Name c p2] X.env)).any (·.1) = false := by rfl) (hn : c ≠ "__name__" := by decide) (hd : (c == ("__debug__" : Str)) = false := by decide) : VE X (.Call (.Name "isinstance" p) [e, .Name c p2] [] pos) (sIsE l S) := .mk fun us h Q ρ Z M s i =>
  ex_pe (pe_callB call_isX gl hm (by decide +kernel) (pa_cons (peC e) (pa_cons (pe_bltn gl2 hm2 hv (v := .ty cn) rfl hn hd) pa_nil he2) he) (he := he) (hpl := hpl)) fun σ F H st => by
    have q : EX X e (toRs ρ us) M fun r M1 => ∃ D b p, r = .v (.ref p) ∧ (p, Cell.raw (exH (.ref D) p)) ∈ M1 ∧ (D, b) ∈ l ∧ VPost ρ Z Q (T b) M1 := ha.run s i fun u h1 ρ1 M1 k e1 i1 s1 q1 => by
      split at k
      · rename_i n
        split at k
        · rename_i D eo
          obtain ⟨b, hb, k⟩ := k
          obtain ⟨a, ea, _, _⟩ := i1.gd.at eo
          exact ⟨D, b, a.1, by rw [toR_c, ad_of ea], cell_mem i1 ea eo (by simp [mem1]), hb, (in_d i1 k).up e1⟩
        · exact k.elim
      · exact k.elim
    refine cE_mono (q σ F H st) fun v H1 ⟨F1, M1, r, w, ⟨D, b, p, er, hm, hb, q⟩, m, g⟩ => ?_
    subst er
    have hH : H1 p = some (exH (.ref D) p) := (m.mem p _ hm).2
    exact ⟨p, D, .ty cn, .type cn, b, by rw [rr_v.mp w], hH, (hl D b hb).1, .ty cn, (hl D b hb).2, F1, M1, _, rrB, q, m, g⟩
end
end Vq
/-! Vc28: except clauses with a tuple of classes; isinstance of a held exception with own classes, with tuples. -/
namespace Vq
open PySem PySem.Spec PyProof.Rows L2 Hq
theorem flying_keeps {base h h' : Heap} {l : List Env} {e : Addr} {Z : Obj → Prop} (k : ∀ b o, h.get? b = some o → h'.get? b = some o) (f : HandSPX.FlyingZ base l e Z h) : HandSPX.FlyingZ base l e Z h' := by
  obtain ⟨h1, h2, h3, oe, vs, T, oT, ts, a1, a2, a3, a4, a5, a6, a7, a8, a9⟩ := f
  exact ⟨fun b o q => k b o (h1 b o q), h2, Heap.FunFrames.of_keeps (fun b o q _ => ⟨o, k b o q, rfl⟩) h3, oe, vs, T, oT, ts, k _ _ a1, a2, a3, a4, a5, a6, k _ _ a7, a8, a9⟩
/-- the test of an except clause, for the classes okc: it is met -/
def TstOk (X : Cx) (t : Expr) (okc : Value → Prop) : Prop := ∀ (a : Addr) (cls : Value) (pn : List (Addr × Obj)) (σ : L2.St) (H : Hp) (s : Shared) (Q : Bool → Shared → Prop) (E : Value → Shared → Prop), Inv (X.suite a pn) [] σ H s → PySem.W.Looks (model X.prog X.w) s.heap (typeOf (.ref a)) cls → okc cls →
  (∀ h', (∀ b o, s.heap.get? b = some o → h'.get? b = some o) → Q true { s with heap := h' }) → wpAny (model X.prog X.w) (X.A.mark (some (.ref a))) (eval t X.env) (fun c s₁ => wpAny (model X.prog X.w) (X.A.mark (some (.ref a))) (excMatches (.ref a) c) Q E s₁) E s
section
variable {X : Cx} {pins : List (Addr × Obj)} {σ : L2.St} {H : Hp} {s : Shared}
def wU (okc : Value → Prop) (i j : Nat) (D : Ends) : WX := fun cls d σ H => d = none ∧ okc cls ∧ ∀ a, H a = none → D.nx (((σ.set i (some (.ref a))).set j (some (.ref a))).set i none) (upd H a (exH cls a))
theorem ps_try_U {t : Expr} {okc : Value → Prop} {n y : Str} {i j : Nat} {body : List Stmt} {py pn pa pos pos' : Pos} {tb : WX → TS} (hs : X.stack = X.env :: X.outer) (hf : X.env.frame = some X.env.locals) (hex : X.ex = []) (hN : X.N.Nodup) (hi : X.N[i]? = some n) (hj : X.N[j]? = some y) (hln : X.env.kindOf n = some .local) (hly : X.env.scope.names.lookup y = some .local)
    (hc : TstOk X t okc) (hsw : swapsWith (.Name n pn) (some (.Name y py)) pa.line X.env = pure false) (hd : (n == ("__debug__" : Str)) = false) (hcd : (n == ("__classdict__" : Str)) = false)
    (hb : ∀ (W : WX) (pn : List (Addr × Obj)) (xe : Value → Shared → Prop), Takes (X.tr pn xe) W → PSs (X.tr pn xe) body (tb W)) :
    PS X (.Try body [.ExceptHandler (some t) (some n) [.Assign [.Name y py] (.Name n pn) pa] pos'] [] [] pos) (fun D σ H => tb (wU okc i j D) D σ H) := by
  refine ⟨fun pins s σ H D I h => ?_⟩
  have ok := I.ok
  have hfr : X.A.frames = some (X.env :: X.outer) := by rw [ok.frames, hs]
  have hloc : Loc X.env.scope n := .inl hln
  refine wpAny_Try_except ?_
  refine wpAny_mono ((hb (wU okc i j D) (X.pn ++ pins) (fun e s₁ => wpAny (model X.prog X.w) X.A (noteFrame e X.env) (fun _ s₂ => wpAny (model X.prog X.w) X.A (setFlight e none) (fun _ s₃ =>
    wpAny (model X.prog X.w) X.A (handleBy e X.env [.ExceptHandler (some t) (some n) [.Assign [.Name y py] (.Name n pn) pa] pos']) (SP X pins D) X.xe s₃) X.xe s₂) X.xe s₁) (fun u s' xx => ?_)).run [] s σ H D (I.toTry _) h) (fun f s1 hsp => ?_) (fun e s1 he => he)
  · obtain ⟨a, B, sI, pins', σ', H', cls, d, rfl, J', nb, up, sky, na, os, ag, rfl, hb1, hyes⟩ := xx
    have J : Inv X pins σ' H' sI := J'.ofTry ok
    have sky' : Sky B (X.env :: X.outer) a (Zc cls none) X.env.locals s'.heap := by rw [← hs]; exact sky
    show wpAny (model X.prog X.w) X.A (noteFrame (.ref a) X.env) _ _ _
    refine Sky.land Zc.steady hfr hf sky' fun h3 fl3 up3 => ?_
    have J3 : Inv X pins σ' H' { s' with heap := h3 } := J.landed nb fl3.1 (up.trans up3) os ag
    obtain ⟨oe3, vs3, he3, hz3, hd3⟩ := fl3.there
    have nfr : a ∉ frs (X.env :: X.outer) := fun hm => by
      obtain ⟨_, o', e', hnf⟩ := fl3.2.2.1.mem hm
      rw [he3] at e'
      cases e'
      exact hnf _ hd3
    have nL : a ≠ X.env.locals := fun z => nfr (List.mem_filterMap.mpr ⟨X.env, List.mem_cons_self, by rw [hf, z]⟩)
    have nF : a ∉ X.fs := fun hm => by
      obtain ⟨e, he, q⟩ := List.mem_filterMap.mp hm
      exact nfr (List.mem_filterMap.mpr ⟨e, List.mem_cons_of_mem _ he, q⟩)
    have nS : a ∉ frs X.stack := by rw [hs]; exact nfr
    have Ba : B.get? a = none := fl3.2.1
    have n0 : X.s_0.heap.get? a = none := by
      cases q : X.s_0.heap.get? a with
      | none => rfl
      | some o =>
        obtain ⟨o', q'⟩ := J.base.there a o q (by rw [hex]; exact fun z => nomatch z)
        rw [nb a o' q' nS] at Ba
        cases Ba
    have npn : ∀ p ∈ X.pn ++ pins, p.1 ≠ a := fun p hp z => by
      obtain ⟨q, _⟩ := J.pin p hp
      rw [z] at q
      rw [nb a _ q nS] at Ba
      cases Ba
    have S3 := J3.suite he3 hd3 na nL nF
    refine wpAny_handleBy_cons (codeAny_handlers_test ?_) (by intro q; cases q)
    have LT : PySem.W.Looks (model X.prog X.w) h3 (typeOf (.ref a)) cls := fun A Q E s k q => wpAny_typeOf_ref (k _ _ he3) (by rw [hz3.1]; exact q)
    refine hc a cls _ _ _ _ _ _ S3 LT hb1 fun h3' k3 => ?_
    refine codeAny_handlers_suite_as ?_
    refine HandSPX.lands_againZ (flying_keeps k3 fl3) fun h4 fl4 up4 => ?_
    have J4 : Inv X pins σ' H' { s' with heap := h4 } := J.landed nb fl4.1 (((up.trans up3).trans (Heap.UpToSlots.of_keeps k3)).trans up4) os ag
    obtain ⟨oe4, vs4, he4, hz4, hd4⟩ := fl4.there
    have S4 := J4.suite he4 hd4 na nL nF
    refine store_ok (X := X.suite a ((a, oe4) :: (X.pn ++ pins))) (v := .ref a) S4 hN hi hloc rfl (fun s5 S5 => ?_) (.inr hln)
    have li : i < σ'.length := by rw [J.len]; exact (List.getElem?_eq_some_iff.mp hi).1
    have pb : PSs (X.suite a ((a, oe4) :: (X.pn ++ pins))) [.Assign [.Name y py] (.Name n pn) pa] (tSeq (tAsg (tVar i) (gName j)) tNext) :=
      pss_cons (ps_set (X := X.suite a ((a, oe4) :: (X.pn ++ pins))) hN hj (.inl hly) (pe_var hi (.inl hln) hd hcd) hsw (.inr hly)) pss_nil
    refine wpAny_mono (pb.run [] s5 _ H' ⟨fun σ6 H6 => σ6 = (σ'.set i (some (.ref a))).set j (some (.ref a)) ∧ H6 = H', fun _ _ => False, fun _ _ => False, fun _ _ => False⟩ S5 ⟨.ref a, List.getElem?_set_self li, rfl, rfl⟩) (fun f s6 hsp => ?_) (fun _ _ z => False.elim z)
    cases f with
    | next =>
      obtain ⟨σ6, H6, S6, rfl, rfl⟩ := hsp
      obtain ⟨e6, n6, _⟩ := S6.pin (a, oe4) (List.mem_append.mpr (.inl List.mem_cons_self))
      have T6 := inv_track (S6.unsuite ok) n6 e6 hz4 hd4 nL n0 npn
      exact gone_ok T6 hN hi hln fun s7 J7 => ⟨_, _, J7, hyes a na⟩
    | brk => obtain ⟨_, _, _, q⟩ := hsp; exact q.elim
    | cont => obtain ⟨_, _, _, q⟩ := hsp; exact q.elim
    | ret u => obtain ⟨_, _, _, _, _, q⟩ := hsp; exact q.elim
  · cases f with
    | next =>
      obtain ⟨σ', H', J', q⟩ := hsp
      exact wpAny_execs_nil ⟨σ', H', J'.ofTry ok, q⟩
    | brk =>
      obtain ⟨σ', H', J', q⟩ := hsp
      exact ⟨σ', H', J'.ofTry ok, q⟩
    | cont =>
      obtain ⟨σ', H', J', q⟩ := hsp
      exact ⟨σ', H', J'.ofTry ok, q⟩
    | ret u =>
      obtain ⟨v, σ', H', J', r, q⟩ := hsp
      exact ⟨v, σ', H', J'.ofTry ok, r, q⟩
/-- (X, Y) -/
theorem tst_tup2 {x1 x2 : Str} {C1 C2 : Addr} {p1 p2 tp : Pos} {kk : Nat} (g1 : Gl X x1) (m1 : X.mg x1 = some (.ref C1)) (d1 : (x1 == ("__debug__" : Str)) = false) (g2 : Gl X x2) (m2 : X.mg x2 = some (.ref C2)) (d2 : (x2 == ("__debug__" : Str)) = false) :
    TstOk X (.Tuple [.Name x1 p1, .Name x2 p2] kk tp) fun cls => PySem.W.exmAny X.K cls [.ref C1, .ref C2] = some true := fun a cls pn σ H s Q E I LT he q => by
  refine wpAny_Tuple ?_
  refine wpAny_items_cons (ld_glob (X := X.suite a pn) I g1 m1 ?_ d1)
  refine wpAny_items_cons (ld_glob (X := X.suite a pn) I g2 m2 ?_ d2)
  refine wpAny_items_nil ⟨by size_fits, ?_⟩
  have kp : ∀ q o, s.heap.get? q = some o → (s.heap.push { cls := .type "tuple", data := .seq [Value.ref C1, .ref C2].toArray }).get? q = some o := fun _ _ z => Heap.get?_push_of_some _ z
  exact (PySem.W.exm_tup2 (I.kIn.keeps kp) (LT.keeps kp) (Heap.get?_push_size s.heap rfl) he).here (q _ kp)
end
end Vq
/-! Vc29: try with a tuple of classes; isinstance of a held exception with own classes and tuples; raising defs with keyword-only parameters. -/
namespace Vq
open PySem PySem.Spec PyProof.Rows L2 Hq
section
variable {X : Cx} {e a b c t : Expr} {es : List Expr} {A B rest r body : List Stmt} {us : List U} {h : Hq} {ρ ρ1 : List Ar} {Z M : Mem} {ds : List R} {pos p p2 pos' : Pos} {S : SE} {Ss Ts : List SE} {T1 : ST} {Se Sa Sb : SX1} {Ra Rb Rr : SR} {Rs Bs : SB} {k : Nat} {x : Str} {st : Stmt} {ps : List Str} {sp : Fr} {C : Addr} {okc : Value → Prop}
def sTryU (okl : List Addr) (i j : Nat) (Rb : SR) (Bs : SB) : SB := fun us h D => Rb us h fun c us' h' => ∃ C : Addr, C ∈ okl ∧ c = .ref C ∧ Bs (((us'.set i (.c h'.length)).set j (.c h'.length)).set i .no) (h' ++ [.ex c]) D
theorem vb_tryU {n y : Str} {py pn pa : Pos} (okl : List Addr) (i j : Nat) (hc : TstOk X t okc) (hok : ∀ C ∈ okl, okc (.ref C)) (hN : X.N.Nodup) (hb : ∀ (pn : List (Addr × Obj)) (xe : Value → Shared → Prop), VR (X.tr pn xe) body Rb) (hr : VB X rest Bs)
    (hs : X.stack = X.env :: X.outer := by rfl) (hf : X.env.frame = some X.env.locals := by rfl) (hex : X.ex = [] := by rfl) (hi : X.N[i]? = some n := by rfl) (hj : X.N[j]? = some y := by rfl) (hln : X.env.kindOf n = some .local := by rfl) (hly : X.env.scope.names.lookup y = some .local := by rfl)
    (hsw : swapsWith (.Name n pn) (some (.Name y py)) pa.line X.env = pure false := by first | exact sw_not rfl | rfl) (hd : (n == ("__debug__" : Str)) = false := by decide) (hcd : (n == ("__classdict__" : Str)) = false := by decide) :
    VB X (.Try body [.ExceptHandler (some t) (some n) [.Assign [.Name y py] (.Name n pn) pa] pos'] [] [] pos :: rest) (sTryU okl i j Rb Bs) := .mk fun us h D ρ Z M s ii =>
  bx_cons (sx_ps (ps_try_U (tb := fun W D σ H => ∀ (pn : List (Addr × Obj)) (xe : Value → Shared → Prop), Takes (X.tr pn xe) W → cB (X.tr pn xe) body DF σ H) hs hf hex hN hi hj hln hly hc hsw hd hcd
    fun W pn xe tk => ⟨fun pins s σ H D I q => cB_mono (q pn xe tk) (df_le D) pins s I⟩) fun σ F H st pn xe tk => (hb pn xe).out us h _ ρ Z M s ii σ F H st _ tk fun cl σ' F' M' ds' H' s' g ⟨us', h', ρ', e', ex, i', C, mC, ec, q⟩ => by
      subst e' ec
      refine ⟨rfl, hok C mC, fun a na => ?_⟩
      have m0 : Ms X.K (M' ++ []) F' H' := by rw [List.append_nil]; exact s'.ms
      obtain ⟨m1, g1⟩ := m0.newC (p := a) (o := exH (.ref C) a) (c := .raw (exH (.ref C) a)) na upd_same
      rw [List.append_nil] at g1
      have l : ρ'.length = h'.length := i'.gd.len
      have ea : ad (ρ' ++ [(a, [])]) h'.length = .v (.ref a) := ad_of (a := (a, [])) (by rw [List.getElem?_append_right (by omega), l]; simp)
      have ex1 := Ext.app ρ' [(a, [])]
      have ra : Rr X.K F' (.ref a) (.v (.ref a)) := rr_v.mpr rfl
      have gd := i'.gd.new (a := (a, [])) (o := .ex (.ref C)) trivial trivial
      have sc : StU (ρ' ++ [(a, [])]) (.c h'.length) := .c (by simp [l])
      have sl : Sl X.K F' (((σ'.set i (some (.ref a))).set j (some (.ref a))).set i none) (toRs (ρ' ++ [(a, [])]) (((us'.set i (.c h'.length)).set j (.c h'.length)).set i .no)) := by
        have z := wipe_sl ((s'.sl.set (i := i) ra).set (i := j) ra) [i]
        rw [toRs_set, toRs_set, toRs_set, toR_no, toR_c, ea, toRs_st i'.st ex1]
        exact z
      refine ⟨F', M' ++ (a, .raw (exH (.ref C) a)) :: [], _, sl, ?_, m1, g.trans g1⟩
      refine hr.run q (ex.trans ex1) ⟨?_, gd, ((((i'.st.up ex1).set sc).set sc).set .no)⟩
      rw [memOf_new i'.gd]
      refine (i'.pm.append_right _).trans ?_
      rw [List.append_assoc, List.append_assoc]
      exact List.Perm.append_left _ List.perm_append_comm)
def sTry2 (okl : List Addr) (i j : Nat) (Sb : SB) (Rb : SR) (Bs : SB) : SB := fun us h D => Sb us h { D with nx := fun us h => Bs us h D } ∨ sTryU okl i j Rb Bs us h D
theorem vb_try2 {n y : Str} {py pn pa : Pos} {Sn : SB} (okl : List Addr) (i j : Nat) (hc : TstOk X t okc) (hok : ∀ C ∈ okl, okc (.ref C)) (hN : X.N.Nodup) (hn : VB X.nox body Sn) (hb : ∀ (pn : List (Addr × Obj)) (xe : Value → Shared → Prop), VR (X.tr pn xe) body Rb) (hr : VB X rest Bs)
    (hs : X.stack = X.env :: X.outer := by rfl) (hf : X.env.frame = some X.env.locals := by rfl) (hex : X.ex = [] := by rfl) (hi : X.N[i]? = some n := by rfl) (hj : X.N[j]? = some y := by rfl) (hln : X.env.kindOf n = some .local := by rfl) (hly : X.env.scope.names.lookup y = some .local := by rfl)
    (hsw : swapsWith (.Name n pn) (some (.Name y py)) pa.line X.env = pure false := by first | exact sw_not rfl | rfl) (hd : (n == ("__debug__" : Str)) = false := by decide) (hcd : (n == ("__classdict__" : Str)) = false := by decide) :
    VB X (.Try body [.ExceptHandler (some t) (some n) [.Assign [.Name y py] (.Name n pn) pa] pos'] [] [] pos :: rest) (sTry2 okl i j Sn Rb Bs) := .mk fun us h D ρ Z M s ii =>
  bx_or s (fun s => bx_cons (sx_ps (ps_try_thru0 (pbC body)) fun σ F H st => by
    have q : BX X.nox body (toRs ρ us) M ((toPo ρ Z D).then X rest) := (hn.out us h _ ρ Z M s ii).mono (fun ds M' ⟨us', h', ρ', e', ex, i', z⟩ => by subst e'; exact hr.run z ex i') (fun _ _ z => z) (fun _ _ z => z) (fun _ _ z => z)
    exact q σ F H st)) fun s => (vb_tryU okl i j hc hok hN hb hr hs hf hex hi hj hln hly hsw hd hcd).out us h D ρ Z M s ii
/-! ### isinstance with own classes, with tuples -/
theorem ex_held {Q : U → Hq → Prop} (l : List (Addr × Bool)) (ha : VE X e S) (s : sIsE l S us h Q) (i : In ρ h Z M us) : EX X e (toRs ρ us) M fun r M1 => ∃ D b p, r = .v (.ref p) ∧ (p, Cell.raw (exH (.ref D) p)) ∈ M1 ∧ (D, b) ∈ l ∧ VPost ρ Z Q (T b) M1 := ha.run s i fun u h1 ρ1 M1 k e1 i1 s1 q1 => by
  split at k
  · rename_i n
    split at k
    · rename_i D eo
      obtain ⟨b, hb, k⟩ := k
      obtain ⟨a, ea, _, _⟩ := i1.gd.at eo
      exact ⟨D, b, a.1, by rw [toR_c, ad_of ea], cell_mem i1 ea eo (by simp [mem1]), hb, (in_d i1 k).up e1⟩
    · exact k.elim
  · exact k.elim
theorem ve_isEo {c : Str} (l : List (Addr × Bool)) (hl : ∀ D b, (D, b) ∈ l → ExcC X.K D ∧ PySem.W.kitOne X.K (.ref D) (.ref C) = some b) (hm : X.mg "isinstance" = none) (hm2 : X.mg c = some (.ref C)) (ha : VE X e S) (gl : Gl X "isinstance" := by rfl) (gl2 : Gl X c := by rfl)
    (he : starEach [e, .Name c p2] X.env = (false, eval e X.env) :: starEach [.Name c p2] X.env := by exact st_any rfl) (he2 : starEach [.Name c p2] X.env = (false, eval (.Name c p2) X.env) :: starEach [] X.env := by exact st_any rfl) (hpl : (backTo pos (starEach [.Name c p2] X.env)).any (·.1) = false := by rfl) (hd : (c == ("__debug__" : Str)) = false := by decide) : VE X (.Call (.Name "isinstance" p) [e, .Name c p2] [] pos) (sIsE l S) := .mk fun us h Q ρ Z M s i =>
  ex_pe (pe_callB call_isX gl hm (by decide +kernel) (pa_cons (peC e) (pa_cons (pe_glob gl2 hm2 (v := .ref C) rfl hd) pa_nil he2) he) (he := he) (hpl := hpl)) fun σ F H st => by
    refine cE_mono (ex_held l ha s i σ F H st) fun v H1 ⟨F1, M1, r, w, ⟨D, b, p, er, hm, hb, q⟩, m, g⟩ => ?_
    subst er
    have hH : H1 p = some (exH (.ref D) p) := (m.mem p _ hm).2
    exact ⟨p, D, .ref C, .ref C, b, by rw [rr_v.mp w], hH, (hl D b hb).1, .own C, (hl D b hb).2, F1, M1, _, rrB, q, m, g⟩
def rIsXT (K : PySem.W.Frag) : List V → Hp → VK → Prop := fun xs H Q => ∃ (a D tp : Addr) (cs : List V) (us : List Value) (b : Bool), xs = [.ref a, .ref tp] ∧ H a = some (exH (.ref D) a) ∧ H tp = some (.tup cs) ∧ Paired ClsV cs us ∧ ExcC K D ∧ PySem.W.kitAny K (.ref D) us = some b ∧ Q (.bl b) H
theorem call_isXT : CallR X (.builtin "isinstance") (rIsXT X.K) := by
  intro pins s σ H xs us Q I r h
  obtain ⟨a, D, tp, cs, ws, b, rfl, ha, hT, k, C, e, q⟩ := h
  obtain ⟨u1, u2, rfl, r1, r2⟩ := vals2 r
  cases (show u1 = Value.ref a from r1)
  cases (show u2 = Value.ref tp from r2)
  obtain ⟨⟨oe, vs, hget, hz, hv⟩, _, _⟩ := (show ObjOk X.prog X.w H s.heap a (exH (.ref D) a) from I.hok a _ ha)
  have J : PySem.W.InstAt s.heap a oe D none := by
    obtain ⟨oc, od, oda, osl⟩ := oe
    obtain ⟨h1, h2⟩ := hz
    dsimp only at h1 h2 hv
    subst h1 h2 hv
    exact ⟨hget, rfl, rfl, trivial⟩
  obtain ⟨_, its, rv, o, h1, h2, n, h3⟩ := (show ObjOk X.prog X.w H s.heap tp (.tup cs) from I.hok tp _ hT)
  have e3 := ClsV.all k rv
  subst e3
  obtain ⟨oc, od, dt, sl⟩ := o
  simp only at h2 h3
  subst h2 h3
  exact PySem.W.kia_tup (PySem.W.handS_kitx_exc C.hg C.hk C.hs C.hd C.ha C.hn C.ht C.hm) I.kIn J h1 e (fun z => nomatch z) fun tk => ⟨.bl b, H, I.kept (t' := tk) fun _ _ z => z, rfl, q⟩
theorem ve_isET {kk : Nat} {pt : Pos} {ta : TA} (cs : List V) (ws : List Value) (l : List (Addr × Bool)) (hl : ∀ D b, (D, b) ∈ l → ExcC X.K D ∧ PySem.W.kitAny X.K (.ref D) ws = some b) (hcs : Paired ClsV cs ws) (hn : cs.length < 64) (hm : X.mg "isinstance" = none) (hp : PA X es ta) (hta : ∀ σ H Q, Q cs H → ta σ H Q) (ha : VE X e S) (gl : Gl X "isinstance" := by rfl)
    (he : starEach [e, .Tuple es kk pt] X.env = (false, eval e X.env) :: starEach [.Tuple es kk pt] X.env := by exact st_any rfl) (he2 : starEach [.Tuple es kk pt] X.env = (false, eval (.Tuple es kk pt) X.env) :: starEach [] X.env := by exact st_any rfl) (hpl : (backTo pos (starEach [.Tuple es kk pt] X.env)).any (·.1) = false := by rfl) : VE X (.Call (.Name "isinstance" p) [e, .Tuple es kk pt] [] pos) (sIsE l S) := .mk fun us h Q ρ Z M s i =>
  ex_pe (pe_callB call_isXT gl hm (by decide +kernel) (pa_cons (peC e) (pa_cons (pe_tup hp) pa_nil he2) he) (he := he) (hpl := hpl)) fun σ F H st => by
    refine cE_mono (ex_held l ha s i σ F H st) fun v H1 ⟨F1, M1, r, w, ⟨D, b, p, er, hm, hb, q⟩, m, g⟩ => ?_
    subst er
    have hH : H1 p = some (exH (.ref D) p) := (m.mem p _ hm).2
    refine hta _ _ _ ⟨small64 hn, fun tp np => ?_⟩
    have k := m.newF (o := .tup cs) np
    have ne : p ≠ tp := fun z => by rw [z, np] at hH; cases hH
    exact ⟨p, D, tp, cs, ws, b, by rw [rr_v.mp w], by rw [upd_ne ne]; exact hH, upd_same, hcs, (hl D b hb).1, (hl D b hb).2, Out.trans g (Out.mk k rrB q)⟩
/-! ### raising defs with keyword-only parameters -/
structure FxRN (P : Program) (w : World) (K : PySem.W.Frag) (mg : Str → Option Value) (base : Heap) (k : Nat) (x : Str) (st : Stmt) (ps ms : List Str) (sp : Fr) : Prop where
  ex : ∃ f fd, mg x = some (.ref f) ∧ FunD K x x (defArgs st) (defBody st) (defScope st) [] (kwN ms) f fd ∧ FnG P w K mg base (L2.CX P w) k f fd ps (spR K sp)
theorem FxRN.mono {P : Program} {w : World} {K : PySem.W.Frag} {mg : Str → Option Value} {base : Heap} {j k : Nat} {x : Str} {st : Stmt} {ps ms : List Str} {sp : Fr} (h : FxRN P w K mg base j x st ps ms sp) (l : j ≤ k) : FxRN P w K mg base k x st ps ms sp := by
  obtain ⟨f, fd, a, b, d⟩ := h.ex
  exact ⟨f, fd, a, b, d.mono l⟩
theorem fxrn_vc {P : Program} {w : World} {K : PySem.W.Frag} {mg : Str → Option Value} {base : Heap} {k : Nat} {x : Str} {st : Stmt} {N ps ms : List Str} {sp : Fr} {sem : SR} (a : AtN K mg x st ms) (S : FnScope N ps (defScope st)) (hlen : ∀ us E, sp us E → us.length = ps.length)
    (vr : ∀ (f : Addr) (cd : Value) (A : Around) (fr : List Env) (s : Shared) (G : Hp) (Z : XK), (rX P w K mg base N x st f cd A fr s G Z).A.guards = some [] → Room k (rX P w K mg base N x st f cd A fr s G Z).A → VR (rX P w K mg base N x st f cd A fr s G Z) (defBody st) sem)
    (vc : ∀ us E, sp us E → sem (us ++ List.replicate (N.length - ps.length) .no) [] fun c _ _ => E c) : FxRN P w K mg base (k + 1) x st ps ms sp := by
  obtain ⟨f, fd, hm, D⟩ := a.ex
  exact ⟨f, fd, hm, D, fnR_of (funD_fun D) S hlen (fun cd A fr s G Z => vr f cd A fr s G Z) vc⟩
variable {ms : List Str} {kws : List Keyword}
/-- f(e, .., k = v, ..) -/
def xCallNK (sp : Fr) (Ss Ts : List SE) : SX1 := fun us h E => sArgs Ss us h fun vs h1 => sArgs Ts us h1 fun ws h2 => dArgs (vs ++ ws) fun vs' => sp vs' fun c => E c h2
theorem vx_callNK (n : Nat) (G : FxRN X.prog X.w X.K X.mg X.base k x st ps ms sp) (hg : X.A.guards = some []) (hr : Room k X.A) (hlen : ∀ us E, sp us E → us.length = ps.length) (ha : VAs X (e :: es) Ss) (hT : VKs X kws Ts)
    (hb : ∀ (kV doc pm : Value) (an : Option Addr) (cdv ct : Value) (us ks : List Value), us.length = n → ks.length = ms.length → bindArgs (PySem.W.fnOf x x (defArgs st) (defBody st) (defScope st) .none kV doc pm an cdv ct) ⟨us, ms.zip ks⟩ = pure (ps.zip (us ++ ks)))
    (hn : (e :: es).length = n := by rfl) (hk : kws.length = ms.length := by rfl) (gl : Gl X x := by rfl) (hall : (backToKw pos (keywordEach kws X.env)).all (·.1.isSome) = true := by rfl) (hks : (backToKw pos (keywordEach kws X.env)).filterMap (·.1) = ms := by rfl) (hdb : (x == ("__debug__" : Str)) = false := by decide) (he : starEach (e :: es) X.env = (false, eval e X.env) :: starEach es X.env := by exact st_any rfl)
    (hpl : ((backTo pos (starEach (e :: es) X.env)).any (·.1) || (backToKw pos (keywordEach kws X.env)).any (·.1.isNone)) = false := by rfl) : VX X (.Call (.Name x p) (e :: es) kws pos) (xCallNK sp Ss Ts) := .mk fun us h E ρ Z M s i => fun σ F H st W t kk pins sh I => by
  obtain ⟨f, fd, hm, D, G⟩ := G.ex
  have D' := funD_fun D
  have q : AX X (e :: es) (toRs ρ us) M fun rs M1 => rs.length = n ∧ KX X kws (toRs ρ us) M1 fun qs M2 => qs.length = ms.length ∧ ∃ vs ws h2 ρ2 vs', rs ++ qs = toRs ρ2 (vs ++ ws) ∧ Ext ρ ρ2 ∧ In ρ2 h2 Z M2 us ∧ rens (fun _ => none) (vs ++ ws) = some vs' ∧ Sts ρ2 (vs ++ ws) ∧ sp vs' fun c => E c h2 := ha.run s i fun vs h1 ρ1 M1 q l e1 i1 s1 q1 => by
    refine ⟨by rw [toRs_len, l, hn], ?_⟩
    rw [q1]
    refine kx_mono (hT.out us h1 _ ρ1 Z M1 q i1) fun qs M2 ⟨ws, h2, ρ2, er, l2, pm, ex, gd, st, q⟩ => ?_
    subst er
    refine ⟨by rw [toRs_len, l2, hk], ?_⟩
    unfold dArgs at q
    split at q
    · rename_i vs' ev
      refine ⟨vs, ws, h2, ρ2, vs', ?_, e1.trans ex, ⟨pm, gd, i1.st.up ex⟩, ev, fun u hu => (List.mem_append.mp hu).elim (s1.up ex u) (st u), q⟩
      rw [toRs_app, toRs_st s1 ex]
    · exact q.elim
  refine wpAny_Call_Name_kw (ld_glob I gl hm ?_ hdb)
  refine PySem.W.callWith_KW (h₀ := X.base) I.ok.mod.kin D.kp hall (thn (q σ F H st pos pins sh I) fun us1 s1 ⟨vs1, H1, I1, r, F1, M1, rs, a, ⟨hl1, q⟩, m, g⟩ => ?_) hpl he
  refine thn (q σ F1 H1 (st.go g m) pos pins s1 I1) fun ws1 s2 ⟨zs, H2, I2, rz, F2, M2, qs, a2, ⟨hq, vs, ws, h2, ρ2, vs', er, ex, i2, ev, sv, w⟩, m2, g2⟩ => ⟨I2.kIn, ?_⟩
  rw [hks]
  have mv : Moves (fun _ => none) ρ2 [] := fun n m e => nomatch e
  obtain ⟨q1, q2⟩ := rens_ok mv (vs ++ ws) vs' ev sv
  have aa := rrs_app (a.up g2.ex) a2
  rw [er, ← q1] at aa
  have hl := hlen _ _ w
  obtain ⟨oc, od, kV, doc, pm, an, cd, ct, osl, rfl, lk, hcd⟩ := D'.ex
  refine call_thn (runR G hg hr (.of_eq (hb kV doc pm an cd ct us1 ws1 (by rw [← r.length, a.length]; exact hl1) (by rw [← rz.length, a2.length]; exact hq))) t (Z := fun c d H' => d = none ∧ W c none σ H') (fun c d H' ⟨ed, z⟩ => by rw [ed]; exact z) I2 (r.append rz) ⟨vs', M2, F2, fun c => E c h2, aa, m2, q2, w, fun c F' H' z m' g' => ⟨rfl, kk c F' M2 H' m' ((g.trans g2).trans g') ⟨h2, ρ2, ex, i2, z⟩⟩⟩)
end
end Vq
/-! Vc30: what classes say of each other. -/
namespace Vq
open PySem PySem.Spec PyProof.Rows L2 Hq
/-- any class of the text, as a question -/
structure ClsG (K : PySem.W.Frag) (mg : Str → Option Value) (x : Str) (C : Addr) : Prop where
  glo : mg x = some (.ref C)
  hd : PySem.W.hasDictIn K C = true
  ty : PySem.W.typeIn K (.ref C) = some (.type "type")
section
variable {K : PySem.W.Frag} {mg : Str → Option Value} {x y : Str} {C D : Addr} {b : Bool}
theorem ExcT.g (t : ExcT K mg x C) : ClsG K mg x C := ⟨t.glo, t.ex.hd, t.ty⟩
theorem clsIn_some (h : PySem.W.hasDictIn K C = true) : (PySem.W.clsIn K C).isSome = true := by
  unfold PySem.W.hasDictIn at h
  cases e : PySem.W.clsIn K C with
  | none => rw [e] at h; cases h
  | some cd => rfl
theorem kit_cls (g : ClsG K mg x C) (h : PySem.W.subIn K (.ref D) (.ref C) = some b) (hs : PySem.W.subIn K (.ref D) (.ref D) = some true) : PySem.W.kitOne K (.ref D) (.ref C) = some b := by
  unfold PySem.W.kitOne
  by_cases e : (Value.ref D == Value.ref C) = true
  · rw [if_pos e]
    have e2 : D = C := by
      have := beq_iff_eq.mp e
      cases this; rfl
    subst e2
    rw [hs] at h
    exact h
  · rw [if_neg e]
    show (if ((PySem.W.clsIn K C).isSome && PySem.W.typeIn K (.ref C) == some (.type "type")) = true then PySem.W.subIn K (.ref D) (.ref C) else none) = some b
    rw [if_pos (by rw [clsIn_some g.hd, g.ty]; rfl)]
    exact h
theorem kitAny_no {t : Value} : ∀ {ws : List Value}, (∀ c ∈ ws, PySem.W.kitOne K t c = some false) → PySem.W.kitAny K t ws = some false
  | [], _ => rfl
  | c :: ws, h => kitAny_cons (b := false) (h c List.mem_cons_self) (fun _ => kitAny_no fun c hc => h c (List.mem_cons_of_mem _ hc)) nofun
theorem exm_cls (t : ExcT K mg x C) (h : PySem.W.subIn K (.ref D) (.ref C) = some b) : PySem.W.exmOne K (.ref D) (.ref C) = some b := PySem.W.exm_ref t.sub t.ex.hd t.ty h
theorem exm2_l (t : ExcT K mg x C) (u : ExcT K mg y D) (h : PySem.W.subIn K (.ref C) (.ref D) = some false) : PySem.W.exmAny K (.ref C) [.ref C, .ref D] = some true := by
  unfold PySem.W.exmAny
  rw [exm_cls t t.self]
  unfold PySem.W.exmAny
  rw [exm_cls u h]
  unfold PySem.W.exmAny
  rfl
theorem exm2_r (t : ExcT K mg x C) (u : ExcT K mg y D) (h : PySem.W.subIn K (.ref D) (.ref C) = some false) : PySem.W.exmAny K (.ref D) [.ref C, .ref D] = some true := by
  unfold PySem.W.exmAny
  rw [exm_cls t h]
  unfold PySem.W.exmAny
  rw [exm_cls u u.self]
  unfold PySem.W.exmAny
  rfl
end
end Vq
namespace K03
open PySem PySem.Spec PyProof.Rows L2 Hq Vq
/-! ### the bag of draws -/
def topS (i : Nat) : Stmt := PySem.Challenge.pw_halfknown_k03_moments_and_rows_refused.main.body.getD i (.Pass ⟨0, 0, 0, 0⟩)
abbrev s_NoText___init__ : Stmt := inClass (topS 10) 0
abbrev n_NoText___init__ : List Str := ["self", "row"]
abbrev p_NoText___init__ : List Str := ["self", "row"]
theorem sc_NoText___init__ : FnScope n_NoText___init__ p_NoText___init__ (defScope s_NoText___init__) := ⟨rfl, rfl, rfl, by decide +kernel, rfl, by decide +kernel, by decide +kernel⟩
abbrev s_Clash___init__ : Stmt := inClass (topS 11) 0
abbrev n_Clash___init__ : List Str := ["self", "paper"]
abbrev p_Clash___init__ : List Str := ["self", "paper"]
theorem sc_Clash___init__ : FnScope n_Clash___init__ p_Clash___init__ (defScope s_Clash___init__) := ⟨rfl, rfl, rfl, by decide +kernel, rfl, by decide +kernel, by decide +kernel⟩
abbrev s_Bared___init__ : Stmt := inClass (topS 12) 0
abbrev n_Bared___init__ : List Str := ["self", "person", "measure"]
abbrev p_Bared___init__ : List Str := ["self", "person", "measure"]
theorem sc_Bared___init__ : FnScope n_Bared___init__ p_Bared___init__ (defScope s_Bared___init__) := ⟨rfl, rfl, rfl, by decide +kernel, rfl, by decide +kernel, by decide +kernel⟩
abbrev s_unsaid : Stmt := topS 14
abbrev n_unsaid : List Str := ["history", "deed"]
abbrev p_unsaid : List Str := ["history"]
theorem sc_unsaid : FnScope n_unsaid p_unsaid (defScope s_unsaid) := ⟨rfl, rfl, rfl, by decide +kernel, rfl, by decide +kernel, by decide +kernel⟩
abbrev s_Forms___init__ : Stmt := inClass (topS 15) 0
abbrev n_Forms___init__ : List Str := ["self", "size"]
abbrev p_Forms___init__ : List Str := ["self", "size"]
theorem sc_Forms___init__ : FnScope n_Forms___init__ p_Forms___init__ (defScope s_Forms___init__) := ⟨rfl, rfl, rfl, by decide +kernel, rfl, by decide +kernel, by decide +kernel⟩
abbrev s_Forms_take : Stmt := inClass (topS 15) 1
abbrev n_Forms_take : List Str := ["self", "deed", "word", "rest"]
abbrev p_Forms_take : List Str := ["self", "deed"]
theorem sc_Forms_take : FnScope n_Forms_take p_Forms_take (defScope s_Forms_take) := ⟨rfl, rfl, rfl, by decide +kernel, rfl, by decide +kernel, by decide +kernel⟩
abbrev s_Forms_sum_of : Stmt := inClass (topS 15) 2
abbrev n_Forms_sum_of : List Str := ["self", "wish", "found", "weight", "row", "one", "other", "gift"]
abbrev p_Forms_sum_of : List Str := ["self", "wish"]
theorem sc_Forms_sum_of : FnScope n_Forms_sum_of p_Forms_sum_of (defScope s_Forms_sum_of) := ⟨rfl, rfl, rfl, by decide +kernel, rfl, by decide +kernel, by decide +kernel⟩
abbrev s_weights : Stmt := topS 16
abbrev n_weights : List Str := ["history", "wish", "moment", "many", "forms", "deed"]
abbrev p_weights : List Str := ["history", "wish", "moment"]
theorem sc_weights : FnScope n_weights p_weights (defScope s_weights) := ⟨rfl, rfl, rfl, by decide +kernel, rfl, by decide +kernel, by decide +kernel⟩
abbrev s__law_bag : Stmt := topS 18
abbrev n__law_bag : List Str := ["_law_script", "_law_seed", "_law_cell"]
abbrev p__law_bag : List Str := ["_law_script"]
theorem sc__law_bag : FnScope n__law_bag p__law_bag (defScope s__law_bag) := ⟨rfl, rfl, rfl, by decide +kernel, rfl, by decide +kernel, by decide +kernel⟩
abbrev s__law_draw : Stmt := topS 19
abbrev n__law_draw : List Str := ["_law_bag_here", "_law_many", "_law_left"]
abbrev p__law_draw : List Str := ["_law_bag_here", "_law_many"]
theorem sc__law_draw : FnScope n__law_draw p__law_draw (defScope s__law_draw) := ⟨rfl, rfl, rfl, by decide +kernel, rfl, by decide +kernel, by decide +kernel⟩
abbrev s__law_number : Stmt := topS 20
abbrev n__law_number : List Str := ["_law_bag_here", "_law_great"]
abbrev p__law_number : List Str := ["_law_bag_here", "_law_great"]
theorem sc__law_number : FnScope n__law_number p__law_number (defScope s__law_number) := ⟨rfl, rfl, rfl, by decide +kernel, rfl, by decide +kernel, by decide +kernel⟩
abbrev s__law_row : Stmt := topS 21
abbrev n__law_row : List Str := ["_law_bag_here", "_law_count", "_law_low", "_law_high", "_law_k"]
abbrev p__law_row : List Str := ["_law_bag_here", "_law_count"]
theorem sc__law_row : FnScope n__law_row p__law_row (defScope s__law_row) := ⟨rfl, rfl, rfl, by decide +kernel, rfl, by decide +kernel, by decide +kernel⟩
abbrev s__law_past : Stmt := topS 22
abbrev n__law_past : List Str := ["_law_bag_here", "_law_most", "_law_size", "_law_turn", "_law_past_here", "_law_guess", "_law_now", "_law_told_now", "_law_pick", "_law_there", "_law_person", "_law_one", "_law_other", "_law_by", "_law_row_here", "_law_k"]
abbrev p__law_past : List Str := ["_law_bag_here", "_law_most"]
theorem sc__law_past : FnScope n__law_past p__law_past (defScope s__law_past) := ⟨rfl, rfl, rfl, by decide +kernel, rfl, by decide +kernel, by decide +kernel⟩
abbrev s__law_odd : Stmt := topS 23
abbrev n__law_odd : List Str := ["_law_e"]
abbrev p__law_odd : List Str := ["_law_e"]
theorem sc__law_odd : FnScope n__law_odd p__law_odd (defScope s__law_odd) := ⟨rfl, rfl, rfl, by decide +kernel, rfl, by decide +kernel, by decide +kernel⟩
abbrev s__law_word : Stmt := topS 24
abbrev n__law_word : List Str := ["_law_past_here", "_law_row_here", "_law_many", "_law_caught", "_law_e"]
abbrev p__law_word : List Str := ["_law_past_here", "_law_row_here", "_law_many"]
theorem sc__law_word : FnScope n__law_word p__law_word (defScope s__law_word) := ⟨rfl, rfl, rfl, by decide +kernel, rfl, by decide +kernel, by decide +kernel⟩
abbrev s__law_due : Stmt := topS 25
abbrev n__law_due : List Str := ["_law_past_here", "_law_row_here", "_law_many", "_law_count", "_law_deed"]
abbrev p__law_due : List Str := ["_law_past_here", "_law_row_here", "_law_many"]
theorem sc__law_due : FnScope n__law_due p__law_due (defScope s__law_due) := ⟨rfl, rfl, rfl, by decide +kernel, rfl, by decide +kernel, by decide +kernel⟩
abbrev s_law : Stmt := topS 26
abbrev n_law : List Str := ["_law_script", "_law_bag_here", "_law_turn", "_law_some", "_law_past_here", "_law_again", "_law_there", "_law_far", "_law_many", "_law_count", "_law_now", "_law_row_here", "_law_kept", "_law_due_here", "_law_deed"]
abbrev p_law : List Str := ["_law_script"]
theorem sc_law : FnScope n_law p_law (defScope s_law) := ⟨rfl, rfl, rfl, by decide +kernel, rfl, by decide +kernel, by decide +kernel⟩
structure Bag where
  ds : List Int
  i : Nat
  seed : Int
  cnt : Int
structure Bag.Ok (g : Bag) (c : Nat) : Prop where
  d : ∀ x ∈ g.ds, 0 ≤ x ∧ x.natAbs < 2 ^ 2000
  l : g.ds.length ≤ 60
  i : g.i ≤ g.ds.length
  s : 0 ≤ g.seed ∧ g.seed < 2305843009213693951
  k : 0 ≤ g.cnt ∧ g.cnt ≤ c
  m : c ≤ 100000000
theorem Bag.Ok.up {g : Bag} {c m : Nat} (h : g.Ok c) (l : c ≤ m) (hm : m ≤ 100000000) : g.Ok m := ⟨h.d, h.l, h.i, h.s, ⟨h.k.1, by have := h.k.2; omega⟩, hm⟩
def Fits (n : Int) : Prop := n.natAbs < 2 ^ 8999
abbrev outH (g : Bag) : Ob := .ls [.c 1, .d (.int (g.i : Int)), .d (.int g.seed), .d (.int g.cnt)]
abbrev inH (g : Bag) : Ob := .ld (g.ds.map PyData.int)
abbrev bagH (g : Bag) : Hq := [outH g, inH g]
def sp__law_bag : Fs := fun us h Q => ∃ ns : List Int, us = [.s ns] ∧ h = [] ∧ ∀ g : Bag, g.Ok 0 → Q (.c 0) (bagH g)
def sp__law_draw : Fs := fun us h Q => ∃ (g : Bag) (c : Nat) (n : Int), us = [.c 0, .d (.int n)] ∧ h = bagH g ∧ g.Ok c ∧ c < 100000000 ∧ 0 < n ∧ Fits n ∧ ∀ (v : Int) (g' : Bag), 0 ≤ v → v < n → g'.Ok (c + 1) → Q (.d (.int v)) (bagH g')
theorem len__law_bag : ∀ us h Q, sp__law_bag us h Q → us.length = p__law_bag.length := fun _ _ _ ⟨_, e, _⟩ => by rw [e]; rfl
theorem len__law_draw : ∀ us h Q, sp__law_draw us h Q → us.length = p__law_draw.length := fun _ _ _ ⟨_, _, _, e, _⟩ => by rw [e]; rfl
theorem cm_small {i j : Int} {m n : Nat} (h1 : i.natAbs < 2 ^ (m + 1)) (h2 : j.natAbs < 2 ^ (n + 1)) (h : m + n ≤ 900000) : CMulA i j := .inl (wide_mul h1 h2 (Nat.succ_pos _) (Nat.succ_pos _) (by omega))
theorem noPy {n : Int} (h0 : 0 < n) (h : Fits n) : n.natAbs.log2 < 9000 := by
  have := (Nat.log2_lt (show n.natAbs ≠ 0 by omega)).mpr h
  omega
theorem atI_getD {α : Type} {xs : List α} {i : Nat} {d : α} (h : i < xs.length) : atI xs (i : Int) = some (xs.getD i d) := by
  refine atI_nat ?_
  rw [List.getD_eq_getElem?_getD]
  simp [h]
theorem atI_mapD {α β : Type} {f : α → β} {xs : List α} {i : Nat} {d : α} (h : i < xs.length) : atI (xs.map f) (i : Int) = some (f (xs.getD i d)) := by
  rw [atI_map, atI_getD h]; rfl
theorem getD_mem {α : Type} {xs : List α} {i : Nat} {d : α} (h : i < xs.length) : xs.getD i d ∈ xs := by
  rw [List.getD_eq_getElem?_getD]; simp [h]
theorem ixN_nat {n i : Nat} (h : i < n) : ixN n (i : Int) = some i := by
  unfold ixN
  rw [if_pos (by omega), if_pos (by omega), Int.toNat_natCast]
def sem__law_draw : SB :=
 (sWhile (tAnd (tCmp (cInt fun i j => decide (i < j)) (sBin oIx (sVar 0) (sK (.int 1))) (sLen (sBin oIx (sVar 0) (sK (.int 0))))) (tCmp cEq (sBin oIx (sBin oIx (sVar 0) (sK (.int 0))) (sBin oIx (sVar 0) (sK (.int 1)))) (sK (.int 0))))
  (sSto (sBin oAdd (sBin oIx (sVar 0) (sK (.int 1))) (sK (.int 1))) (sVar 0) (sK (.int 1))
  sNil)
  (sIfS (tCmp (cInt fun i j => decide (i < j)) (sBin oIx (sVar 0) (sK (.int 1))) (sLen (sBin oIx (sVar 0) (sK (.int 0)))))
  (sSet 2 (sBin oIx (sBin oIx (sVar 0) (sK (.int 0))) (sBin oIx (sVar 0) (sK (.int 1))))
  (sSto (sBin (oInt CDivW fun i j => i / j) (sVar 2) (sVar 1)) (sBin oIx (sVar 0) (sK (.int 0))) (sBin oIx (sVar 0) (sK (.int 1)))
  (sRet (sBin (oInt (fun _ j => 0 < j) fun i j => i % j) (sVar 2) (sVar 1)))))
  sNil
  (sSto (sBin oAdd (sBin oIx (sVar 0) (sK (.int 3))) (sK (.int 1))) (sVar 0) (sK (.int 3))
  (sSto (sBin (oInt (fun _ j => 0 < j) fun i j => i % j) (sBin oAdd (sBin oAdd (sBin oAdd (sBin (oInt CPowW fun i j => i ^ j.toNat) (sBin oIx (sVar 0) (sK (.int 2))) (sK (.int 3))) (sBin oMul (sK (.int 48271)) (sBin oIx (sVar 0) (sK (.int 2))))) (sBin oMul (sK (.int 2039)) (sBin oIx (sVar 0) (sK (.int 3))))) (sK (.int 7))) (sBin (oInt0 fun i j => i - j) (sBin (oInt CPowW fun i j => i ^ j.toNat) (sK (.int 2)) (sK (.int 61))) (sK (.int 1)))) (sVar 0) (sK (.int 2))
  (sRet (sBin (oInt (fun _ j => 0 < j) fun i j => i % j) (sBin (oInt CDivW fun i j => i / j) (sBin oIx (sVar 0) (sK (.int 2))) (sK (.int 1024))) (sVar 1)))))))
theorem pow_small {i : Int} {m : Nat} {j : Nat} (h : i.natAbs < 2 ^ m) (hj : m * j ≤ 2 ^ 27) : CPowW i (j : Int) := by
  refine ⟨Int.natCast_nonneg j, ?_⟩
  have hb : Builtin.Int.intBits i ≤ m := by
    unfold Builtin.Int.intBits
    split
    · exact Nat.zero_le _
    · rename_i hz
      have hz : i ≠ 0 := by simpa using hz
      have := (Nat.log2_lt (show i.natAbs ≠ 0 by omega)).mpr h
      omega
  have := Nat.mul_le_mul_right j hb
  rw [← Int.natCast_mul]
  exact_mod_cast Nat.le_trans this hj
theorem vc__law_draw : ∀ us h Q, sp__law_draw us h Q → sem__law_draw (us ++ List.replicate (n__law_draw.length - p__law_draw.length) .no) h (endq h.length Q) := fun us h Q ⟨g, c, n, e1, e2, ok, hc, n0, nf, q⟩ => by
  subst e1 e2
  refine while_t (fun _ : Nat => [.c 0, .d (.int n), .no]) (fun i => bagH { g with i := i }) (fun i => g.i ≤ i ∧ i ≤ g.ds.length) (fun i => g.ds.length - i) g.i (Wku.refl _) rfl ⟨Nat.le_refl _, ok.i⟩ fun i ⟨h1, h2⟩ N hN => ?_
  have c0 := ok.k.1
  have c1 := ok.k.2
  have s0 := ok.s.1
  have s1 := ok.s.2
  -- no number left
  have last : ¬ i < g.ds.length → ∀ {K : Pq}, K.rt = gc 2 Q → (sSto (sBin oAdd (sBin oIx (sVar 0) (sK (.int 3))) (sK (.int 1))) (sVar 0) (sK (.int 3))
  (sSto (sBin (oInt (fun _ j => 0 < j) fun i j => i % j) (sBin oAdd (sBin oAdd (sBin oAdd (sBin (oInt CPowW fun i j => i ^ j.toNat) (sBin oIx (sVar 0) (sK (.int 2))) (sK (.int 3))) (sBin oMul (sK (.int 48271)) (sBin oIx (sVar 0) (sK (.int 2))))) (sBin oMul (sK (.int 2039)) (sBin oIx (sVar 0) (sK (.int 3))))) (sK (.int 7))) (sBin (oInt0 fun i j => i - j) (sBin (oInt CPowW fun i j => i ^ j.toNat) (sK (.int 2)) (sK (.int 61))) (sK (.int 1)))) (sVar 0) (sK (.int 2))
  (sRet (sBin (oInt (fun _ j => 0 < j) fun i j => i % j) (sBin (oInt CDivW fun i j => i / j) (sBin oIx (sVar 0) (sK (.int 2))) (sK (.int 1024))) (sVar 1))))) [.c 0, .d (.int n), .no] (bagH { g with i := i }) K := fun hge K hK => by
    refine ⟨_, rfl, 3, rfl, ⟨_, rfl, pow_small (m := 61) (j := 3) (by show g.seed.natAbs < _; omega) (by decide), ⟨_, rfl, cm_small (m := 63) (n := 63) (by decide) (by show g.seed.natAbs < _; omega) (by decide), ⟨_, rfl, cm_small (m := 63) (n := 63) (by decide) (by show (g.cnt + 1).natAbs < _; omega) (by decide), ?_⟩⟩⟩⟩
    refine ⟨pow_small (m := 2) (j := 61) (by decide) (by decide), (show (0 : Int) < 2 ^ (61 : Int).toNat - 1 by decide), 2, rfl, ⟨_, rfl, ⟨by decide, by decide +kernel⟩, n0, ?_⟩⟩
    rw [hK]
    refine gc_keep ?_
    exact q _ ⟨g.ds, i, (g.seed ^ (3 : Int).toNat + 48271 * g.seed + 2039 * (g.cnt + 1) + 7) % (2 ^ (61 : Int).toNat - 1), g.cnt + 1⟩ (Int.emod_nonneg _ (by omega)) (Int.emod_lt_of_pos _ n0) ⟨ok.d, ok.l, h2, ⟨Int.emod_nonneg _ (by decide), Int.emod_lt_of_pos _ (by decide)⟩, ⟨by show 0 ≤ g.cnt + 1; omega, by show g.cnt + 1 ≤ _; omega⟩, hc⟩
  refine ⟨_, rfl, _, rfl, fun hlt => ?_, fun hge => ?_⟩
  · have hi : i < g.ds.length := by simpa using hlt
    refine ⟨_, rfl, _, rfl, .int (g.ds.getD i 0), atI_mapD hi, fun hz => ?_, fun hz => ?_⟩
    · exact ⟨_, rfl, 1, rfl, hN (i + 1) _ _ (Wku.refl _) rfl ⟨by omega, by omega⟩ (by omega)⟩
    · refine ⟨_, rfl, _, rfl, fun _ => ?_, fun h => absurd hlt (by rw [h]; decide)⟩
      refine ⟨_, rfl, _, rfl, .int (g.ds.getD i 0), atI_mapD hi, ⟨n0, noPy n0 nf⟩, _, rfl, _, rfl, i, ixN_nat (by simpa using hi), n0, gc_keep ?_⟩
      have hd := ok.d _ (getD_mem (d := 0) hi)
      generalize hgd : g.ds.getD i 0 = d at hd
      have z := q (d % n) ⟨g.ds.set i (d / n), i, g.seed, g.cnt⟩ (Int.emod_nonneg _ (by omega)) (Int.emod_lt_of_pos _ n0) ⟨fun x hx => ?_, by show (g.ds.set _ _).length ≤ 60; rw [List.length_set]; exact ok.l, by show i ≤ (g.ds.set _ _).length; rw [List.length_set]; exact h2, ok.s, ⟨c0, by show g.cnt ≤ _; omega⟩, hc⟩
      · simp only [bagH, inH, List.map_set] at z
        exact z
      · rcases List.mem_or_eq_of_mem_set hx with hx | hx
        · exact ok.d x hx
        · subst hx
          have h0 := Int.ediv_nonneg hd.1 (Int.le_of_lt n0)
          have h1 := Int.ediv_le_self n hd.1
          exact ⟨h0, by omega⟩
  · have hi : ¬ i < g.ds.length := by simpa using hge
    exact ⟨(fun h => nomatch h), fun _ => ⟨_, rfl, _, rfl, fun h => absurd hge (by rw [h]; decide), fun _ => last hi rfl⟩⟩
theorem fx__law_draw {P : Program} {w : World} {K : PySem.W.Frag} {mg : Str → Option Value} {base : Heap} (B : Bt mg) (a : At K mg "_law_draw" s__law_draw) : Fx P w K mg base 1 "_law_draw" s__law_draw p__law_draw (Wof sp__law_draw) :=
  fx_vc (sem := sem__law_draw) a sc__law_draw len__law_draw (fun _ _ _ _ _ _ us hl => match us, hl with | [_, _], _ => rfl) (fun f cd A fr s G Z hg hr =>
 (vb_while PassesOwn.never (vt_w (vw_and (vt_lt (ve_ix (ve_var 0) ve_int) (ve_len B.len (ve_ix (ve_var 0) ve_int))) (vw_and1 (vt_eq (k := 0) (by exact hr.mono (by decide)) (ve_ix (ve_ix (ve_var 0) ve_int) (ve_ix (ve_var 0) ve_int)) ve_int))))
  (vb_sto (ve_add (ve_ix (ve_var 0) ve_int) ve_int) (ve_var 0) ve_int
  vb_nil)
  (vb_if (vt_lt (ve_ix (ve_var 0) ve_int) (ve_len B.len (ve_ix (ve_var 0) ve_int)))
  (vb_set 2 sc__law_draw.nd (ve_ix (ve_ix (ve_var 0) ve_int) (ve_ix (ve_var 0) ve_int))
  (vb_sto (ve_fdiv (ve_var 2) (ve_var 1)) (ve_ix (ve_var 0) ve_int) (ve_ix (ve_var 0) ve_int)
  (vb_ret (ve_mod (ve_var 2) (ve_var 1)))))
  vb_nil
  (vb_sto (ve_add (ve_ix (ve_var 0) ve_int) ve_int) (ve_var 0) ve_int
  (vb_sto (ve_mod (ve_add (ve_add (ve_add (ve_pow (ve_ix (ve_var 0) ve_int) ve_int) (ve_mul ve_int (ve_ix (ve_var 0) ve_int))) (ve_mul ve_int (ve_ix (ve_var 0) ve_int))) ve_int) (ve_sub (ve_pow ve_int ve_int) ve_int)) (ve_var 0) ve_int
  (vb_ret (ve_mod (ve_fdiv (ve_ix (ve_var 0) ve_int) ve_int) (ve_var 1)))))))) vc__law_draw
def sem__law_bag : SB :=
 (sSet 1 (sK (.int 29))
  (sFor (iList (sSl (sVar 0) sO0 (sO1 (sK (.int 60))))) (.nm 2)
  (sSet 1 (sBin (oInt (fun _ j => 0 < j) fun i j => i % j) (sBin oAdd (sBin oAdd (sBin oMul (sVar 1) (sK (.int 69621))) (sBin (oInt (fun _ j => 0 < j) fun i j => i % j) (sVar 2) (sK (.int 2305843009213693921)))) (sK (.int 1))) (sBin (oInt0 fun i j => i - j) (sBin (oInt CPowW fun i j => i ^ j.toNat) (sK (.int 2)) (sK (.int 61))) (sK (.int 1))))
  sNil)
  (sRet (sLstC [(sLcC [2] (iList (sSl (sVar 0) sO0 (sO1 (sK (.int 60))))) (.nm 2) (sBin (oInt (fun _ j => 0 < j) fun i j => i % j) (sI1 absI (sVar 2)) (sBin (oInt CPowW fun i j => i ^ j.toNat) (sBin (oInt CPowW fun i j => i ^ j.toNat) (sK (.int 10)) (sK (.int 60))) (sK (.int 10))))), (sK (.int 0)), (sVar 1), (sK (.int 0))]))))
theorem cut60 (ns : List Int) : cut ns none (some 60) = ns.take 60 := by
  unfold cut
  rw [HT.sIx_none, show HT.sIx ns.length ns.length (some 60) = min 60 ns.length from HT.sIx_nat ns.length ns.length 60]
  simp only [List.drop_zero, Nat.sub_zero]
  by_cases h : 60 ≤ ns.length
  · rw [Nat.min_eq_left h]
  · rw [Nat.min_eq_right (by omega), List.take_of_length_le (by omega : ns.length ≤ 60), List.take_of_length_le (Nat.le_refl _)]
theorem cut60m (ns : List Int) : (cut (ns.map PyData.int) none (some 60)).map U.d = (ns.take 60).map fun n => U.d (.int n) := by
  rw [cut_map, cut60, List.map_map]; rfl
theorem vc__law_bag : ∀ us h Q, sp__law_bag us h Q → sem__law_bag (us ++ List.replicate (n__law_bag.length - p__law_bag.length) .no) h (endq h.length Q) := fun us h Q ⟨ns, e1, e2, q⟩ => by
  subst e1 e2
  have m0 : (0 : Int) < ((10 : Int) ^ (60 : Int).toNat) ^ (10 : Int).toNat := by decide +kernel
  have m1 : (((10 : Int) ^ (60 : Int).toNat) ^ (10 : Int).toNat).natAbs < 2 ^ 2000 := by decide +kernel
  refine for_t (ns.take 60) (fun n => U.d (.int n)) (fun s : Int => [.s ns, .d (.int s), .no]) (fun _ => []) (fun _ s => 0 ≤ s ∧ s < 2305843009213693951) 29 (cut60m ns) (Wku.refl _) rfl ⟨by decide, by decide⟩ (fun i x s hx ⟨h1, h2⟩ N hN => ?_) fun s ⟨h1, h2⟩ => ?_
  · refine ⟨cm_small (m := 63) (n := 63) (by omega) (by decide) (by decide), (by show (0 : Int) < _; decide), pow_small (m := 2) (j := 61) (by decide) (by decide), (by show (0 : Int) < 2 ^ (61 : Int).toNat - 1; decide), ?_⟩
    exact hN _ _ _ ⟨.inl rfl, .inl rfl, .inr rfl, trivial⟩ rfl ⟨Int.emod_nonneg _ (by decide), Int.emod_lt_of_pos _ (by decide)⟩
  · have l60 : (ns.take 60).length ≤ 60 := List.length_take_le ..
    refine ⟨?_, ?_⟩
    · rw [cut60m, List.length_map]
      exact Nat.le_trans l60 (small64 (by decide))
    · rw [cut60m]
      refine lc_map (ns.take 60) _ (fun x => U.d (.int (absI x % ((10 : Int) ^ (60 : Int).toNat) ^ (10 : Int).toNat))) trivial (fun x hx => ⟨_, rfl, fun K k => ⟨pow_small (m := 4) (j := 60) (by decide) (by decide), pow_small (m := 200) (j := 10) (by decide +kernel) (by decide), m0, k⟩⟩) ?_
      refine ⟨.ld ((ns.take 60).map fun x => .int (absI x % ((10 : Int) ^ (60 : Int).toNat) ^ (10 : Int).toNat)), by show List.map _ _ = List.map _ (List.map _ _); rw [List.map_map]; rfl, [1, 0], by decide, fun n hn => by rcases List.mem_cons.mp hn with rfl | hn; exact (show 1 < 2 by decide); rw [List.mem_singleton.mp hn]; exact (show 0 < 2 by decide), ?_⟩
      have z := q ⟨(ns.take 60).map fun x => absI x % ((10 : Int) ^ (60 : Int).toNat) ^ (10 : Int).toNat, 0, s, 0⟩ ⟨fun d hd => ?_, by simpa using l60, Nat.zero_le _, ⟨h1, h2⟩, ⟨Int.le_refl 0, Int.le_refl 0⟩, by decide⟩
      · simp only [bagH, inH, List.map_map] at z
        exact z
      · obtain ⟨x, hx, e⟩ := List.mem_map.mp hd
        have h1 := Int.emod_nonneg (absI x) (Int.ne_of_gt m0)
        have h2 := Int.emod_lt_of_pos (absI x) m0
        have e : absI x % ((10 : Int) ^ (60 : Int).toNat) ^ (10 : Int).toNat = d := e
        rw [e] at h1 h2
        exact ⟨h1, by omega⟩
theorem fx__law_bag {P : Program} {w : World} {K : PySem.W.Frag} {mg : Str → Option Value} {base : Heap} (B : Bt mg) (a : At K mg "_law_bag" s__law_bag) : Fx P w K mg base 1 "_law_bag" s__law_bag p__law_bag (Wof sp__law_bag) :=
  fx_vc (sem := sem__law_bag) a sc__law_bag len__law_bag (fun _ _ _ _ _ _ us hl => match us, hl with | [_], _ => rfl) (fun f cd A fr s G Z hg hr =>
 (vb_set 1 sc__law_bag.nd ve_int
  (vb_for rfl PassesOwn.never (vi_list (ve_sl (ve_var 0) vo_none (vo_some ve_int))) (vg_name 2 sc__law_bag.nd)
  (vb_set 1 sc__law_bag.nd (ve_mod (ve_add (ve_add (ve_mul (ve_var 1) ve_int) (ve_mod (ve_var 2) ve_int)) ve_int) (ve_sub (ve_pow ve_int ve_int) ve_int))
  vb_nil)
  (vb_ret (ve_lstC (va_cons (ve_lc' fin_c rfl sc__law_bag.nd (own := [("_law_cell", 2)]) (t := (.nm 2)) (blkOk_by (N := n__law_bag) (sc := defScope s__law_bag) (by decide +kernel)) (fun _ _ _ _ _ => (pg_name (i := 2) sc__law_bag.nd rfl (by first | exact Or.inl rfl | exact Or.inr rfl))) (vi_list (ve_sl (ve_var 0) vo_none (vo_some ve_int))) (fun _ _ _ _ _ => (ve_mod (ve_abs B.abs (ve_var 2)) (ve_pow (ve_pow ve_int ve_int) ve_int))) (by decide) (by intro _; rfl)) (va_cons ve_int (va_cons (ve_var 1) (va_cons ve_int va_nil))))))))) vc__law_bag
end K03
namespace K03
open PySem PySem.Spec PyProof.Rows L2 Hq Vq
/-! ### calls with the bag -/
theorem fits10 {n : Int} (h : n.natAbs < 1024) : Fits n := Nat.lt_of_lt_of_le (show n.natAbs < 2 ^ 10 from h) (Nat.pow_le_pow_right (by decide) (by decide))
theorem putF_ge {α : Type} {ys : List α} : ∀ (xs : List α) (i : Nat), 2 ≤ i → Vq.putF [0, 1] ys i xs = xs
  | [], _, _ => rfl
  | x :: xs, i, h => by
    rw [Vq.putF, putF_ge xs (i + 1) (by omega)]
    have : fnd [0, 1] i = none := by
      unfold fnd
      rw [List.findIdx?_eq_none_iff]
      intro x hx
      rcases List.mem_cons.mp hx with rfl | hx
      · simp; omega
      · rw [List.mem_singleton.mp hx]; simp; omega
    rw [this]
theorem bag_lt {g : Bag} {rest : Hq} : ∀ m ∈ [0, 1], m < (bagH g ++ rest).length := fun m hm => by
  rcases List.mem_cons.mp hm with rfl | hm
  · simp
  · rw [List.mem_singleton.mp hm]; simp
/-- back from a call that has the bag alone -/
theorem bag_back {g g' : Bag} {rest : Hq} {Q : U → Hq → Prop} {x : PyData} (q : Q (.d x) (bagH g' ++ rest)) : match ren (bk [0, 1] (bagH g ++ rest).length) (.d x) with
    | some u' => match renOs (bk [0, 1] (bagH g ++ rest).length) (bagH g') with
      | some hb => Q u' (put [0, 1] hb (bagH g ++ rest) ++ hb.drop [0, 1].length)
      | none => False
    | none => False := by
  have e : put [0, 1] [outH g', inH g'] (bagH g ++ rest) = bagH g' ++ rest := by
    show Vq.putF [0, 1] [outH g', inH g'] 0 (outH g :: inH g :: rest) = _
    rw [Vq.putF, Vq.putF, putF_ge rest 2 (Nat.le_refl 2)]
    rfl
  show Q (.d x) (put [0, 1] [outH g', inH g'] (bagH g ++ rest) ++ [])
  rw [List.append_nil, e]
  exact q
theorem dr {g : Bag} {c : Nat} {n : Int} {rest : Hq} {Q : U → Hq → Prop} (ok : g.Ok c) (hc : c < 100000000) (n0 : 0 < n) (n1 : Fits n) (q : ∀ (v : Int) (g' : Bag), 0 ≤ v → v < n → g'.Ok (c + 1) → Q (.d (.int v)) (bagH g' ++ rest)) :
    ∃ sel : List Nat, sel.Nodup ∧ (∀ m ∈ sel, m < (bagH g ++ rest).length) ∧ callAt sp__law_draw sel [.c 0, .d (.int n)] (bagH g ++ rest) Q :=
  ⟨[0, 1], by decide, bag_lt, g, c, n, rfl, rfl, ok, hc, n0, n1, fun v g' h0 h1 ok' => bag_back (q v g' h0 h1 ok')⟩
/-! ### numbers, rows -/
def Sml (n : Int) : Prop := n.natAbs < 2 ^ 700
theorem fits700 {n : Int} (h : Sml n) : Fits n := Nat.lt_of_lt_of_le h (Nat.pow_le_pow_right (by decide) (by decide))
def RowOk (row : List Int) : Prop := ∀ x ∈ row, -99 ≤ x ∧ x ≤ 99
def sp__law_number : Fs := fun us h Q => ∃ (g : Bag) (c : Nat) (n : Int), us = [.c 0, .d (.int n)] ∧ h = bagH g ∧ g.Ok c ∧ c + 3 < 100000000 ∧ 0 < n ∧ Sml n ∧ ∀ (v : Int) (g' : Bag), Sml v → g'.Ok (c + 3) → Q (.d (.int v)) (bagH g')
def sp__law_row : Fs := fun us h Q => ∃ (g : Bag) (c n : Nat), us = [.c 0, .d (.int (n : Int))] ∧ h = bagH g ∧ g.Ok c ∧ n ≤ 1000 ∧ c + n + 1 < 100000000 ∧ ∀ (row : List Int) (g' : Bag), row.length = n → RowOk row → g'.Ok (c + n + 1) → Q (.d (td row)) (bagH g')
theorem len__law_number : ∀ us h Q, sp__law_number us h Q → us.length = p__law_number.length := fun _ _ _ ⟨_, _, _, e, _⟩ => by rw [e]; rfl
theorem len__law_row : ∀ us h Q, sp__law_row us h Q → us.length = p__law_row.length := fun _ _ _ ⟨_, _, _, e, _⟩ => by rw [e]; rfl
theorem nmb {g : Bag} {c : Nat} {n : Int} {rest : Hq} {Q : U → Hq → Prop} (ok : g.Ok c) (hc : c + 3 < 100000000) (n0 : 0 < n) (n1 : Sml n) (q : ∀ (v : Int) (g' : Bag), Sml v → g'.Ok (c + 3) → Q (.d (.int v)) (bagH g' ++ rest)) :
    ∃ sel : List Nat, sel.Nodup ∧ (∀ m ∈ sel, m < (bagH g ++ rest).length) ∧ callAt sp__law_number sel [.c 0, .d (.int n)] (bagH g ++ rest) Q :=
  ⟨[0, 1], by decide, bag_lt, g, c, n, rfl, rfl, ok, hc, n0, n1, fun v g' h0 ok' => bag_back (q v g' h0 ok')⟩
theorem rwd {g : Bag} {c n : Nat} {rest : Hq} {Q : U → Hq → Prop} (ok : g.Ok c) (hn : n ≤ 1000) (hc : c + n + 1 < 100000000) (q : ∀ (row : List Int) (g' : Bag), row.length = n → RowOk row → g'.Ok (c + n + 1) → Q (.d (td row)) (bagH g' ++ rest)) :
    ∃ sel : List Nat, sel.Nodup ∧ (∀ m ∈ sel, m < (bagH g ++ rest).length) ∧ callAt sp__law_row sel [.c 0, .d (.int (n : Int))] (bagH g ++ rest) Q :=
  ⟨[0, 1], by decide, bag_lt, g, c, n, rfl, rfl, ok, hn, hc, fun v g' h0 h1 ok' => bag_back (q v g' h0 h1 ok')⟩
def sem__law_number : SB :=
 (sRet (sBin oMul (sCall sp__law_draw [(sVar 0), (sBin oIx (sLst [(sK (.int 9)), (sK (.int 9)), (sK (.int 200)), (sVar 1)]) (sCall sp__law_draw [(sVar 0), (sK (.int 4))]))]) (sBin oIx (sLst [(sK (.int 1)), (sUn (fun i => -i) (sK (.int 1)))]) (sCall sp__law_draw [(sVar 0), (sK (.int 2))]))))
def sem__law_row : SB :=
 (sAsg (.tp [(.nm 2), (.nm 3)]) (sBin oIx (sLst [(sTup [(sK (.int 0)), (sK (.int 1))]), (sTup [(sK (.int 0)), (sK (.int 1))]), (sTup [(sUn (fun i => -i) (sK (.int 3))), (sK (.int 3))]), (sTup [(sUn (fun i => -i) (sK (.int 99))), (sK (.int 99))])]) (sCall sp__law_draw [(sVar 0), (sK (.int 4))]))
  (sRet (sLc [4] (iRange (sVar 1)) (.nm 4) (sBin oAdd (sVar 2) (sCall sp__law_draw [(sVar 0), (sBin oAdd (sBin (oInt0 fun i j => i - j) (sVar 3) (sVar 2)) (sK (.int 1)))])))))
theorem vc__law_number : ∀ us h Q, sp__law_number us h Q → sem__law_number (us ++ List.replicate (n__law_number.length - p__law_number.length) .no) h (endq h.length Q) := fun us h Q ⟨g, c, n, e1, e2, ok, hc, n0, n1, q⟩ => by
  subst e1 e2
  refine dr (rest := []) ok (by omega) (by decide) (fits10 (by decide)) fun v g1 h0 h1 ok1 => ?_
  obtain ⟨m, hm, m0, m1, m2⟩ : ∃ m : Int, atI [PyData.int 9, .int 9, .int 200, .int n] v = some (.int m) ∧ 0 < m ∧ Fits m ∧ (m ≤ 200 ∨ m = n) := by
    have h4 : v = 0 ∨ v = 1 ∨ v = 2 ∨ v = 3 := by omega
    rcases h4 with rfl | rfl | rfl | rfl
    · exact ⟨9, rfl, by decide, fits10 (by decide), .inl (by decide)⟩
    · exact ⟨9, rfl, by decide, fits10 (by decide), .inl (by decide)⟩
    · exact ⟨200, rfl, by decide, fits10 (by decide), .inl (by decide)⟩
    · exact ⟨n, rfl, n0, fits700 n1, .inr rfl⟩
  refine ⟨_, hm, dr (rest := []) ok1 (by omega) m0 m1 fun x g2 x0 x1 ok2 => dr (rest := []) ok2 (by omega) (by decide) (fits10 (by decide)) fun u g3 u0 u1 ok3 => ?_⟩
  have xb : Sml x := by
    rcases m2 with m2 | m2
    · have hx : x.natAbs < 2 ^ 10 := by
        omega
      exact Nat.lt_of_lt_of_le hx (Nat.pow_le_pow_right (by decide) (by decide))
    · have hx : x.natAbs < n.natAbs := by
        subst m2
        omega
      exact Nat.lt_trans hx n1
  have xc : x.natAbs < 2 ^ (700 + 1) := Nat.lt_trans xb (Nat.pow_lt_pow_right (by decide) (by decide))
  have h2 : u = 0 ∨ u = 1 := by omega
  rcases h2 with rfl | rfl
  · exact ⟨_, rfl, cm_small (m := 700) (n := 1) xc (by decide) (by decide), gc_keep (q _ g3 (by rw [Int.mul_one]; exact xb) ok3)⟩
  · exact ⟨_, rfl, cm_small (m := 700) (n := 1) xc (by decide) (by decide), gc_keep (q _ g3 (show (x * -1).natAbs < 2 ^ 700 by rw [Int.natAbs_mul]; simpa using show x.natAbs < 2 ^ 700 from xb) ok3)⟩
theorem fx__law_number {P : Program} {w : World} {K : PySem.W.Frag} {mg : Str → Option Value} {base : Heap} (B : Bt mg) (a : At K mg "_law_number" s__law_number) (G__law_draw : Fx P w K mg base 1 "_law_draw" s__law_draw p__law_draw (Wof sp__law_draw)) : Fx P w K mg base 2 "_law_number" s__law_number p__law_number (Wof sp__law_number) :=
  fx_vc (sem := sem__law_number) a sc__law_number len__law_number (fun _ _ _ _ _ _ us hl => match us, hl with | [_, _], _ => rfl) (fun f cd A fr s G Z hg hr =>
 (vb_ret (ve_mul (ve_call G__law_draw (by exact hg) (by exact hr.mono (by decide)) (va_cons (ve_var 0) (va_cons (ve_ix (ve_lst (va_cons ve_int (va_cons ve_int (va_cons ve_int (va_cons (ve_var 1) va_nil))))) (ve_call G__law_draw (by exact hg) (by exact hr.mono (by decide)) (va_cons (ve_var 0) (va_cons ve_int va_nil)))) va_nil))) (ve_ix (ve_lst (va_cons ve_int (va_cons (ve_neg ve_int) va_nil))) (ve_call G__law_draw (by exact hg) (by exact hr.mono (by decide)) (va_cons (ve_var 0) (va_cons ve_int va_nil))))))) vc__law_number
theorem vc__law_row : ∀ us h Q, sp__law_row us h Q → sem__law_row (us ++ List.replicate (n__law_row.length - p__law_row.length) .no) h (endq h.length Q) := fun us h Q ⟨g, c, n, e1, e2, ok, n1, hc, q⟩ => by
  subst e1 e2
  refine dr (rest := []) ok (by omega) (by decide) (fits10 (by decide)) fun v g1 h0 h1 ok1 => ?_
  obtain ⟨lo, hi, hm, l1, l2, l3⟩ : ∃ lo hi : Int, atI [PyData.tuple [.int 0, .int 1], .tuple [.int 0, .int 1], .tuple [.int (-3), .int 3], .tuple [.int (-99), .int 99]] v = some (.tuple [.int lo, .int hi]) ∧ -99 ≤ lo ∧ lo ≤ hi ∧ hi ≤ 99 := by
    have h4 : v = 0 ∨ v = 1 ∨ v = 2 ∨ v = 3 := by omega
    rcases h4 with rfl | rfl | rfl | rfl
    · exact ⟨0, 1, rfl, by decide, by decide, by decide⟩
    · exact ⟨0, 1, rfl, by decide, by decide, by decide⟩
    · exact ⟨-3, 3, rfl, by decide, by decide, by decide⟩
    · exact ⟨-99, 99, rfl, by decide, by decide, by decide⟩
  refine ⟨_, hm, ?_⟩
  refine ⟨by omega, by omega, by rw [rgU_map, List.length_map, List.length_range]; exact Nat.le_of_lt (small1000 n1), ?_⟩
  rw [rgU_map]
  refine lc_t (S := Bag) (β := Int) (List.range n) _ (fun y => U.d (.int y)) (fun g => bagH g ++ []) (fun i ys g => g.Ok (c + 1 + i) ∧ RowOk ys) (fun _ _ _ _ => trivial) g1 rfl ⟨ok1, fun _ h => (nomatch h)⟩ (fun i x ys g' hx hy ⟨ok', hys⟩ => ⟨_, rfl, fun N hN => ?_⟩) fun ys g' hy ⟨ok', hys⟩ => ?_
  · have hin : i < n := by
      have := (List.getElem?_eq_some_iff.mp hx).1
      rwa [List.length_range] at this
    exact dr (n := hi - lo + 1) ok' (by omega) (by omega) (fits10 (by omega)) fun v g2 v0 v1 ok2 => hN (lo + v) g2 ⟨ok2, fun y hy => (List.mem_append.mp hy).elim (hys y) fun z => by rw [List.mem_singleton.mp z]; omega⟩
  · rw [List.length_range] at hy ok'
    exact ofd_T _ (gc_keep (q ys g' hy hys (ok'.up (by omega) (by omega))))
theorem fx__law_row {P : Program} {w : World} {K : PySem.W.Frag} {mg : Str → Option Value} {base : Heap} (B : Bt mg) (a : At K mg "_law_row" s__law_row) (G__law_draw : Fx P w K mg base 1 "_law_draw" s__law_draw p__law_draw (Wof sp__law_draw)) : Fx P w K mg base 2 "_law_row" s__law_row p__law_row (Wof sp__law_row) :=
  fx_vc (sem := sem__law_row) a sc__law_row len__law_row (fun _ _ _ _ _ _ us hl => match us, hl with | [_, _], _ => rfl) (fun f cd A fr s G Z hg hr =>
 (vb_asg (ve_ix (ve_lst (va_cons (ve_tup (va_cons ve_int (va_cons ve_int va_nil))) (va_cons (ve_tup (va_cons ve_int (va_cons ve_int va_nil))) (va_cons (ve_tup (va_cons (ve_neg ve_int) (va_cons ve_int va_nil))) (va_cons (ve_tup (va_cons (ve_neg ve_int) (va_cons ve_int va_nil))) va_nil))))) (ve_call G__law_draw (by exact hg) (by exact hr.mono (by decide)) (va_cons (ve_var 0) (va_cons ve_int va_nil)))) (vg_tup rfl (vgs_cons (vg_name 2 sc__law_row.nd) (vgs_cons (vg_name 3 sc__law_row.nd) vgs_nil)))
  (vb_ret (ve_lc' fin_d rfl sc__law_row.nd (own := [("_law_k", 4)]) (t := (.nm 4)) (blkOk_by (N := n__law_row) (sc := defScope s__law_row) (by decide +kernel)) (fun _ _ _ _ _ => (pg_name (i := 4) sc__law_row.nd rfl (by first | exact Or.inl rfl | exact Or.inr rfl))) (vi_range B.range (ve_var 1)) (fun _ _ _ _ _ => (ve_add (ve_var 2) (ve_call G__law_draw (by exact hg) (by exact hr.mono (by decide)) (va_cons (ve_var 0) (va_cons (ve_add (ve_sub (ve_var 3) (ve_var 2)) ve_int) va_nil))))) (by decide) (by intro _; rfl))))) vc__law_row
end K03
namespace K03
open PySem PySem.Spec PyProof.Rows L2 Hq Vq
/-! ### histories -/
inductive Deed where
  | come
  | stir (p : Int)
  | pay (a b : Int)
  | gift (p n : Int)
  | tell (row : List Int) (n : Int)
deriving DecidableEq
def Deed.d : Deed → PyData
  | .come => .tuple [.str "come"]
  | .stir p => .tuple [.str "stir", .int p]
  | .pay a b => .tuple [.str "pay", .int a, .int b]
  | .gift p n => .tuple [.str "gift", .int p, .int n]
  | .tell row n => .tuple [.str "tell", td row, .int n]
instance : TD Deed := ⟨Deed.d⟩
def dotI (row now : List Int) (n : Nat) : Int := ((List.range n).map fun k => row.getD k 0 * now.getD k 0).sum
/-- what the drawn histories are: deeds, unsaid numbers, numbers now, tellings -/
inductive Past : List Deed → List Int → List Int → Nat → Prop
  | nil : Past [] [] [] 0
  | come {ps gs ns t} (g : Int) : Past ps gs ns t → ns.length < 10 → Sml g → Past (ps ++ [.come]) (gs ++ [g]) (ns ++ [g]) t
  | stir {ps gs ns t} (g : Int) (p : Nat) : Past ps gs ns t → p < ns.length → Sml g → Past (ps ++ [.stir p]) (gs ++ [g]) (ns.set p (ns.getD p 0 + g)) t
  | pay {ps gs ns t} (g : Int) (a b : Nat) : Past ps gs ns t → a < ns.length → b < ns.length → a ≠ b → Sml g → Past (ps ++ [.pay a b]) (gs ++ [g]) ((ns.set a (ns.getD a 0 - g)).set b (ns.getD b 0 + g)) t
  | gift {ps gs ns t} (g : Int) (p : Nat) : Past ps gs ns t → p < ns.length → Sml g → Past (ps ++ [.gift p g]) gs (ns.set p (ns.getD p 0 + g)) t
  | tell {ps gs ns t} (row : List Int) : Past ps gs ns t → row.length = ns.length → RowOk row → t < 24 → Past (ps ++ [.tell row (dotI row ns ns.length)]) gs ns (t + 1)
theorem Past.len {ps gs ns t} (h : Past ps gs ns t) : ns.length ≤ 10 := by
  induction h with
  | nil => decide
  | come _ _ h1 _ _ => rw [List.length_append]; simp; omega
  | stir _ _ _ _ _ ih => rw [List.length_set]; exact ih
  | pay _ _ _ _ _ _ _ _ ih => rw [List.length_set, List.length_set]; exact ih
  | gift _ _ _ _ _ ih => rw [List.length_set]; exact ih
  | tell _ _ _ _ _ ih => exact ih
theorem Past.glen {ps gs ns t} (h : Past ps gs ns t) : gs.length ≤ ps.length := by
  induction h with
  | nil => decide
  | come _ _ _ _ ih => simp; exact ih
  | stir _ _ _ _ _ ih => simp; exact ih
  | pay _ _ _ _ _ _ _ _ ih => simp; exact ih
  | gift _ _ _ _ _ ih => simp; omega
  | tell _ _ _ _ _ ih => simp; omega
theorem atI_last {α : Type} {xs : List α} {r : α} : atI (xs ++ [r]) (-1) = some r := by
  unfold atI ixN
  rw [if_neg (by decide), List.length_append]
  simp only [List.length_singleton]
  rw [if_pos (by omega), show ((-1 : Int) + ((xs.length + 1 : Nat) : Int)).toNat = xs.length by omega]
  simp
def sp__law_past : Fs := fun us h Q => ∃ (g : Bag) (c n : Nat), us = [.c 0, .d (.int (n : Int))] ∧ h = bagH g ∧ g.Ok c ∧ n ≤ 100 ∧ c + 3000 < 100000000 ∧ ∀ ps gs ns t (g' : Bag), Past ps gs ns t → ps.length ≤ n → g'.Ok (c + 3000) → Q (.d (.tuple [td ps, td gs])) (bagH g')
theorem len__law_past : ∀ us h Q, sp__law_past us h Q → us.length = p__law_past.length := fun _ _ _ ⟨_, _, _, e, _⟩ => by rw [e]; rfl
theorem pst {g : Bag} {c n : Nat} {rest : Hq} {Q : U → Hq → Prop} (ok : g.Ok c) (hn : n ≤ 100) (hc : c + 3000 < 100000000) (q : ∀ ps gs ns t (g' : Bag), Past ps gs ns t → ps.length ≤ n → g'.Ok (c + 3000) → Q (.d (.tuple [td ps, td gs])) (bagH g' ++ rest)) :
    ∃ sel : List Nat, sel.Nodup ∧ (∀ m ∈ sel, m < (bagH g ++ rest).length) ∧ callAt sp__law_past sel [.c 0, .d (.int (n : Int))] (bagH g ++ rest) Q :=
  ⟨[0, 1], by decide, bag_lt, g, c, n, rfl, rfl, ok, hn, hc, fun ps gs ns t g' h0 h1 ok' => bag_back (q ps gs ns t g' h0 h1 ok')⟩
def sem__law_past : SB :=
 (sSet 2 (sBin oIx (sLst [(sK (.int 9)), (sK (.int 9)), (sBin (oInt CPowW fun i j => i ^ j.toNat) (sK (.int 10)) (sK (.int 24))), (sBin (oInt CPowW fun i j => i ^ j.toNat) (sBin (oInt CPowW fun i j => i ^ j.toNat) (sK (.int 10)) (sK (.int 60))) (sK (.int 3)))]) (sCall sp__law_draw [(sVar 0), (sK (.int 4))]))
  (sAsg (.tp [(.nm 4), (.nm 5), (.nm 6), (.nm 7)]) (sTup [(sLstC []), (sLstC []), (sLstC []), (sK (.int 0))])
  (sFor (iRange (sCall sp__law_draw [(sVar 0), (sBin oAdd (sVar 1) (sK (.int 1)))])) (.nm 3)
  (sSet 8 (sCall sp__law_draw [(sVar 0), (sK (.int 12))])
  (sSet 9 (sLen (sVar 6))
  (sIfC (tOr (tCmp (cInt fun i j => decide (j < i)) (sLen (sVar 5)) (sK (.int 19))) (tAnd (tCmp (cInt fun i j => decide (i < j)) (sVar 8) (sK (.int 6))) (tAnd (tCmp (cInt fun i j => decide (j < i)) (sVar 8) (sK (.int 4))) (tCmp (cInt fun i j => decide (i < j)) (sVar 9) (sK (.int 2))))))
  (sSet 8 (sK (.int 11))
  sNil)
  sNil
  (sIfC (tAnd (tCmp (cInt fun i j => decide (j < i)) (sVar 7) (sK (.int 23))) (tOr (tCmp (cInt fun i j => decide (j < i)) (sVar 8) (sK (.int 6))) (tCmp (cInt fun i j => decide (j < i)) (sLen (sVar 5)) (sK (.int 19)))))
  (sSet 8 (sK (.int 6))
  sNil)
  sNil
  (sIfS (tAnd (tCmp (cInt fun i j => decide (i < j)) (sVar 8) (sK (.int 3))) (tCmp (cInt fun i j => decide (i < j)) (sVar 9) (sK (.int 10))))
  (sExp (sApp (sVar 5) (sCall sp__law_number [(sVar 0), (sVar 2)]))
  (sExp (sApp (sVar 6) (sBin oIx (sVar 5) (sUn (fun i => -i) (sK (.int 1)))))
  (sExp (sApp (sVar 4) (sTup [(sK (.str "come"))]))
  sNil)))
  (sIfS (tAnd (tCmp (cInt fun i j => decide (i < j)) (sVar 8) (sK (.int 5))) (tAnd (tCmp (cInt fun i j => decide (j < i)) (sVar 8) (sK (.int 2))) (tCmp (cInt fun i j => decide (j < i)) (sVar 9) (sK (.int 0)))))
  (sSet 10 (sCall sp__law_draw [(sVar 0), (sVar 9)])
  (sExp (sApp (sVar 5) (sCall sp__law_number [(sVar 0), (sVar 2)]))
  (sSto (sBin oAdd (sBin oIx (sVar 6) (sVar 10)) (sBin oIx (sVar 5) (sUn (fun i => -i) (sK (.int 1))))) (sVar 6) (sVar 10)
  (sExp (sApp (sVar 4) (sTup [(sK (.str "stir")), (sVar 10)]))
  sNil))))
  (sIfS (tAnd (tCmp cEq (sVar 8) (sK (.int 5))) (tCmp (cInt fun i j => decide (j < i)) (sVar 9) (sK (.int 1))))
  (sSet 11 (sCall sp__law_draw [(sVar 0), (sVar 9)])
  (sSet 12 (sBin (oInt (fun _ j => 0 < j) fun i j => i % j) (sBin oAdd (sBin oAdd (sVar 11) (sK (.int 1))) (sCall sp__law_draw [(sVar 0), (sBin (oInt0 fun i j => i - j) (sVar 9) (sK (.int 1)))])) (sVar 9))
  (sExp (sApp (sVar 5) (sCall sp__law_number [(sVar 0), (sVar 2)]))
  (sSto (sBin (oInt0 fun i j => i - j) (sBin oIx (sVar 6) (sVar 11)) (sBin oIx (sVar 5) (sUn (fun i => -i) (sK (.int 1))))) (sVar 6) (sVar 11)
  (sSto (sBin oAdd (sBin oIx (sVar 6) (sVar 12)) (sBin oIx (sVar 5) (sUn (fun i => -i) (sK (.int 1))))) (sVar 6) (sVar 12)
  (sExp (sApp (sVar 4) (sTup [(sK (.str "pay")), (sVar 11), (sVar 12)]))
  sNil))))))
  (sIfS (tAnd (tCmp cEq (sVar 8) (sK (.int 6))) (tCmp (cInt fun i j => decide (j < i)) (sVar 9) (sK (.int 0))))
  (sSet 10 (sCall sp__law_draw [(sVar 0), (sVar 9)])
  (sSet 13 (sCall sp__law_number [(sVar 0), (sVar 2)])
  (sSto (sBin oAdd (sBin oIx (sVar 6) (sVar 10)) (sVar 13)) (sVar 6) (sVar 10)
  (sExp (sApp (sVar 4) (sTup [(sK (.str "gift")), (sVar 10), (sVar 13)]))
  sNil))))
  (sIfS (tCmp (cInt fun i j => decide (i < j)) (sVar 7) (sK (.int 24)))
  (sSet 7 (sBin oAdd (sVar 7) (sK (.int 1)))
  (sSet 14 (sCall sp__law_row [(sVar 0), (sVar 9)])
  (sExp (sApp (sVar 4) (sTup [(sK (.str "tell")), (sVar 14), (sInts (fun ns K => K (.int ns.sum)) (sLc [15] (iRange (sVar 9)) (.nm 15) (sBin oMul (sBin oIx (sVar 14) (sVar 15)) (sBin oIx (sVar 6) (sVar 15)))))]))
  sNil)))
  sNil
  sNil)
  sNil)
  sNil)
  sNil)
  sNil)))))
  (sRet (sFz (sTup [(sVar 4), (sVar 5)]))))))
structure PS where
  g : Bag
  ps : List Deed
  gs : List Int
  ns : List Int
  t : Nat
abbrev pastR (ps : List Deed) (gs ns : List Int) : Hq := [.ld (ps.map td), .ld (gs.map PyData.int), .ld (ns.map PyData.int)]
theorem sz1 {α : Type} {xs : List α} (h : xs.length ≤ 1000) : xs.length < sizeLine := Nat.lt_of_le_of_lt h (by rw [sizeLine_eq]; decide)
theorem vc__law_past : ∀ us h Q, sp__law_past us h Q → sem__law_past (us ++ List.replicate (n__law_past.length - p__law_past.length) .no) h (endq h.length Q) := fun us h Q ⟨g, c, n, e1, e2, ok, n1, hc, q⟩ => by
  subst e1 e2
  have big1 : Sml ((10 : Int) ^ (24 : Int).toNat) := by unfold Sml; decide +kernel
  have big2 : Sml (((10 : Int) ^ (60 : Int).toNat) ^ (3 : Int).toNat) := by unfold Sml; decide +kernel
  have pos1 : (0 : Int) < (10 : Int) ^ (24 : Int).toNat := by decide +kernel
  have pos2 : (0 : Int) < ((10 : Int) ^ (60 : Int).toNat) ^ (3 : Int).toNat := by decide +kernel
  refine ⟨pow_small (m := 4) (j := 24) (by decide) (by decide), pow_small (m := 4) (j := 60) (by decide) (by decide), pow_small (m := 200) (j := 3) (by decide +kernel) (by decide), ?_⟩
  refine dr (rest := []) ok (by omega) (by decide) (fits10 (by decide)) fun v g1 h0 h1 ok1 => ?_
  obtain ⟨size, hm, z0, z1⟩ : ∃ m : Int, atI [PyData.int 9, .int 9, .int ((10 : Int) ^ (24 : Int).toNat), .int (((10 : Int) ^ (60 : Int).toNat) ^ (3 : Int).toNat)] v = some (.int m) ∧ 0 < m ∧ Sml m := by
    have h4 : v = 0 ∨ v = 1 ∨ v = 2 ∨ v = 3 := by clear big1 big2 pos1 pos2; omega
    rcases h4 with rfl | rfl | rfl | rfl
    · exact ⟨9, rfl, by decide, by unfold Sml; decide +kernel⟩
    · exact ⟨9, rfl, by decide, by unfold Sml; decide +kernel⟩
    · exact ⟨_, rfl, pos1, big1⟩
    · exact ⟨_, rfl, pos2, big2⟩
  clear big1 big2 pos1 pos2
  refine ⟨_, hm, ?_⟩
  refine dr (n := (n : Int) + 1) (rest := pastR [] [] []) ok1 (by omega) (by omega) (fits10 (by omega)) fun v2 g2 a2 b2 ok2 => ?_
  obtain ⟨m, rfl⟩ : ∃ m : Nat, v2 = (m : Int) := ⟨v2.toNat, by omega⟩
  refine ⟨by omega, by omega, ?_⟩
  have atg : ∀ {gs : List Int} {y : Int}, atI (gs.map PyData.int ++ [.int y]) (-1) = some (.int y) := atI_last
  refine for_t (S := PS) (List.range m) (fun (i : Nat) => U.d (.int (i : Int))) (fun s => [.c 0, .no, .d (.int size), .no, .c 2, .c 3, .c 4, .d (.int (s.t : Int)), .no, .no, .no, .no, .no, .no, .no, .no]) (fun s => bagH s.g ++ pastR s.ps s.gs s.ns) (fun i s => Past s.ps s.gs s.ns s.t ∧ s.ps.length ≤ i ∧ s.g.Ok (c + 10 + 20 * i)) ⟨g2, [], [], [], 0⟩ rfl (by refine ⟨?_, ?_, ?_, ?_, ?_, ?_, ?_, ?_, ?_, ?_, ?_, ?_, ?_, ?_, ?_, ?_, trivial⟩ <;> first | exact .inl rfl | exact .inr rfl) rfl ⟨.nil, Nat.le_refl _, ok2.up (by omega) (by omega)⟩ (fun i x s hx ⟨hP, hl, ok⟩ N hN => ?_) fun s ⟨hP, hl, ok⟩ => ?_
  · obtain ⟨g, ps, gs, ns, t⟩ := s
    dsimp only at hP hl ok
    have hi : i < m := by
      have := (List.getElem?_eq_some_iff.mp hx).1
      rwa [List.length_range] at this
    have gl := hP.glen
    have nl := hP.len
    have lg : (gs.map PyData.int).length ≤ 1000 := by rw [List.length_map]; omega
    have ln : (ns.map PyData.int).length ≤ 1000 := by rw [List.length_map]; omega
    have lps : (ps.map td).length ≤ 1000 := by rw [List.length_map]; omega
    have lnn : ((ns.map PyData.int).length : Int) = (ns.length : Int) := by rw [List.length_map]
    refine dr (rest := pastR ps gs ns) ok (by omega) (by decide) (fits10 (by decide)) fun pk0 g3 a3 b3 ok3 => ?_
    refine ifC_t (S := Int) (fun pk => [.c 0, .no, .d (.int size), .no, .c 2, .c 3, .c 4, .d (.int (t : Int)), .d (.int pk), .d (.int ((ns.map PyData.int).length : Int)), .no, .no, .no, .no, .no, .no]) (fun _ => bagH g3 ++ pastR ps gs ns) (fun _ => True) ?_ fun pk _ => ?_
    · repeat' first | (refine ⟨11, ?_, rfl, trivial⟩; refine ⟨?_, ?_, ?_, ?_, ?_, ?_, ?_, ?_, ?_, ?_, ?_, ?_, ?_, ?_, ?_, ?_, trivial⟩ <;> first | exact .inl rfl | exact .inr rfl; done) | (refine ⟨pk0, ?_, rfl, trivial⟩; refine ⟨?_, ?_, ?_, ?_, ?_, ?_, ?_, ?_, ?_, ?_, ?_, ?_, ?_, ?_, ?_, ?_, trivial⟩ <;> first | exact .inl rfl | exact .inr rfl; done) | refine ⟨fun _ => ?_, fun _ => ?_⟩
    refine ifC_t (S := Int) (fun pk => [.c 0, .no, .d (.int size), .no, .c 2, .c 3, .c 4, .d (.int (t : Int)), .d (.int pk), .d (.int ((ns.map PyData.int).length : Int)), .no, .no, .no, .no, .no, .no]) (fun _ => bagH g3 ++ pastR ps gs ns) (fun _ => True) ?_ fun pk _ => ?_
    · repeat' first | (refine ⟨6, ?_, rfl, trivial⟩; refine ⟨?_, ?_, ?_, ?_, ?_, ?_, ?_, ?_, ?_, ?_, ?_, ?_, ?_, ?_, ?_, ?_, trivial⟩ <;> first | exact .inl rfl | exact .inr rfl; done) | (refine ⟨pk, ?_, rfl, trivial⟩; refine ⟨?_, ?_, ?_, ?_, ?_, ?_, ?_, ?_, ?_, ?_, ?_, ?_, ?_, ?_, ?_, ?_, trivial⟩ <;> first | exact .inl rfl | exact .inr rfl; done) | refine ⟨fun _ => ?_, fun _ => ?_⟩
    have done : ∀ (g' : Bag) (ps' : List Deed) (gs' ns' : List Int) (t' : Nat) (us : List U) (h : Hq), g'.Ok (c + 10 + 20 * (i + 1)) → Past ps' gs' ns' t' → ps'.length ≤ i + 1 → Wku us [.c 0, .no, .d (.int size), .no, .c 2, .c 3, .c 4, .d (.int (t' : Int)), .no, .no, .no, .no, .no, .no, .no, .no] → h = bagH g' ++ pastR ps' gs' ns' → N us h := fun g' ps' gs' ns' t' us h ok' hP' hl' hw hh => hN ⟨g', ps', gs', ns', t'⟩ us h hw hh ⟨hP', hl', ok'⟩
    clear hN
    -- somebody comes
    refine tand_mk (fun K q => q) (fun _ K q => q) ⟨fun hk => ?_, fun _ => ?_⟩
    · simp only [Bool.and_eq_true, decide_eq_true_eq, List.length_map] at hk
      refine ⟨trivial, nmb (rest := pastR ps gs ns) ok3 (by omega) z0 z1 fun y g4 hy ok4 => ⟨sz1 lg, trivial, _, atg, sz1 ln, trivial, sz1 lps, ?_⟩⟩
      refine done g4 (ps ++ [.come]) (gs ++ [y]) (ns ++ [y]) t _ _ (ok4.up (by omega) (by omega)) (hP.come y (by omega) hy) (by simp; omega) (by refine ⟨?_, ?_, ?_, ?_, ?_, ?_, ?_, ?_, ?_, ?_, ?_, ?_, ?_, ?_, ?_, ?_, trivial⟩ <;> first | exact .inl rfl | exact .inr rfl) ?_
      simp only [pastR, List.map_append]
      rfl
    -- somebody is stirred
    refine tand_mk (fun K q => q) (fun _ K q => tand_mk (fun K q => q) (fun _ K q => q) q) ⟨fun hk => ?_, fun _ => ?_⟩
    · simp only [Bool.and_eq_true, decide_eq_true_eq, List.length_map] at hk
      refine dr (rest := pastR ps gs ns) ok3 (by omega) (by omega) (fits10 (by omega)) fun pe g4 a4 b4 ok4 => ?_
      obtain ⟨q1, rfl⟩ : ∃ q1 : Nat, pe = (q1 : Int) := ⟨pe.toNat, by omega⟩
      have hq1 : q1 < ns.length := by rw [List.length_map] at b4; omega
      refine ⟨trivial, nmb (rest := pastR ps gs ns) ok4 (by omega) z0 z1 fun y g5 hy ok5 => ⟨sz1 lg, .int (ns.getD q1 0), atI_mapD hq1, _, atg, q1, ixN_nat (by rw [List.length_map]; exact hq1), trivial, sz1 lps, ?_⟩⟩
      refine done g5 (ps ++ [.stir q1]) (gs ++ [y]) (ns.set q1 (ns.getD q1 0 + y)) t _ _ (ok5.up (by omega) (by omega)) (hP.stir y q1 hq1 hy) (by simp; omega) (by refine ⟨?_, ?_, ?_, ?_, ?_, ?_, ?_, ?_, ?_, ?_, ?_, ?_, ?_, ?_, ?_, ?_, trivial⟩ <;> first | exact .inl rfl | exact .inr rfl) ?_
      simp only [pastR, List.map_append, List.map_set]
      rfl
    -- a payment
    refine tand_mk (fun K q => q) (fun _ K q => q) ⟨fun hk => ?_, fun _ => ?_⟩
    · simp only [Bool.and_eq_true, decide_eq_true_eq, List.length_map] at hk
      refine dr (rest := pastR ps gs ns) ok3 (by omega) (by omega) (fits10 (by omega)) fun pe g4 a4 b4 ok4 => ?_
      rw [List.length_map] at b4
      obtain ⟨q1, rfl⟩ : ∃ q1 : Nat, pe = (q1 : Int) := ⟨pe.toNat, by omega⟩
      have hq1 : q1 < ns.length := by omega
      refine dr (n := ((ns.map PyData.int).length : Int) - 1) (rest := pastR ps gs ns) ok4 (by omega) (by omega) (fits10 (by omega)) fun oe g5 a5 b5 ok5 => ?_
      rw [List.length_map] at b5
      refine ⟨by show (0 : Int) < ((ns.map PyData.int).length : Int); omega, ?_⟩
      obtain ⟨q2, hq2⟩ : ∃ q2 : Nat, ((q1 : Int) + 1 + oe) % ((ns.map PyData.int).length : Int) = (q2 : Int) := ⟨(((q1 : Int) + 1 + oe) % ((ns.map PyData.int).length : Int)).toNat, by have := Int.emod_nonneg ((q1 : Int) + 1 + oe) (show ((ns.map PyData.int).length : Int) ≠ 0 by omega); omega⟩
      have hq2l : q2 < ns.length := by have := Int.emod_lt_of_pos ((q1 : Int) + 1 + oe) (show 0 < ((ns.map PyData.int).length : Int) by omega); omega
      have hne : q1 ≠ q2 := by
        intro e
        rw [lnn] at hq2
        have h1 : ((q1 : Int) + 1 + oe) % (ns.length : Int) = (q1 : Int) % (ns.length : Int) := by
          rw [hq2, ← e, Int.emod_eq_of_lt (by omega) (by omega)]
        by_cases hb : (q1 : Int) + 1 + oe < (ns.length : Int)
        · rw [Int.emod_eq_of_lt (by omega) hb, Int.emod_eq_of_lt (by omega) (by omega)] at h1
          omega
        · have h2 : (q1 : Int) + 1 + oe = ((q1 : Int) + 1 + oe - (ns.length : Int)) + (ns.length : Int) := by omega
          rw [h2, Int.add_emod_right, Int.emod_eq_of_lt (by omega) (by omega), Int.emod_eq_of_lt (by omega) (by omega)] at h1
          omega
      have a2 : ∀ z : Int, atI ((ns.map PyData.int).set q1 (.int z)) (((q1 : Int) + 1 + oe) % ((ns.map PyData.int).length : Int)) = some (.int (ns.getD q2 0)) := fun z => by
        rw [hq2, ← List.map_set, atI_mapD (d := 0) (by rw [List.length_set]; exact hq2l), List.getD_eq_getElem?_getD, List.getElem?_set_ne hne, ← List.getD_eq_getElem?_getD]
      have i2 : ∀ z : PyData, ixN ((ns.map PyData.int).set q1 z).length (((q1 : Int) + 1 + oe) % ((ns.map PyData.int).length : Int)) = some q2 := fun z => by rw [hq2, List.length_set, List.length_map]; exact ixN_nat hq2l
      refine ⟨trivial, nmb (rest := pastR ps gs ns) ok5 (by omega) z0 z1 fun y g6 hy ok6 => ⟨sz1 lg, .int (ns.getD q1 0), atI_mapD hq1, _, atg, q1, ixN_nat (by rw [List.length_map]; exact hq1), _, a2 _, _, atg, q2, i2 _, trivial, sz1 lps, ?_⟩⟩
      refine done g6 (ps ++ [.pay q1 q2]) (gs ++ [y]) ((ns.set q1 (ns.getD q1 0 - y)).set q2 (ns.getD q2 0 + y)) t _ _ (ok6.up (by omega) (by omega)) (hP.pay y q1 q2 hq1 hq2l hne hy) (by simp; omega) (by refine ⟨?_, ?_, ?_, ?_, ?_, ?_, ?_, ?_, ?_, ?_, ?_, ?_, ?_, ?_, ?_, ?_, trivial⟩ <;> first | exact .inl rfl | exact .inr rfl) ?_
      simp only [pastR, List.map_append, List.map_set]
      rw [← hq2]
      rfl
    -- a gift
    refine tand_mk (fun K q => q) (fun _ K q => q) ⟨fun hk => ?_, fun _ => ?_⟩
    · simp only [Bool.and_eq_true, decide_eq_true_eq, List.length_map] at hk
      refine dr (rest := pastR ps gs ns) ok3 (by omega) (by omega) (fits10 (by omega)) fun pe g4 a4 b4 ok4 => ?_
      rw [List.length_map] at b4
      obtain ⟨q1, rfl⟩ : ∃ q1 : Nat, pe = (q1 : Int) := ⟨pe.toNat, by omega⟩
      have hq1 : q1 < ns.length := by omega
      refine nmb (rest := pastR ps gs ns) ok4 (by omega) z0 z1 fun y g5 hy ok5 => ⟨.int (ns.getD q1 0), atI_mapD hq1, q1, ixN_nat (by rw [List.length_map]; exact hq1), trivial, sz1 lps, ?_⟩
      refine done g5 (ps ++ [.gift q1 y]) gs (ns.set q1 (ns.getD q1 0 + y)) t _ _ (ok5.up (by omega) (by omega)) (hP.gift y q1 hq1 hy) (by simp; omega) (by refine ⟨?_, ?_, ?_, ?_, ?_, ?_, ?_, ?_, ?_, ?_, ?_, ?_, ?_, ?_, ?_, ?_, trivial⟩ <;> first | exact .inl rfl | exact .inr rfl) ?_
      simp only [pastR, List.map_append, List.map_set]
      rfl
    -- a telling
    refine ⟨fun hk => ?_, fun _ => ?_⟩
    · simp only [decide_eq_true_eq] at hk
      refine rwd (n := (ns.map PyData.int).length) (rest := pastR ps gs ns) ok3 (by omega) (by omega) fun row g4 hl2 hrow ok4 => ⟨trivial, ?_⟩
      rw [List.length_map] at hl2 ok4
      refine ⟨by omega, by omega, by rw [rgU_map, List.length_map, List.length_range]; exact small64 (by omega), ?_⟩
      rw [rgU_map]
      refine lc_map (List.range ((ns.map PyData.int).length : Int).toNat) _ (fun k => .d (.int (row.getD k 0 * ns.getD k 0))) trivial (fun k hk => ⟨_, rfl, fun K q => ?_⟩) (ofd_T _ ⟨(List.range ns.length).map fun k => row.getD k 0 * ns.getD k 0, ?_, sz1 lps, ?_⟩)
      · have hk := List.mem_range.mp hk
        have hkn : k < ns.length := by rw [List.length_map] at hk; omega
        have hkr : k < row.length := by omega
        have hb := hrow _ (getD_mem (d := 0) hkr)
        exact ⟨.int (row.getD k 0), atI_mapD hkr, .int (ns.getD k 0), atI_mapD hkn, .inr (.inl (by omega)), q⟩
      · rw [List.map_map, List.length_map, Int.toNat_natCast]
        rfl
      · refine done g4 (ps ++ [.tell row (dotI row ns ns.length)]) gs ns (t + 1) _ _ (ok4.up (by omega) (by omega)) (hP.tell row hl2 hrow (by omega)) (by simp; omega) (by refine ⟨?_, ?_, ?_, ?_, ?_, ?_, ?_, ?_, ?_, ?_, ?_, ?_, ?_, ?_, ?_, ?_, trivial⟩ <;> first | exact .inl rfl | exact .inr rfl) ?_
        simp only [pastR, List.map_append]
        rfl
    · exact done g3 ps gs ns t _ _ (ok3.up (by omega) (by omega)) hP (by omega) (by refine ⟨?_, ?_, ?_, ?_, ?_, ?_, ?_, ?_, ?_, ?_, ?_, ?_, ?_, ?_, ?_, ?_, trivial⟩ <;> first | exact .inl rfl | exact .inr rfl) rfl
  · rw [List.length_range] at hl ok
    exact gc_keep (q s.ps s.gs s.ns s.t s.g hP (by omega) (ok.up (by omega) (by omega)))
theorem fx__law_past {P : Program} {w : World} {K : PySem.W.Frag} {mg : Str → Option Value} {base : Heap} (B : Bt mg) (a : At K mg "_law_past" s__law_past) (G__law_draw : Fx P w K mg base 2 "_law_draw" s__law_draw p__law_draw (Wof sp__law_draw)) (G__law_number : Fx P w K mg base 2 "_law_number" s__law_number p__law_number (Wof sp__law_number)) (G__law_row : Fx P w K mg base 2 "_law_row" s__law_row p__law_row (Wof sp__law_row)) : Fx P w K mg base 3 "_law_past" s__law_past p__law_past (Wof sp__law_past) :=
  fx_vc (sem := sem__law_past) a sc__law_past len__law_past (fun _ _ _ _ _ _ us hl => match us, hl with | [_, _], _ => rfl) (fun f cd A fr s G Z hg hr =>
 (vb_set 2 sc__law_past.nd (ve_ix (ve_lst (va_cons ve_int (va_cons ve_int (va_cons (ve_pow ve_int ve_int) (va_cons (ve_pow (ve_pow ve_int ve_int) ve_int) va_nil))))) (ve_call G__law_draw (by exact hg) (by exact hr.mono (by decide)) (va_cons (ve_var 0) (va_cons ve_int va_nil))))
  (vb_asg (ve_tup (va_cons (ve_lstC va_nil) (va_cons (ve_lstC va_nil) (va_cons (ve_lstC va_nil) (va_cons ve_int va_nil))))) (vg_tup rfl (vgs_cons (vg_name 4 sc__law_past.nd) (vgs_cons (vg_name 5 sc__law_past.nd) (vgs_cons (vg_name 6 sc__law_past.nd) (vgs_cons (vg_name 7 sc__law_past.nd) vgs_nil)))))
  (vb_for rfl PassesOwn.never (vi_range B.range (ve_call G__law_draw (by exact hg) (by exact hr.mono (by decide)) (va_cons (ve_var 0) (va_cons (ve_add (ve_var 1) ve_int) va_nil)))) (vg_name 3 sc__law_past.nd)
  (vb_set 8 sc__law_past.nd (ve_call G__law_draw (by exact hg) (by exact hr.mono (by decide)) (va_cons (ve_var 0) (va_cons ve_int va_nil)))
  (vb_set 9 sc__law_past.nd (ve_len B.len (ve_var 6))
  (vb_ifC (vt_w (vw_or (vt_gt (ve_len B.len (ve_var 5)) ve_int) (vw_or1 (vt_w (vw_and (vt_lt (ve_var 8) ve_int) (vw_and (vt_gt (ve_var 8) ve_int) (vw_and1 (vt_lt (ve_var 9) ve_int))))))))
  (vb_set 8 sc__law_past.nd ve_int
  vb_nil)
  vb_nil
  (vb_ifC (vt_w (vw_and (vt_gt (ve_var 7) ve_int) (vw_and1 (vt_w (vw_or (vt_gt (ve_var 8) ve_int) (vw_or1 (vt_gt (ve_len B.len (ve_var 5)) ve_int)))))))
  (vb_set 8 sc__law_past.nd ve_int
  vb_nil)
  vb_nil
  (vb_if (vt_w (vw_and (vt_lt (ve_var 8) ve_int) (vw_and1 (vt_lt (ve_var 9) ve_int))))
  (vb_exp (ve_app (ve_var 5) (ve_call G__law_number (by exact hg) (by exact hr.mono (by decide)) (va_cons (ve_var 0) (va_cons (ve_var 2) va_nil))))
  (vb_exp (ve_app (ve_var 6) (ve_ix (ve_var 5) (ve_neg ve_int)))
  (vb_exp (ve_app (ve_var 4) (ve_tup (va_cons ve_str va_nil)))
  vb_nil)))
  (vb_if (vt_w (vw_and (vt_lt (ve_var 8) ve_int) (vw_and (vt_gt (ve_var 8) ve_int) (vw_and1 (vt_gt (ve_var 9) ve_int)))))
  (vb_set 10 sc__law_past.nd (ve_call G__law_draw (by exact hg) (by exact hr.mono (by decide)) (va_cons (ve_var 0) (va_cons (ve_var 9) va_nil)))
  (vb_exp (ve_app (ve_var 5) (ve_call G__law_number (by exact hg) (by exact hr.mono (by decide)) (va_cons (ve_var 0) (va_cons (ve_var 2) va_nil))))
  (vb_sto (ve_add (ve_ix (ve_var 6) (ve_var 10)) (ve_ix (ve_var 5) (ve_neg ve_int))) (ve_var 6) (ve_var 10)
  (vb_exp (ve_app (ve_var 4) (ve_tup (va_cons ve_str (va_cons (ve_var 10) va_nil))))
  vb_nil))))
  (vb_if (vt_w (vw_and (vt_eq (k := 0) (by exact hr.mono (by decide)) (ve_var 8) ve_int) (vw_and1 (vt_gt (ve_var 9) ve_int))))
  (vb_set 11 sc__law_past.nd (ve_call G__law_draw (by exact hg) (by exact hr.mono (by decide)) (va_cons (ve_var 0) (va_cons (ve_var 9) va_nil)))
  (vb_set 12 sc__law_past.nd (ve_mod (ve_add (ve_add (ve_var 11) ve_int) (ve_call G__law_draw (by exact hg) (by exact hr.mono (by decide)) (va_cons (ve_var 0) (va_cons (ve_sub (ve_var 9) ve_int) va_nil)))) (ve_var 9))
  (vb_exp (ve_app (ve_var 5) (ve_call G__law_number (by exact hg) (by exact hr.mono (by decide)) (va_cons (ve_var 0) (va_cons (ve_var 2) va_nil))))
  (vb_sto (ve_sub (ve_ix (ve_var 6) (ve_var 11)) (ve_ix (ve_var 5) (ve_neg ve_int))) (ve_var 6) (ve_var 11)
  (vb_sto (ve_add (ve_ix (ve_var 6) (ve_var 12)) (ve_ix (ve_var 5) (ve_neg ve_int))) (ve_var 6) (ve_var 12)
  (vb_exp (ve_app (ve_var 4) (ve_tup (va_cons ve_str (va_cons (ve_var 11) (va_cons (ve_var 12) va_nil)))))
  vb_nil))))))
  (vb_if (vt_w (vw_and (vt_eq (k := 0) (by exact hr.mono (by decide)) (ve_var 8) ve_int) (vw_and1 (vt_gt (ve_var 9) ve_int))))
  (vb_set 10 sc__law_past.nd (ve_call G__law_draw (by exact hg) (by exact hr.mono (by decide)) (va_cons (ve_var 0) (va_cons (ve_var 9) va_nil)))
  (vb_set 13 sc__law_past.nd (ve_call G__law_number (by exact hg) (by exact hr.mono (by decide)) (va_cons (ve_var 0) (va_cons (ve_var 2) va_nil)))
  (vb_sto (ve_add (ve_ix (ve_var 6) (ve_var 10)) (ve_var 13)) (ve_var 6) (ve_var 10)
  (vb_exp (ve_app (ve_var 4) (ve_tup (va_cons ve_str (va_cons (ve_var 10) (va_cons (ve_var 13) va_nil)))))
  vb_nil))))
  (vb_if (vt_lt (ve_var 7) ve_int)
  (vb_set 7 sc__law_past.nd (ve_add (ve_var 7) ve_int)
  (vb_set 14 sc__law_past.nd (ve_call G__law_row (by exact hg) (by exact hr.mono (by decide)) (va_cons (ve_var 0) (va_cons (ve_var 9) va_nil)))
  (vb_exp (ve_app (ve_var 4) (ve_tup (va_cons ve_str (va_cons (ve_var 14) (va_cons (ve_sum rfl B.sum (ve_lc' fin_d rfl sc__law_past.nd (own := [("_law_k", 15)]) (t := (.nm 15)) (blkOk_by (N := n__law_past) (sc := defScope s__law_past) (by decide +kernel)) (fun _ _ _ _ _ => (pg_name (i := 15) sc__law_past.nd rfl (by first | exact Or.inl rfl | exact Or.inr rfl))) (vi_range B.range (ve_var 9)) (fun _ _ _ _ _ => (ve_mul (ve_ix (ve_var 14) (ve_var 15)) (ve_ix (ve_var 6) (ve_var 15)))) (by decide) (by intro _; rfl))) va_nil)))))
  vb_nil)))
  vb_nil
  vb_nil)
  vb_nil)
  vb_nil)
  vb_nil)
  vb_nil)))))
  (vb_ret (ve_fz (ve_tup (va_cons (ve_var 4) (va_cons (ve_var 5) va_nil))))))))) vc__law_past
end K03
namespace K03
open PySem PySem.Spec PyProof.Rows L2 Hq Vq
/-! ### Forms -/
class Forms_at where
  C : Addr
abbrev nm_Forms : List Str := ["size", "at", "rows", "gifts"]
structure Fm where
  size : Nat
  at_ : Nat
  rows : List (List Int)
  gifts : List Int
abbrev intsO (xs : List Int) : Ob := .ld (xs.map PyData.int)
def rowsOb (n : Nat) : Ob := mkOb ((List.range n).map fun (i : Nat) => U.c (i + 3))
def formO [Forms_at] (F : Fm) : Ob := .ins Forms_at.C nm_Forms [.d (.int (F.size : Int)), .d (.int (F.at_ : Int)), .c 1, .c 2]
def formH [Forms_at] (F : Fm) : Hq := formO F :: rowsOb F.rows.length :: intsO F.gifts :: F.rows.map intsO
/-- row p changed at the place that is next -/
def Fm.add (F : Fm) (p : Nat) (n : Int) : Fm := { F with rows := F.rows.set p ((F.rows.getD p []).set F.at_ ((F.rows.getD p []).getD F.at_ 0 + n)) }
def Fm.next (F : Fm) : Fm := { F with at_ := F.at_ + 1 }
def Fm.take (F : Fm) : Deed → Fm
  | .come => Fm.next { F with rows := F.rows ++ [(List.replicate F.size 0).set F.at_ 1], gifts := F.gifts ++ [0] }
  | .stir p => (F.add p.toNat 1).next
  | .pay a b => ((F.add a.toNat (-1)).add b.toNat 1).next
  | .gift p n => { F with gifts := F.gifts.set p.toNat (F.gifts.getD p.toNat 0 + n) }
  | .tell _ _ => F
structure Fm.Ok (F : Fm) : Prop where
  g : F.gifts.length = F.rows.length
  r : ∀ x ∈ F.rows, x.length = F.size
  n : F.rows.length ≤ 1000
  s : F.size ≤ 1000
  a : F.at_ ≤ F.size
def Fm.Fit (F : Fm) : Deed → Prop
  | .come => F.at_ < F.size ∧ F.rows.length < 1000
  | .stir p => F.at_ < F.size ∧ 0 ≤ p ∧ p < F.rows.length
  | .pay a b => F.at_ < F.size ∧ 0 ≤ a ∧ a < F.rows.length ∧ 0 ≤ b ∧ b < F.rows.length
  | .gift p _ => 0 ≤ p ∧ p < F.rows.length
  | .tell _ _ => True
def sp_Forms___init__ [Forms_at] : Fs := fun us h Q => ∃ n : Nat, us = [.c 0, .d (.int (n : Int))] ∧ h = [.ins Forms_at.C nm_Forms []] ∧ n ≤ 1000 ∧ Q (.d .none) (formH ⟨n, 0, [], []⟩)
def sp_Forms_take [Forms_at] : Fs := fun us h Q => ∃ (F : Fm) (d : Deed), us = [.c 0, .d (td d)] ∧ h = formH F ∧ F.Ok ∧ F.Fit d ∧ Q (.d .none) (formH (F.take d))
theorem len_Forms___init__ [Forms_at] : ∀ us h Q, sp_Forms___init__ us h Q → us.length = p_Forms___init__.length := fun _ _ _ ⟨_, e, _⟩ => by rw [e]; rfl
theorem len_Forms_take [Forms_at] : ∀ us h Q, sp_Forms_take us h Q → us.length = p_Forms_take.length := fun _ _ _ ⟨_, _, e, _⟩ => by rw [e]; rfl
def sem_Forms___init__ [Forms_at] : SB :=
 (sFldS Forms_at.C nm_Forms 0 (sVar 1) (sVar 0)
  (sFldS Forms_at.C nm_Forms 1 (sK (.int 0)) (sVar 0)
  (sFldS Forms_at.C nm_Forms 2 (sLstC []) (sVar 0)
  (sFldS Forms_at.C nm_Forms 3 (sLstC []) (sVar 0)
  sNil))))
def sem_Forms_take [Forms_at] : SB :=
 (sStar 2 3 (sVar 1)
  (sIfS (tCmp cEq (sVar 2) (sK (.str "gift")))
  (sAugIx (fun i j => i + j) (sFldU Forms_at.C nm_Forms 3 (sVar 0)) (sBin oIx (sVar 3) (sK (.int 0))) (sBin oIx (sVar 3) (sK (.int 1)))
  sRetN)
  sNil
  (sIfS (tCmp cEq (sVar 2) (sK (.str "tell")))
  sRetN
  sNil
  (sIfC (tCmp cEq (sVar 2) (sK (.str "come")))
  (sExp (sApp (sFldU Forms_at.C nm_Forms 2 (sVar 0)) (sBin oRepC (sLst [(sK (.int 0))]) (sFldU Forms_at.C nm_Forms 0 (sVar 0))))
  (sExp (sApp (sFldU Forms_at.C nm_Forms 3 (sVar 0)) (sK (.int 0)))
  (sSto (sK (.int 1)) (sBin oIx (sFldU Forms_at.C nm_Forms 2 (sVar 0)) (sUn (fun i => -i) (sK (.int 1)))) (sFldU Forms_at.C nm_Forms 1 (sVar 0))
  sNil)))
  (sIfS (tCmp cEq (sVar 2) (sK (.str "stir")))
  (sAugIx (fun i j => i + j) (sBin oIx (sFldU Forms_at.C nm_Forms 2 (sVar 0)) (sBin oIx (sVar 3) (sK (.int 0)))) (sFldU Forms_at.C nm_Forms 1 (sVar 0)) (sK (.int 1))
  sNil)
  (sAugIx (fun i j => i - j) (sBin oIx (sFldU Forms_at.C nm_Forms 2 (sVar 0)) (sBin oIx (sVar 3) (sK (.int 0)))) (sFldU Forms_at.C nm_Forms 1 (sVar 0)) (sK (.int 1))
  (sAugIx (fun i j => i + j) (sBin oIx (sFldU Forms_at.C nm_Forms 2 (sVar 0)) (sBin oIx (sVar 3) (sK (.int 1)))) (sFldU Forms_at.C nm_Forms 1 (sVar 0)) (sK (.int 1))
  sNil))
  sNil)
  (sFldA Forms_at.C nm_Forms (fun i j => i + j) 1 (sVar 0) (sK (.int 1))
  sNil)))))
theorem rowsOb_succ (n : Nat) : rowsOb (n + 1) = .ls ((List.range (n + 1)).map fun (i : Nat) => U.c (i + 3)) := by
  unfold rowsOb mkOb
  rw [List.range_succ_eq_map, List.map_cons]
  rfl
theorem rows_els {h : Hq} {n : Nat} (e : h[1]? = some (rowsOb n)) : els h (.c 1) = some ((List.range n).map fun (i : Nat) => U.c (i + 3)) := by
  cases n with
  | zero => simp only [els, e]; rfl
  | succ n => rw [rowsOb_succ] at e; simp only [els, e]
theorem rows_lst {h : Hq} {n : Nat} (e : h[1]? = some (rowsOb n)) : isLst (.c 1) h := by
  cases n with
  | zero => unfold isLst; simp only [e]; trivial
  | succ n => rw [rowsOb_succ] at e; unfold isLst; simp only [e]
theorem rows_add {h : Hq} {n : Nat} {Q : Hq → Prop} (e : h[1]? = some (rowsOb n)) (l : n ≤ 1000) (q : Q (h.set 1 (rowsOb (n + 1)))) : oAdd' (.c 1) (.c (n + 3)) h Q := by
  have e2 : (List.range n).map (fun (i : Nat) => U.c (i + 3)) ++ [.c (n + 3)] = (List.range (n + 1)).map fun (i : Nat) => U.c (i + 3) := by rw [List.range_succ, List.map_append]; rfl
  rw [rowsOb_succ, ← e2] at q
  cases n with
  | zero =>
    have e : h[1]? = some (.ld []) := e
    unfold oAdd'
    simp only [e]
    exact ⟨sz1 (by decide), q⟩
  | succ n =>
    rw [rowsOb_succ] at e
    unfold oAdd'
    simp only [e]
    exact ⟨sz1 (by rw [List.length_map, List.length_range]; exact l), q⟩
theorem rows_ix {h : Hq} {n p : Nat} {i : Int} {Q : U → Hq → Prop} (e : h[1]? = some (rowsOb n)) (hp : ixN n i = some p) (l : p < n) (q : Q (.c (p + 3)) h) : oIx (.c 1) (.d (.int i)) h Q := by
  cases n with
  | zero => omega
  | succ n =>
    rw [rowsOb_succ] at e
    unfold oIx
    simp only [e]
    refine ⟨.c (p + 3), ?_, q⟩
    unfold atI
    rw [List.length_map, List.length_range, hp]
    simp [l]
theorem set_row {h : Hq} {k a : Nat} {row : List Int} {x : Int} {Q : Hq → Prop} (e : h[k]? = some (intsO row)) (ha : a < row.length) (q : Q (h.set k (intsO (row.set a x)))) : oSet' (.c k) (a : Int) (.d (.int x)) h Q := by
  unfold oSet'
  simp only [e]
  refine ⟨a, ixN_nat (by rw [List.length_map]; exact ha), ?_⟩
  rw [intsO, List.map_set] at q
  exact q
theorem els_row {h : Hq} {k : Nat} {row : List Int} (e : h[k]? = some (intsO row)) : els h (.c k) = some (row.map fun x => U.d (.int x)) := by
  simp only [els, e, List.map_map]
  rfl
theorem aug_row {g : Int → Int → Int} {O I E : SE} {R : SB} {us : List U} {h : Hq} {D : Pq} {k a : Nat} {row : List Int} {m : Int} (hO : ∀ K : U → Hq → Prop, K (.c k) h → O us h K) (hI : ∀ K : U → Hq → Prop, K (.d (.int (a : Int))) h → I us h K) (hE : ∀ K : U → Hq → Prop, K (.d (.int m)) h → E us h K)
    (e : h[k]? = some (intsO row)) (ha : a < row.length) (q : R us (h.set k (intsO (row.set a (g (row.getD a 0) m)))) D) : sAugIx g O I E R us h D :=
  hO _ (hI _ ⟨_, row.getD a 0, els_row e, atI_mapD (f := fun x => U.d (.int x)) ha, hE _ (set_row e ha q)⟩)
theorem sto_row {E O I : SE} {R : SB} {us : List U} {h : Hq} {D : Pq} {k a : Nat} {row : List Int} {x : Int} (hE : ∀ K : U → Hq → Prop, K (.d (.int x)) h → E us h K) (hO : ∀ K : U → Hq → Prop, K (.c k) h → O us h K) (hI : ∀ K : U → Hq → Prop, K (.d (.int (a : Int))) h → I us h K)
    (e : h[k]? = some (intsO row)) (ha : a < row.length) (q : R us (h.set k (intsO (row.set a x))) D) : sSto E O I R us h D := hE _ (hO _ (hI _ (set_row e ha q)))
theorem form_len [Forms_at] (F : Fm) : (formH F).length = F.rows.length + 3 := by simp [formH]
theorem form_flat [Forms_at] (F : Fm) : ∀ o ∈ formH F, flatO (formH F).length o := by
  rw [form_len]
  intro o ho
  rcases List.mem_cons.mp ho with rfl | ho
  · intro u hu
    rcases List.mem_cons.mp hu with rfl | hu
    · trivial
    rcases List.mem_cons.mp hu with rfl | hu
    · trivial
    rcases List.mem_cons.mp hu with rfl | hu
    · show 1 < _; omega
    rw [List.mem_singleton.mp hu]
    show 2 < _; omega
  rcases List.mem_cons.mp ho with rfl | ho
  · cases hn : F.rows.length with
    | zero => exact trivial
    | succ n =>
      rw [rowsOb_succ]
      intro u hu
      obtain ⟨i, hi, rfl⟩ := List.mem_map.mp hu
      have := List.mem_range.mp hi
      show i + 3 < n + 1 + 3
      omega
  rcases List.mem_cons.mp ho with rfl | ho
  · trivial
  · obtain ⟨r, _, rfl⟩ := List.mem_map.mp ho
    trivial
theorem form_row [Forms_at] {F : Fm} {p : Nat} (h : p < F.rows.length) : (formH F)[p + 3]? = some (intsO (F.rows.getD p [])) := by
  show (F.rows.map intsO)[p]? = _
  rw [List.getElem?_map, List.getD_eq_getElem?_getD, show F.rows[p]? = some F.rows[p] by simp [h]]
  rfl
theorem form_set [Forms_at] {F : Fm} {p : Nat} {r : List Int} : (formH F).set (p + 3) (intsO r) = formH { F with rows := F.rows.set p r } := by
  show formO F :: rowsOb F.rows.length :: intsO F.gifts :: (F.rows.map intsO).set p (intsO r) = formO F :: rowsOb (F.rows.set p r).length :: intsO F.gifts :: (F.rows.set p r).map intsO
  rw [List.length_set, List.map_set]
theorem row_len {F : Fm} (ok : F.Ok) {p : Nat} (h : p < F.rows.length) : (F.rows.getD p []).length = F.size := ok.r _ (getD_mem h)
theorem add_ok {F : Fm} (ok : F.Ok) {p : Nat} {n : Int} (h : p < F.rows.length) : (F.add p n).Ok := by
  refine ⟨by show _ = (F.rows.set _ _).length; rw [List.length_set]; exact ok.g, fun x hx => ?_, by show (F.rows.set _ _).length ≤ _; rw [List.length_set]; exact ok.n, ok.s, ok.a⟩
  rcases List.mem_or_eq_of_mem_set hx with hx | rfl
  · exact ok.r x hx
  · rw [List.length_set]; exact row_len ok h
theorem rep_flat (n : Nat) : (List.replicate n [PyData.int 0]).flatten = (List.replicate n (0 : Int)).map PyData.int := by
  induction n with
  | zero => rfl
  | succ n ih => rw [List.replicate_succ, List.flatten_cons, ih, List.replicate_succ]; rfl
theorem set_last {α : Type} {xs : List α} {x y : α} : (xs ++ [x]).set xs.length y = xs ++ [y] := by
  rw [List.set_append_right _ _ (Nat.le_refl _)]; simp
theorem vc_Forms___init__ [Forms_at] : ∀ us h Q, sp_Forms___init__ us h Q → sem_Forms___init__ (us ++ List.replicate (n_Forms___init__.length - p_Forms___init__.length) .no) h (endq h.length Q) := fun us h Q ⟨n, e1, e2, hn, q⟩ => by
  subst e1 e2
  refine ⟨rfl, rfl, Nat.le_refl 0, ⟨rfl, rfl, Nat.le_refl 1, ⟨rfl, rfl, Nat.le_refl 2, ⟨rfl, rfl, Nat.le_refl 3, ?_⟩⟩⟩⟩
  exact gc_all (h' := formH ⟨n, 0, [], []⟩) (by show 1 ≤ 3; decide) trivial (form_flat _) q
theorem vc_Forms_take [Forms_at] : ∀ us h Q, sp_Forms_take us h Q → sem_Forms_take (us ++ List.replicate (n_Forms_take.length - p_Forms_take.length) .no) h (endq h.length Q) := fun us h Q ⟨F, d, e1, e2, ok, ft, q⟩ => by
  subst e1 e2
  have fin : ∀ G : Fm, G.next = F.take d → F.rows.length ≤ G.rows.length → gc (formH F).length Q (.d .none) (formO { G with at_ := G.at_ + 1 } :: rowsOb G.rows.length :: intsO G.gifts :: G.rows.map intsO) := fun G e l => by
    refine gc_all (h' := formH G.next) ?_ trivial (form_flat _) (by rw [e]; exact q)
    rw [form_len, form_len]
    show _ ≤ G.rows.length + 3
    omega
  have at1 : ∀ a : Nat, U.d (.int ((a : Int) + 1)) = .d (.int ((a + 1 : Nat) : Int)) := fun a => by rw [Int.natCast_add]; rfl
  cases d with
  | gift p n =>
    refine ⟨fun _ => ?_, fun hk => absurd hk (by decide)⟩
    obtain ⟨p0, p1⟩ := ft
    obtain ⟨k, rfl⟩ : ∃ k : Nat, p = (k : Int) := ⟨p.toNat, by omega⟩
    have hk : k < F.gifts.length := by rw [ok.g]; omega
    refine aug_row (k := 2) (a := k) (row := F.gifts) (m := n) (fun K q => ⟨rfl, rfl, q⟩) (fun K q => ⟨_, rfl, q⟩) (fun K q => ⟨_, rfl, q⟩) rfl hk ?_
    refine gc_all (h' := formH (F.take (.gift k n))) ?_ trivial (form_flat _) q
    rw [form_len, form_len]
    exact Nat.le_refl _
  | tell row n =>
    refine ⟨fun hk => absurd hk (by decide), fun _ => ⟨fun _ => ?_, fun hk => absurd hk (by decide)⟩⟩
    exact gc_all (Nat.le_refl _) trivial (form_flat _) q
  | come =>
    refine ⟨fun hk => absurd hk (by decide), fun _ => ⟨fun hk => absurd hk (by decide), fun _ => ifC_on ⟨fun _ => ?_, fun hk => absurd hk (by decide)⟩⟩⟩
    obtain ⟨f1, f2⟩ := ft
    have okn := ok.n
    have oks := ok.s
    refine ⟨rfl, rfl, rows_lst rfl, rfl, rfl, by omega, by omega, ?_, ?_⟩
    · show 1 * ((F.size : Int)).toNat ≤ sizeLine
      rw [Int.toNat_natCast, Nat.one_mul]
      exact Nat.le_of_lt (Nat.lt_of_le_of_lt oks (by rw [sizeLine_eq]; decide))
    show oAdd' (.c 1) (.c (formH F).length) (formH F ++ [.ld (List.replicate ((F.size : Int)).toNat [PyData.int 0]).flatten]) _
    rw [form_len, Int.toNat_natCast, rep_flat]
    refine rows_add rfl ok.n ?_
    have hm1 : ixN (F.rows.length + 1) (-1) = some F.rows.length := by
      unfold ixN
      rw [if_neg (by omega), if_pos (by omega)]
      congr 1
      omega
    refine ⟨rfl, rfl, trivial, sz1 (by rw [List.length_map, ok.g]; exact ok.n), ?_⟩
    refine sto_row (x := 1) (k := F.rows.length + 3) (a := F.at_) (row := List.replicate F.size 0) (fun K q => q) (fun K q => ⟨rfl, rfl, rows_ix (i := -1) (n := F.rows.length + 1) (p := F.rows.length) rfl hm1 (Nat.lt_succ_self _) q⟩) (fun K q => ⟨rfl, rfl, q⟩) ?_ (by rw [List.length_replicate]; exact f1) ?_
    · show (F.rows.map intsO ++ [intsO (List.replicate F.size 0)])[F.rows.length]? = _
      rw [List.getElem?_append_right (by rw [List.length_map]; exact Nat.le_refl _)]
      simp
    · refine ⟨rfl, rfl, rfl, rfl, (by show 1 ≤ 4; decide), ?_⟩
      have z := fin { F with rows := F.rows ++ [(List.replicate F.size 0).set F.at_ 1], gifts := F.gifts ++ [0] } rfl (by show _ ≤ (F.rows ++ _).length; rw [List.length_append]; omega)
      have e1 : (F.rows.map intsO ++ [intsO (List.replicate F.size 0)]).set F.rows.length (intsO ((List.replicate F.size 0).set F.at_ 1)) = (F.rows ++ [(List.replicate F.size 0).set F.at_ 1]).map intsO := by
        have := set_last (xs := F.rows.map intsO) (x := intsO (List.replicate F.size 0)) (y := intsO ((List.replicate F.size 0).set F.at_ 1))
        rw [List.length_map] at this
        rw [this, List.map_append]; rfl
      have e2 : (F.rows ++ [(List.replicate F.size 0).set F.at_ 1]).length = F.rows.length + 1 := by simp
      have e3 : (F.gifts ++ [(0 : Int)]).map PyData.int = F.gifts.map PyData.int ++ [.int 0] := by simp
      dsimp only at z
      rw [form_len, ← e1, e2, intsO, e3] at z
      exact z
  | stir p =>
    refine ⟨fun hk => absurd hk (by decide), fun _ => ⟨fun hk => absurd hk (by decide), fun _ => ifC_on ⟨fun hk => absurd hk (by decide), fun _ => ⟨fun _ => ?_, fun hk => absurd hk (by decide)⟩⟩⟩⟩
    obtain ⟨f1, p0, p1⟩ := ft
    obtain ⟨k, rfl⟩ : ∃ k : Nat, p = (k : Int) := ⟨p.toNat, by omega⟩
    have hk : k < F.rows.length := by omega
    refine aug_row (k := k + 3) (a := F.at_) (row := F.rows.getD k []) (m := 1) (fun K q => ⟨rfl, rfl, _, rfl, rows_ix (n := F.rows.length) rfl (ixN_nat hk) hk q⟩) (fun K q => ⟨rfl, rfl, q⟩) (fun K q => q) (form_row hk) (by rw [row_len ok hk]; exact f1) ?_
    rw [form_set]
    exact ⟨rfl, rfl, rfl, rfl, (by show 1 ≤ 4; decide), fin (F.add k 1) rfl (by show _ ≤ (F.rows.set _ _).length; rw [List.length_set]; exact Nat.le_refl _)⟩
  | pay a b =>
    refine ⟨fun hk => absurd hk (by decide), fun _ => ⟨fun hk => absurd hk (by decide), fun _ => ifC_on ⟨fun hk => absurd hk (by decide), fun _ => ⟨fun hk => absurd hk (by decide), fun _ => ?_⟩⟩⟩⟩
    obtain ⟨f1, a0, a1, b0, b1⟩ := ft
    obtain ⟨i, rfl⟩ : ∃ k : Nat, a = (k : Int) := ⟨a.toNat, by omega⟩
    obtain ⟨j, rfl⟩ : ∃ k : Nat, b = (k : Int) := ⟨b.toNat, by omega⟩
    have hi : i < F.rows.length := by omega
    have hj : j < F.rows.length := by omega
    have ok2 := add_ok (n := -1) ok hi
    have hj2 : j < (F.add i (-1)).rows.length := by show _ < (F.rows.set _ _).length; rw [List.length_set]; exact hj
    refine aug_row (k := i + 3) (a := F.at_) (row := F.rows.getD i []) (m := 1) (fun K q => ⟨rfl, rfl, _, rfl, rows_ix (n := F.rows.length) rfl (ixN_nat hi) hi q⟩) (fun K q => ⟨rfl, rfl, q⟩) (fun K q => q) (form_row hi) (by rw [row_len ok hi]; exact f1) ?_
    rw [form_set]
    refine aug_row (h := formH (F.add i (-1))) (k := j + 3) (a := F.at_) (row := (F.add i (-1)).rows.getD j []) (m := 1) (fun K q => ⟨rfl, rfl, _, rfl, rows_ix (n := (F.add i (-1)).rows.length) rfl (ixN_nat hj2) hj2 q⟩) (fun K q => ⟨rfl, rfl, q⟩) (fun K q => q) (form_row hj2) (by rw [row_len ok2 hj2]; exact f1) ?_
    rw [form_set]
    exact ⟨rfl, rfl, rfl, rfl, (by show 1 ≤ 4; decide), fin ((F.add i (-1)).add j 1) rfl (by show _ ≤ ((F.rows.set _ _).set _ _).length; rw [List.length_set, List.length_set]; exact Nat.le_refl _)⟩
theorem fx_Forms___init__ [Forms_at] {P : Program} {w : World} {K : PySem.W.Frag} {mg : Str → Option Value} {base : Heap} (B : Bt mg) (a : AtM K Forms_at.C "__init__" "Forms.__init__" s_Forms___init__) (T_Forms : ClsT K mg "Forms" Forms_at.C nm_Forms) : FxM P w K mg base 1 Forms_at.C "__init__" "Forms.__init__" s_Forms___init__ p_Forms___init__ (Wof sp_Forms___init__) :=
  fxm_vc (sem := sem_Forms___init__) a sc_Forms___init__ len_Forms___init__ (fun _ _ _ _ _ _ us hl => match us, hl with | [_, _], _ => rfl) (fun f cd A fr s G Z hg hr =>
 (vb_fldS 0 T_Forms.cl (T_Forms.no _ (by decide +kernel)) rfl (by decide +kernel) (by decide +kernel) (ve_var 1) (ve_var 0)
  (vb_fldS 1 T_Forms.cl (T_Forms.no _ (by decide +kernel)) rfl (by decide +kernel) (by decide +kernel) ve_int (ve_var 0)
  (vb_fldS 2 T_Forms.cl (T_Forms.no _ (by decide +kernel)) rfl (by decide +kernel) (by decide +kernel) (ve_lstC va_nil) (ve_var 0)
  (vb_fldS 3 T_Forms.cl (T_Forms.no _ (by decide +kernel)) rfl (by decide +kernel) (by decide +kernel) (ve_lstC va_nil) (ve_var 0)
  vb_nil))))) vc_Forms___init__
theorem fx_Forms_take [Forms_at] {P : Program} {w : World} {K : PySem.W.Frag} {mg : Str → Option Value} {base : Heap} (B : Bt mg) (a : AtM K Forms_at.C "take" "Forms.take" s_Forms_take) (T_Forms : ClsT K mg "Forms" Forms_at.C nm_Forms) : FxM P w K mg base 1 Forms_at.C "take" "Forms.take" s_Forms_take p_Forms_take (Wof sp_Forms_take) :=
  fxm_vc (sem := sem_Forms_take) a sc_Forms_take len_Forms_take (fun _ _ _ _ _ _ us hl => match us, hl with | [_, _], _ => rfl) (fun f cd A fr s G Z hg hr =>
 (vb_star 2 3 rfl sc_Forms_take.nd (ve_var 1)
  (vb_if (vt_eq (k := 0) (by exact hr.mono (by decide)) (ve_var 2) ve_str)
  (vb_augIx ip_add (ve_fld 3 T_Forms.cl (T_Forms.no _ (by decide +kernel)) rfl (by decide +kernel) (ve_var 0)) (ve_ix (ve_var 3) ve_int) (ve_ix (ve_var 3) ve_int)
  vb_retN)
  vb_nil
  (vb_if (vt_eq (k := 0) (by exact hr.mono (by decide)) (ve_var 2) ve_str)
  vb_retN
  vb_nil
  (vb_ifC (vt_eq (k := 0) (by exact hr.mono (by decide)) (ve_var 2) ve_str)
  (vb_exp (ve_app (ve_fld 2 T_Forms.cl (T_Forms.no _ (by decide +kernel)) rfl (by decide +kernel) (ve_var 0)) (ve_repC (ve_lst (va_cons ve_int va_nil)) (ve_fld 0 T_Forms.cl (T_Forms.no _ (by decide +kernel)) rfl (by decide +kernel) (ve_var 0))))
  (vb_exp (ve_app (ve_fld 3 T_Forms.cl (T_Forms.no _ (by decide +kernel)) rfl (by decide +kernel) (ve_var 0)) ve_int)
  (vb_sto ve_int (ve_ix (ve_fld 2 T_Forms.cl (T_Forms.no _ (by decide +kernel)) rfl (by decide +kernel) (ve_var 0)) (ve_neg ve_int)) (ve_fld 1 T_Forms.cl (T_Forms.no _ (by decide +kernel)) rfl (by decide +kernel) (ve_var 0))
  vb_nil)))
  (vb_if (vt_eq (k := 0) (by exact hr.mono (by decide)) (ve_var 2) ve_str)
  (vb_augIx ip_add (ve_ix (ve_fld 2 T_Forms.cl (T_Forms.no _ (by decide +kernel)) rfl (by decide +kernel) (ve_var 0)) (ve_ix (ve_var 3) ve_int)) (ve_fld 1 T_Forms.cl (T_Forms.no _ (by decide +kernel)) rfl (by decide +kernel) (ve_var 0)) ve_int
  vb_nil)
  (vb_augIx ip_sub (ve_ix (ve_fld 2 T_Forms.cl (T_Forms.no _ (by decide +kernel)) rfl (by decide +kernel) (ve_var 0)) (ve_ix (ve_var 3) ve_int)) (ve_fld 1 T_Forms.cl (T_Forms.no _ (by decide +kernel)) rfl (by decide +kernel) (ve_var 0)) ve_int
  (vb_augIx ip_add (ve_ix (ve_fld 2 T_Forms.cl (T_Forms.no _ (by decide +kernel)) rfl (by decide +kernel) (ve_var 0)) (ve_ix (ve_var 3) ve_int)) (ve_fld 1 T_Forms.cl (T_Forms.no _ (by decide +kernel)) rfl (by decide +kernel) (ve_var 0)) ve_int
  vb_nil))
  vb_nil)
  (vb_fldA 1 ino_add T_Forms.cl (T_Forms.no _ (by decide +kernel)) rfl (by decide +kernel) (by decide +kernel) (ve_var 0) ve_int
  vb_nil)))))) vc_Forms_take
end K03
namespace K03
open PySem PySem.Spec PyProof.Rows L2 Hq Vq
/-! ### Forms.sum_of; how many people, how many unsaid numbers -/
def accF (wish : List Int) (rows : List (List Int)) (size : Nat) : Nat → List Int
  | 0 => List.replicate size 0
  | i + 1 => (List.range size).map fun k => (accF wish rows size i).getD k 0 + wish.getD i 0 * (rows.getD i []).getD k 0
theorem accF_len {wish : List Int} {rows : List (List Int)} {size : Nat} : ∀ i, (accF wish rows size i).length = size
  | 0 => List.length_replicate ..
  | i + 1 => by rw [accF, List.length_map, List.length_range]
def sp_Forms_sum_of [Forms_at] : Fs := fun us h Q => ∃ (F : Fm) (wish : List Int), us = [.c 0, .d (td wish)] ∧ h = formH F ∧ F.Ok ∧ wish.length = F.rows.length ∧ RowOk wish ∧ Q (.t [.c (formH F).length, .d (.int (dotI wish F.gifts F.rows.length))]) (formH F ++ [intsO (accF wish F.rows F.size F.rows.length)])
theorem len_Forms_sum_of [Forms_at] : ∀ us h Q, sp_Forms_sum_of us h Q → us.length = p_Forms_sum_of.length := fun _ _ _ ⟨_, _, e, _⟩ => by rw [e]; rfl
def sem_Forms_sum_of [Forms_at] : SB :=
 (sSet 2 (sBin oRepDC (sLst [(sK (.int 0))]) (sFldU Forms_at.C nm_Forms 0 (sVar 0)))
  (sFor (iZipC (sVar 1) (sFldU Forms_at.C nm_Forms 2 (sVar 0))) (.tp [(.nm 3), (.nm 4)])
  (sSet 2 (sLcDC [5, 6] (iZipC (sVar 2) (sVar 4)) (.tp [(.nm 5), (.nm 6)]) (sBin oAdd (sVar 5) (sBin oMul (sVar 3) (sVar 6))))
  sNil)
  (sRet (sTup [(sVar 2), (sInts (fun ns K => K (.int ns.sum)) (sLc [3, 7] (iZipC (sVar 1) (sFldU Forms_at.C nm_Forms 3 (sVar 0))) (.tp [(.nm 3), (.nm 7)]) (sBin oMul (sVar 3) (sVar 7))))]))))
theorem izipC_mk {S1 S2 : SE} {us : List U} {h : Hq} {Q : List U → Kp → Hq → Prop} {xs : List PyData} {n : Nat} {vs : List U} (h1 : ∀ K : U → Hq → Prop, K (.d (.list xs)) h → S1 us h K) (h2 : ∀ K : U → Hq → Prop, K (.c n) h → S2 us h K) (e : els h (.c n) = some vs) (l : xs.length = vs.length) (q : Q (zpV xs vs) (some (n, vs)) h) : iZipC S1 S2 us h Q :=
  h1 _ (h2 _ (by
    show (match els h (.c n) with
      | some vs => xs.length = vs.length ∧ Q (zpV xs vs) (some (n, vs)) h
      | none => False)
    rw [e]
    exact ⟨l, q⟩))
theorem sVar_mk {i : Nat} {us : List U} {u : U} {h : Hq} {Q : U → Hq → Prop} (e : us[i]? = some u) (n : okU u = true) (q : Q u h) : sVar i us h Q := by
  unfold sVar
  rw [e]
  cases u <;> first | exact q | cases n
theorem sLen_mk {S : SE} {us : List U} {h : Hq} {Q : U → Hq → Prop} {u : U} {n : Nat} (hS : ∀ K : U → Hq → Prop, K u h → S us h K) (e : lenU h u = some n) (q : Q (.d (.int (n : Int))) h) : sLen S us h Q := hS _ (by
  show (match lenU h u with
    | some n => Q (.d (.int (n : Int))) h
    | none => False)
  rw [e]
  exact q)
theorem sz1e {n : Nat} (h : n ≤ 1000) : n ≤ sizeLine := Nat.le_of_lt (Nat.lt_of_le_of_lt h (by rw [sizeLine_eq]; decide))
theorem mapD {α β : Type} {f : α → β} {xs : List α} {i : Nat} {d : α} {e : β} (h : i < xs.length) : (xs.map f).getD i e = f (xs.getD i d) := by
  rw [List.getD_eq_getElem?_getD, List.getD_eq_getElem?_getD, List.getElem?_map, show xs[i]? = some xs[i] by simp [h]]; rfl
theorem rgD {β : Type} {f : Nat → β} {n i : Nat} {e : β} (h : i < n) : ((List.range n).map f).getD i e = f i := by
  rw [List.getD_eq_getElem?_getD, List.getElem?_map, List.getElem?_range h]; rfl
theorem form_cl [Forms_at] {n : Nat} (F : Fm) (l : (formH F).length ≤ n) : clH n (formH F) := by
  rw [form_len] at l
  refine clH_of fun o ho => ?_
  rcases List.mem_cons.mp ho with rfl | ho
  · exact ⟨trivial, trivial, by show 1 < n; omega, by show 2 < n; omega, trivial⟩
  rcases List.mem_cons.mp ho with rfl | ho
  · cases hn : F.rows.length with
    | zero => exact trivial
    | succ n =>
      rw [rowsOb_succ]
      refine clUs_of fun u hu => ?_
      obtain ⟨i, hi, rfl⟩ := List.mem_map.mp hu
      have := List.mem_range.mp hi
      simp only [clU]
      omega
  rcases List.mem_cons.mp ho with rfl | ho
  · trivial
  · obtain ⟨r, _, rfl⟩ := List.mem_map.mp ho
    trivial
/-- what the turns leave: data, then a cell -/
def fdU [Forms_at] (F : Fm) : Bool × List Int → U
  | (true, _) => .c (formH F).length
  | (false, xs) => .d (td xs)
def fdH [Forms_at] (F : Fm) : Bool × List Int → Hq
  | (true, xs) => formH F ++ [intsO xs]
  | (false, _) => formH F
theorem vc_Forms_sum_of [Forms_at] : ∀ us h Q, sp_Forms_sum_of us h Q → sem_Forms_sum_of (us ++ List.replicate (n_Forms_sum_of.length - p_Forms_sum_of.length) .no) h (endq h.length Q) := fun us h Q ⟨F, wish, e1, e2, ok, wl, wr, q⟩ => by
  subst e1 e2
  have oks := ok.s
  have okn := ok.n
  have small : ∀ {i : Nat} (y : Int), i < F.rows.length → CMulA (wish.getD i 0) y := fun {i} y hi => by
    have hb := wr _ (getD_mem (d := 0) (show i < wish.length by omega))
    exact .inr (.inl (by omega))
  have main : ∀ s0 : Bool × List Int, s0 = (decide (0 = F.rows.length), List.replicate F.size 0) → (sFor (iZipC (sVar 1) (sFldU Forms_at.C nm_Forms 2 (sVar 0))) (.tp [(.nm 3), (.nm 4)])
  (sSet 2 (sLcDC [5, 6] (iZipC (sVar 2) (sVar 4)) (.tp [(.nm 5), (.nm 6)]) (sBin oAdd (sVar 5) (sBin oMul (sVar 3) (sVar 6))))
  sNil)
  (sRet (sTup [(sVar 2), (sInts (fun ns K => K (.int ns.sum)) (sLc [3, 7] (iZipC (sVar 1) (sFldU Forms_at.C nm_Forms 3 (sVar 0))) (.tp [(.nm 3), (.nm 7)]) (sBin oMul (sVar 3) (sVar 7))))]))) [.c 0, .d (td wish), fdU F s0, .no, .no, .no, .no, .no] (fdH F s0) (endq (formH F).length Q) := fun s0 h0 => by
    have hr : ∀ s : Bool × List Int, (fdH F s)[0]? = some (formO F) ∧ (fdH F s)[1]? = some (rowsOb F.rows.length) ∧ (fdH F s)[2]? = some (intsO F.gifts) := fun s => by
      obtain ⟨b, xs⟩ := s
      cases b <;> exact ⟨rfl, rfl, rfl⟩
    have hf : ∀ (s : Bool × List Int) (K : U → Hq → Prop), K (.c 1) (fdH F s) → ∀ us, us[0]? = some (.c 0) → sFldU Forms_at.C nm_Forms 2 (sVar 0) us (fdH F s) K := fun s K q us e => by
      refine sVar_mk e rfl ?_
      unfold insU
      simp only [(hr s).1]
      exact ⟨rfl, rfl, q⟩
    refine izipC_mk (xs := wish.map PyData.int) (n := 1) (vs := (List.range F.rows.length).map fun (i : Nat) => U.c (i + 3)) (fun K q => q) (fun K q => hf s0 K q _ rfl) (rows_els (hr s0).2.1) (by rw [List.length_map, List.length_map, List.length_range]; exact wl) ?_
    refine for_t (S := Bool × List Int) (List.range (wish.map PyData.int).length) (fun (i : Nat) => U.t [.d ((wish.map PyData.int).getD i .none), ((List.range F.rows.length).map fun (i : Nat) => U.c (i + 3)).getD i .no]) (fun s => [.c 0, .d (td wish), fdU F s, .no, .no, .no, .no, .no]) (fun s => fdH F s) (fun i s => s = (decide (i = F.rows.length), accF wish F.rows F.size i)) s0 rfl (by refine ⟨?_, ?_, ?_, ?_, ?_, ?_, ?_, ?_, trivial⟩ <;> first | exact .inl rfl | exact .inr rfl) rfl h0 (fun i x s hx hs N hN => ?_) (fun s hs => ?_) (fun _ s _ => rows_els (hr s).2.1)
    · have hi : i < F.rows.length := by
        have := (List.getElem?_eq_some_iff.mp hx).1
        rw [List.length_range, List.length_map] at this
        omega
      have hx : x = i := by
        rw [List.getElem?_range (by rw [List.length_map]; omega)] at hx
        exact (Option.some.inj hx).symm
      subst hx
      rw [decide_eq_false (show ¬ x = F.rows.length by omega)] at hs
      subst hs
      rw [mapD (d := 0) (by omega), rgD hi]
      have rl := row_len ok hi
      have al := accF_len (wish := wish) (rows := F.rows) (size := F.size) x
      simp only [asg, asgs, uns]
      show sSet _ _ _ [.c 0, .d (td wish), .d (td (accF wish F.rows F.size x)), .d (.int (wish.getD x 0)), .c (x + 3), .no, .no, .no] (formH F) _
      unfold sSet sLcDC
      refine izipC_mk (xs := (accF wish F.rows F.size x).map PyData.int) (n := x + 3) (vs := (F.rows.getD x []).map fun y => U.d (.int y)) (fun K q => q) (fun K q => q) (els_row (form_row hi)) (by rw [List.length_map, List.length_map, al, rl]) ?_
      have zl : (zpV ((accF wish F.rows F.size x).map PyData.int) ((F.rows.getD x []).map fun y => U.d (.int y))) = (List.range F.size).map fun k => U.t [.d (.int ((accF wish F.rows F.size x).getD k 0)), .d (.int ((F.rows.getD x []).getD k 0))] := by
        unfold zpV
        rw [List.length_map, al]
        refine List.map_congr_left fun k hk => ?_
        have hk := List.mem_range.mp hk
        rw [mapD (d := 0) (by rw [al]; exact hk), mapD (d := 0) (by rw [rl]; exact hk)]
      refine ⟨by rw [zl, List.length_map, List.length_range]; exact sz1e oks, ?_⟩
      rw [zl]
      refine lc_map (List.range F.size) _ (fun k => .d (.int ((accF wish F.rows F.size x).getD k 0 + wish.getD x 0 * (F.rows.getD x []).getD k 0))) (els_row (form_row hi)) (fun k hk => ⟨_, rfl, fun K q => ⟨small _ hi, q⟩⟩) ?_
      have ea : ((List.range F.size).map fun k => U.d (.int ((accF wish F.rows F.size x).getD k 0 + wish.getD x 0 * (F.rows.getD x []).getD k 0))) = ((accF wish F.rows F.size (x + 1)).map PyData.int).map U.d := by
        rw [accF, List.map_map, List.map_map]; rfl
      rw [ea]
      by_cases hl : x + 1 = F.rows.length
      · refine .inr ⟨intsO (accF wish F.rows F.size (x + 1)), rfl, hN (true, accF wish F.rows F.size (x + 1)) _ _ ?_ rfl (by rw [decide_eq_true hl])⟩
        refine ⟨?_, ?_, ?_, ?_, ?_, ?_, ?_, ?_, trivial⟩ <;> first | exact .inl rfl | exact .inr rfl
      · refine .inl ⟨_, rfl, hN (false, accF wish F.rows F.size (x + 1)) _ _ ?_ rfl (by rw [decide_eq_false hl])⟩
        refine ⟨?_, ?_, ?_, ?_, ?_, ?_, ?_, ?_, trivial⟩ <;> first | exact .inl rfl | exact .inr rfl
    · rw [List.length_range, List.length_map, wl, decide_eq_true rfl] at hs
      subst hs
      show sRet _ [.c 0, .d (td wish), .c (formH F).length, .no, .no, .no, .no, .no] (formH F ++ [intsO (accF wish F.rows F.size F.rows.length)]) _
      unfold sRet sTup
      simp only [sArgs]
      refine sVar_mk rfl rfl ?_
      unfold sInts sLc
      refine izipC_mk (xs := wish.map PyData.int) (n := 2) (vs := F.gifts.map fun y => U.d (.int y)) (fun K q => q) (fun K q => ⟨rfl, rfl, q⟩) (els_row rfl) (by rw [List.length_map, List.length_map, ok.g]; exact wl) ?_
      have zl : (zpV (wish.map PyData.int) (F.gifts.map fun y => U.d (.int y))) = (List.range F.rows.length).map fun k => U.t [.d (.int (wish.getD k 0)), .d (.int (F.gifts.getD k 0))] := by
        unfold zpV
        rw [List.length_map, wl]
        refine List.map_congr_left fun k hk => ?_
        have hk := List.mem_range.mp hk
        rw [mapD (d := 0) (by rw [wl]; exact hk), mapD (d := 0) (by rw [ok.g]; exact hk)]
      refine ⟨by rw [zl, List.length_map, List.length_range]; exact sz1e okn, ?_⟩
      rw [zl]
      refine lc_map (List.range F.rows.length) _ (fun k => .d (.int (wish.getD k 0 * F.gifts.getD k 0))) (els_row rfl) (fun k hk => ⟨_, rfl, fun K q => ⟨small _ (List.mem_range.mp hk), q⟩⟩) (ofd_T _ ⟨(List.range F.rows.length).map fun k => wish.getD k 0 * F.gifts.getD k 0, ?_, ?_⟩)
      · show some (List.map _ (List.range F.rows.length)) = _
        rw [List.map_map]; rfl
      · refine gc_cl (h' := formH F ++ [intsO (accF wish F.rows F.size F.rows.length)]) (by rw [List.length_append]; exact Nat.le_add_right ..) ?_ (clH_app (form_cl F (by rw [List.length_append]; exact Nat.le_add_right ..)) ⟨trivial, trivial⟩) q
        exact ⟨by show (formH F).length < (formH F ++ [_]).length; rw [List.length_append]; exact Nat.lt_succ_self _, trivial, trivial⟩
  refine ⟨rfl, rfl, ?_⟩
  have l1 : ([PyData.int 0].length * ((F.size : Int)).toNat) ≤ sizeLine := by
    show 1 * ((F.size : Int)).toNat ≤ sizeLine
    rw [Int.toNat_natCast, Nat.one_mul]
    exact sz1e oks
  have e0 : (List.replicate ((F.size : Int)).toNat [PyData.int 0]).flatten = (List.replicate F.size (0 : Int)).map PyData.int := by
    rw [Int.toNat_natCast, rep_flat]
  by_cases hz : 0 = F.rows.length
  · refine .inr ⟨by omega, by omega, l1, ?_⟩
    rw [e0]
    have := main (true, List.replicate F.size 0) (by rw [decide_eq_true hz])
    exact this
  · refine .inl ⟨by omega, by omega, l1, ?_⟩
    rw [e0]
    have := main (false, List.replicate F.size 0) (by rw [decide_eq_false hz])
    exact this
theorem fx_Forms_sum_of [Forms_at] {P : Program} {w : World} {K : PySem.W.Frag} {mg : Str → Option Value} {base : Heap} (B : Bt mg) (a : AtM K Forms_at.C "sum_of" "Forms.sum_of" s_Forms_sum_of) (T_Forms : ClsT K mg "Forms" Forms_at.C nm_Forms) : FxM P w K mg base 1 Forms_at.C "sum_of" "Forms.sum_of" s_Forms_sum_of p_Forms_sum_of (Wof sp_Forms_sum_of) :=
  fxm_vc (sem := sem_Forms_sum_of) a sc_Forms_sum_of len_Forms_sum_of (fun _ _ _ _ _ _ us hl => match us, hl with | [_, _], _ => rfl) (fun f cd A fr s G Z hg hr =>
 (vb_set 2 sc_Forms_sum_of.nd (ve_repDC (ve_lst (va_cons ve_int va_nil)) (ve_fld 0 T_Forms.cl (T_Forms.no _ (by decide +kernel)) rfl (by decide +kernel) (ve_var 0)))
  (vb_for rfl PassesOwn.never (vi_zipC B.zip (ve_var 1) (ve_fld 2 T_Forms.cl (T_Forms.no _ (by decide +kernel)) rfl (by decide +kernel) (ve_var 0))) (vg_tup rfl (vgs_cons (vg_name 3 sc_Forms_sum_of.nd) (vgs_cons (vg_name 4 sc_Forms_sum_of.nd) vgs_nil)))
  (vb_setLc' 2 fin_dc rfl sc_Forms_sum_of.nd (own := [("one", 5), ("other", 6)]) (t := (.tp [(.nm 5), (.nm 6)])) (blkOk_by (N := n_Forms_sum_of) (sc := defScope s_Forms_sum_of) (by decide +kernel)) (fun _ _ _ _ _ => (pg_tup rfl (pgs_cons (pg_name (i := 5) sc_Forms_sum_of.nd rfl (by first | exact Or.inl rfl | exact Or.inr rfl)) (pgs_cons (pg_name (i := 6) sc_Forms_sum_of.nd rfl (by first | exact Or.inl rfl | exact Or.inr rfl)) pgs_nil)))) (vi_zipC B.zip (ve_var 2) (ve_var 4)) (fun _ _ _ _ _ => (ve_add (ve_var 5) (ve_mul (ve_var 3) (ve_var 6))))
  vb_nil (by decide) (by intro _; rfl) rfl rfl (by exact sw_true rfl rfl rfl (by decide +kernel)))
  (vb_ret (ve_tup (va_cons (ve_var 2) (va_cons (ve_sum rfl B.sum (ve_lc' fin_d rfl sc_Forms_sum_of.nd (own := [("weight", 3), ("gift", 7)]) (t := (.tp [(.nm 3), (.nm 7)])) (blkOk_by (N := n_Forms_sum_of) (sc := defScope s_Forms_sum_of) (by decide +kernel)) (fun _ _ _ _ _ => (pg_tup rfl (pgs_cons (pg_name (i := 3) sc_Forms_sum_of.nd rfl (by first | exact Or.inl rfl | exact Or.inr rfl)) (pgs_cons (pg_name (i := 7) sc_Forms_sum_of.nd rfl (by first | exact Or.inl rfl | exact Or.inr rfl)) pgs_nil)))) (vi_zipC B.zip (ve_var 1) (ve_fld 3 T_Forms.cl (T_Forms.no _ (by decide +kernel)) rfl (by decide +kernel) (ve_var 0))) (fun _ _ _ _ _ => (ve_mul (ve_var 3) (ve_var 7))) (by decide) (by intro _; rfl))) va_nil))))))) vc_Forms_sum_of
/-! ### words of deeds; forms along -/
def Deed.word : Deed → Str
  | .come => "come"
  | .stir _ => "stir"
  | .pay _ _ => "pay"
  | .gift _ _ => "gift"
  | .tell _ _ => "tell"
def Deed.args : Deed → List PyData
  | .come => []
  | .stir p => [.int p]
  | .pay a b => [.int a, .int b]
  | .gift p n => [.int p, .int n]
  | .tell row n => [td row, .int n]
def nCome (ps : List Deed) : Nat := (ps.filter fun d => decide (d.word = ("come" : Str))).length
def hid (ps : List Deed) : Nat := (ps.filter fun d => decide (d.word ∈ ([("come" : Str), "stir", "pay"] : List Str))).length
abbrev dU (d : Deed) : U := .d (.tuple (.str d.word :: d.args))
theorem dU_eq (ps : List Deed) : (ps.map td).map U.d = ps.map dU := by
  rw [List.map_map]
  refine List.map_congr_left fun d _ => ?_
  cases d <;> rfl
theorem atI_z {α : Type} {x : α} {xs : List α} : atI (x :: xs) (0 : Int) = some x := by
  have := atI_getD (d := x) (xs := x :: xs) (i := 0) (Nat.succ_pos _)
  exact this
def fmAt (ps : List Deed) : Nat → Fm
  | 0 => ⟨hid ps, 0, [], []⟩
  | i + 1 => match ps[i]? with
    | some d => (fmAt ps i).take d
    | none => fmAt ps i
/-- the first deeds are such as can be -/
structure Runs (ps : List Deed) (many : Nat) : Prop where
  l : many ≤ ps.length
  n : ps.length ≤ 1000
  ok : ∀ i, i ≤ many → (fmAt ps i).Ok
  fit : ∀ i d, i < many → ps[i]? = some d → (fmAt ps i).Fit d
def rowW (ps : List Deed) (many : Nat) (wish : List Int) : List Int := accF wish (fmAt ps many).rows (fmAt ps many).size (fmAt ps many).rows.length
def gifW (ps : List Deed) (many : Nat) (wish : List Int) : Int := dotI wish (fmAt ps many).gifts (fmAt ps many).rows.length
def outW (ps : List Deed) (many : Nat) (wish : List Int) : PyData := .tuple [td (rowW ps many wish), .int (gifW ps many wish)]
/-! ### unsaid -/
def sp_unsaid : Fs := fun us h Q => ∃ ps : List Deed, us = [.d (td ps)] ∧ h = [] ∧ ps.length ≤ 1000 ∧ Q (.d (.int (hid ps : Int))) []
theorem len_unsaid : ∀ us h Q, sp_unsaid us h Q → us.length = p_unsaid.length := fun _ _ _ ⟨_, e, _⟩ => by rw [e]; rfl
def sem_unsaid : SB :=
 (sRet (sLen (sLcf [1] (iList (sVar 0)) (.nm 1) (tCmp cIn (sBin oIx (sVar 1) (sK (.int 0))) (sTup [(sK (.str "come")), (sK (.str "stir")), (sK (.str "pay"))])) (sVar 1))))
theorem vc_unsaid : ∀ us h Q, sp_unsaid us h Q → sem_unsaid (us ++ List.replicate (n_unsaid.length - p_unsaid.length) .no) h (endq h.length Q) := fun us h Q ⟨ps, e1, e2, hl, q⟩ => by
  subst e1 e2
  refine ⟨by rw [List.length_map, List.length_map]; exact sz1e hl, ?_⟩
  rw [dU_eq]
  refine lcf_map ps dU dU (fun d => decide (d.word ∈ ([("come" : Str), "stir", "pay"] : List Str))) trivial (fun d hd => ⟨_, rfl, fun K q => ⟨.str d.word, atI_z, ([("come" : Str), "stir", "pay"] : List Str), rfl, q⟩, fun _ K q => q⟩) (ofd_T _ ?_)
  show gc 0 Q (.d (.int ((((ps.filter fun d => decide (d.word ∈ ([("come" : Str), "stir", "pay"] : List Str))).map _).length : Nat) : Int))) []
  rw [List.length_map]
  exact gc_keep q
theorem fx_unsaid {P : Program} {w : World} {K : PySem.W.Frag} {mg : Str → Option Value} {base : Heap} (B : Bt mg) (a : At K mg "unsaid" s_unsaid) : Fx P w K mg base 1 "unsaid" s_unsaid p_unsaid (Wof sp_unsaid) :=
  fx_vc (sem := sem_unsaid) a sc_unsaid len_unsaid (fun _ _ _ _ _ _ us hl => match us, hl with | [_], _ => rfl) (fun f cd A fr s G Z hg hr =>
 (vb_ret (ve_len B.len (ve_lcf' fin_d rfl sc_unsaid.nd (own := [("deed", 1)]) (t := (.nm 1)) (blkOk_by (N := n_unsaid) (sc := defScope s_unsaid) (by decide +kernel)) (fun _ _ _ _ _ => (pg_name (i := 1) sc_unsaid.nd rfl (by first | exact Or.inl rfl | exact Or.inr rfl))) (vi_list (ve_var 0)) (fun _ _ _ _ _ => (vt_in (ve_ix (ve_var 1) ve_int) (ve_tup (va_cons ve_str (va_cons ve_str (va_cons ve_str va_nil)))))) (fun _ _ _ _ _ => (ve_var 1)) (by decide) (by intro _; rfl))))) vc_unsaid
end K03
namespace K03
open PySem PySem.Spec PyProof.Rows L2 Hq Vq
/-! ### the drawn histories can be -/
def fmS (n : Nat) (ps : List Deed) : Nat → Fm
  | 0 => ⟨n, 0, [], []⟩
  | i + 1 => match ps[i]? with
    | some d => (fmS n ps i).take d
    | none => fmS n ps i
theorem fmS_at (ps : List Deed) : ∀ i, fmAt ps i = fmS (hid ps) ps i
  | 0 => rfl
  | i + 1 => by
    rw [fmAt, fmS, fmS_at ps i]
    all_goals (cases ps[i]? <;> rfl)
theorem fmS_app {n : Nat} {ps : List Deed} {d : Deed} : ∀ {i : Nat}, i ≤ ps.length → fmS n (ps ++ [d]) i = fmS n ps i
  | 0, _ => rfl
  | i + 1, h => by rw [fmS, fmS, fmS_app (by omega), List.getElem?_append_left (by omega)]
theorem ok_take {F : Fm} {d : Deed} (ok : F.Ok) (ft : F.Fit d) : (F.take d).Ok := by
  cases d with
  | come =>
    refine ⟨by show (F.gifts ++ [0]).length = (F.rows ++ [_]).length; simp [ok.g], fun x hx => ?_, by show (F.rows ++ [_]).length ≤ 1000; have := ft.2; simp; omega, ok.s, ft.1⟩
    rcases List.mem_append.mp (show x ∈ F.rows ++ [(List.replicate F.size (0 : Int)).set F.at_ 1] from hx) with h | h
    · exact ok.r x h
    · rw [List.mem_singleton.mp h, List.length_set, List.length_replicate]; rfl
  | stir p =>
    have z := add_ok (n := 1) ok (p := p.toNat) (by have := ft.2; omega)
    exact ⟨z.g, z.r, z.n, z.s, ft.1⟩
  | pay a b =>
    obtain ⟨f1, a0, a1, b0, b1⟩ := ft
    have z := add_ok (n := 1) (add_ok (n := -1) ok (p := a.toNat) (by omega)) (p := b.toNat) (by show _ < (F.rows.set _ _).length; rw [List.length_set]; omega)
    exact ⟨z.g, z.r, z.n, z.s, f1⟩
  | gift p n => exact ⟨by show (F.gifts.set _ _).length = _; rw [List.length_set]; exact ok.g, ok.r, ok.n, ok.s, ok.a⟩
  | tell row n => exact ok
def isU (d : Deed) : Nat := if decide (d.word ∈ ([("come" : Str), "stir", "pay"] : List Str)) = true then 1 else 0
theorem hid_app (ps : List Deed) (d : Deed) : hid (ps ++ [d]) = hid ps + isU d := by
  unfold hid isU
  rw [List.filter_append, List.length_append]
  by_cases h : decide (d.word ∈ ([("come" : Str), "stir", "pay"] : List Str)) = true
  · rw [if_pos h, List.filter_cons, if_pos h]; rfl
  · rw [if_neg h, List.filter_cons, if_neg h]; rfl
def isC (d : Deed) : Nat := if decide (d.word = ("come" : Str)) = true then 1 else 0
theorem nCome_app (ps : List Deed) (d : Deed) : nCome (ps ++ [d]) = nCome ps + isC d := by
  unfold nCome isC
  rw [List.filter_append, List.length_append]
  by_cases h : decide (d.word = ("come" : Str)) = true
  · rw [if_pos h, List.filter_cons, if_pos h]; rfl
  · rw [if_neg h, List.filter_cons, if_neg h]; rfl
theorem take_at (F : Fm) (d : Deed) : (F.take d).at_ = F.at_ + isU d := by
  cases d with
  | come => show _ = F.at_ + isU .come; rw [show isU .come = 1 by decide +kernel]; rfl
  | stir p => rw [show isU (.stir p) = isU (.stir 0) from rfl, show isU (.stir 0) = 1 by decide +kernel]; rfl
  | pay a b => rw [show isU (.pay a b) = isU (.pay 0 0) from rfl, show isU (.pay 0 0) = 1 by decide +kernel]; rfl
  | gift p n => rw [show isU (.gift p n) = isU (.gift 0 0) from rfl, show isU (.gift 0 0) = 0 by decide +kernel]; rfl
  | tell row n => rw [show isU (.tell row n) = isU (.tell [] 0) from rfl, show isU (.tell [] 0) = 0 by decide +kernel]; rfl
theorem take_rows (F : Fm) (d : Deed) : (F.take d).rows.length = F.rows.length + isC d := by
  cases d with
  | come => rw [show isC .come = 1 by decide +kernel]; show (F.rows ++ [_]).length = _; simp
  | stir p => rw [show isC (.stir p) = isC (.stir 0) from rfl, show isC (.stir 0) = 0 by decide +kernel]; show (F.rows.set _ _).length = _; simp
  | pay a b => rw [show isC (.pay a b) = isC (.pay 0 0) from rfl, show isC (.pay 0 0) = 0 by decide +kernel]; show ((F.rows.set _ _).set _ _).length = _; simp
  | gift p n => rw [show isC (.gift p n) = isC (.gift 0 0) from rfl, show isC (.gift 0 0) = 0 by decide +kernel]; rfl
  | tell row n => rw [show isC (.tell row n) = isC (.tell [] 0) from rfl, show isC (.tell [] 0) = 0 by decide +kernel]; rfl
structure RunS (n : Nat) (ps : List Deed) : Prop where
  ok : ∀ i, i ≤ ps.length → (fmS n ps i).Ok
  fit : ∀ i d, ps[i]? = some d → (fmS n ps i).Fit d
theorem runS_app {n : Nat} {ps : List Deed} {d : Deed} (R : RunS n ps) (ft : (fmS n ps ps.length).Fit d) : RunS n (ps ++ [d]) ∧ fmS n (ps ++ [d]) (ps ++ [d]).length = (fmS n ps ps.length).take d := by
  have last : fmS n (ps ++ [d]) (ps.length + 1) = (fmS n ps ps.length).take d := by
    rw [fmS, fmS_app (Nat.le_refl _)]; simp
  refine ⟨⟨fun i hi => ?_, fun i e he => ?_⟩, by rw [List.length_append]; exact last⟩
  · rw [List.length_append] at hi
    by_cases h : i ≤ ps.length
    · rw [fmS_app h]; exact R.ok i h
    · have : i = ps.length + 1 := by simp at hi; omega
      subst this
      rw [last]
      exact ok_take (R.ok _ (Nat.le_refl _)) ft
  · have hi := (List.getElem?_eq_some_iff.mp he).1
    rw [List.length_append] at hi
    by_cases h : i < ps.length
    · rw [fmS_app (by omega)]
      rw [List.getElem?_append_left h] at he
      exact R.fit i e he
    · have : i = ps.length := by simp at hi; omega
      subst this
      rw [fmS_app (Nat.le_refl _)]
      have : d = e := by simpa using he
      subst this
      exact ft
theorem past_runS {ps : List Deed} {gs ns : List Int} {t : Nat} (h : Past ps gs ns t) : ∀ n, hid ps ≤ n → n ≤ 1000 → RunS n ps ∧ (fmS n ps ps.length).rows.length = ns.length ∧ (fmS n ps ps.length).at_ = hid ps := by
  have step : ∀ {ps : List Deed} {ns ns' : List Int} {d : Deed}, (∀ n, hid ps ≤ n → n ≤ 1000 → RunS n ps ∧ (fmS n ps ps.length).rows.length = ns.length ∧ (fmS n ps ps.length).at_ = hid ps) → ns'.length = ns.length + isC d →
      (∀ F : Fm, F.rows.length = ns.length → isU d + F.at_ ≤ F.size → F.Fit d) → ∀ n, hid (ps ++ [d]) ≤ n → n ≤ 1000 → RunS n (ps ++ [d]) ∧ (fmS n (ps ++ [d]) (ps ++ [d]).length).rows.length = ns'.length ∧ (fmS n (ps ++ [d]) (ps ++ [d]).length).at_ = hid (ps ++ [d]) := fun {ps ns ns' d} ih hl ft n h1 h2 => by
    rw [hid_app] at h1
    obtain ⟨R, r1, r2⟩ := ih n (by omega) h2
    have hsz : (fmS n ps ps.length).size = n := by
      have : ∀ i, (fmS n ps i).size = n := fun i => by
        induction i with
        | zero => rfl
        | succ i ih =>
          rw [fmS]
          split
          · rename_i d _
            cases d <;> exact ih
          · exact ih
      exact this _
    obtain ⟨R2, e⟩ := runS_app R (ft _ r1 (by rw [r2, hsz]; omega))
    exact ⟨R2, by rw [e, take_rows, r1, hl], by rw [e, take_at, r2, hid_app]⟩
  induction h with
  | nil => exact fun n _ h2 => ⟨⟨fun i hi => by
      have : i = 0 := by simpa using hi
      subst this
      exact ⟨rfl, fun _ h => (nomatch h), Nat.zero_le _, h2, Nat.zero_le _⟩, fun i d h => by simp at h⟩, rfl, rfl⟩
  | @come ps gs ns t g hp hn hg ih =>
    refine step ih (by rw [show isC .come = 1 by decide +kernel]; simp) fun F h1 h2 => ?_
    rw [show isU .come = 1 by decide +kernel] at h2
    exact ⟨by omega, by omega⟩
  | @stir ps gs ns t g p hp hn hg ih =>
    refine step ih (by rw [show isC (.stir (p : Int)) = isC (.stir 0) from rfl, show isC (.stir 0) = 0 by decide +kernel]; simp) fun F h1 h2 => ?_
    rw [show isU (.stir (p : Int)) = isU (.stir 0) from rfl, show isU (.stir 0) = 1 by decide +kernel] at h2
    exact ⟨by omega, by omega, by omega⟩
  | @pay ps gs ns t g a b hp ha hb hne hg ih =>
    refine step ih (by rw [show isC (.pay (a : Int) b) = isC (.pay 0 0) from rfl, show isC (.pay 0 0) = 0 by decide +kernel]; simp) fun F h1 h2 => ?_
    rw [show isU (.pay (a : Int) b) = isU (.pay 0 0) from rfl, show isU (.pay 0 0) = 1 by decide +kernel] at h2
    exact ⟨by omega, by omega, by omega, by omega, by omega⟩
  | @gift ps gs ns t g p hp hn hg ih =>
    refine step ih (by rw [show isC (.gift (p : Int) g) = isC (.gift 0 0) from rfl, show isC (.gift 0 0) = 0 by decide +kernel]; simp) fun F h1 h2 => ?_
    exact ⟨by omega, by omega⟩
  | @tell ps gs ns t row hp hl hr ht ih =>
    exact step ih (by rw [show ∀ n, isC (.tell row n) = isC (.tell [] 0) from fun _ => rfl, show isC (.tell [] 0) = 0 by decide +kernel]; simp) fun F h1 h2 => trivial
theorem past_runs {ps : List Deed} {gs ns : List Int} {t many : Nat} (h : Past ps gs ns t) (l : ps.length ≤ 1000) (hm : many ≤ ps.length) : Runs ps many := by
  obtain ⟨R, r1, r2⟩ := past_runS h (hid ps) (Nat.le_refl _) (Nat.le_trans (List.length_filter_le _ _) l)
  exact ⟨hm, l, fun i hi => by rw [fmS_at]; exact R.ok i (by omega), fun i d _ hd => by rw [fmS_at]; exact R.fit i d hd⟩
theorem rows_count (ps : List Deed) : ∀ i, i ≤ ps.length → (fmAt ps i).rows.length = nCome (ps.take i)
  | 0, _ => rfl
  | i + 1, h => by
    have hi : i < ps.length := h
    have ed : ps[i]? = some ps[i] := by simp [hi]
    rw [fmAt, ed, List.take_succ, ed]
    show ((fmAt ps i).take ps[i]).rows.length = nCome (ps.take i ++ [ps[i]])
    rw [take_rows, nCome_app, rows_count ps i (by omega)]
end K03
namespace K03
open PySem PySem.Spec PyProof.Rows L2 Hq Vq
/-! ### weights -/
def sp_weights : Fs := fun us h Q => ∃ (ps : List Deed) (wish : List Int) (m : PyData) (many : Nat), us = [.d (td ps), .d (td wish), .d m] ∧ h = [] ∧ (m = .int (many : Int) ∨ (m = .none ∧ many = ps.length)) ∧ Runs ps many ∧ wish.length = (fmAt ps many).rows.length ∧ RowOk wish ∧ (Q (.d (outW ps many wish)) [] ∨ Q (.t [.c 0, .d (.int (gifW ps many wish))]) [intsO (rowW ps many wish)])
theorem len_weights : ∀ us h Q, sp_weights us h Q → us.length = p_weights.length := fun _ _ _ ⟨_, _, _, _, e, _⟩ => by rw [e]; rfl
def sem_weights [Forms_at] : SB :=
 (sSet 3 (sIf (tCmp cIsN (sVar 2) (sK .none)) (sLen (sVar 0)) (sVar 2))
  (sIfS (tNot (tChn (fun i j => decide (i ≤ j)) (fun i j => decide (i ≤ j)) (sK (.int 0)) (sVar 3) (sLen (sVar 0))))
  (fun _ _ _ => False)
  sNil
  (sSet 4 (sMake Forms_at.C nm_Forms sp_Forms___init__ [(sCall0 sp_unsaid [(sVar 0)])])
  (sFor (iList (sSl (sVar 0) sO0 (sO1 (sVar 3)))) (.nm 5)
  (sExp (sMeth Forms_at.C nm_Forms sp_Forms_take (sVar 4) [(sVar 5)])
  sNil)
  (sIfS (tCmp cNe (sLen (sVar 1)) (sLen (sFldU Forms_at.C nm_Forms 2 (sVar 4))))
  (fun _ _ _ => False)
  sNil
  (sRet (sFzO (sMeth Forms_at.C nm_Forms sp_Forms_sum_of (sVar 4) [(sVar 1)]))))))))
theorem rows_lenU {h : Hq} {n : Nat} (e : h[1]? = some (rowsOb n)) : lenU h (.c 1) = some n := by
  cases n with
  | zero => have e : h[1]? = some (.ld []) := e; unfold lenU; simp only [e]; rfl
  | succ n => rw [rowsOb_succ] at e; unfold lenU; simp only [e]; rw [List.length_map, List.length_range]
theorem form_call [Forms_at] {sp : Fs} {F : Fm} {x : PyData} {Q : U → Hq → Prop} (k : ∀ Q' : U → Hq → Prop, (∀ u h', (formH F).length ≤ h'.length → Q u h' → Q' u h') → sp [.c 0, .d x] (formH F) Q') : ∃ sel : List Nat, sel.Nodup ∧ (∀ n ∈ sel, n < (formH F).length) ∧ callAt sp sel [.c 0, .d x] (formH F) Q :=
  ⟨List.range (formH F).length, List.nodup_range, range_sel, callAt_all (fun u hu => by
    rcases List.mem_cons.mp hu with rfl | hu
    · rw [form_len]; exact Nat.succ_pos _
    · rw [List.mem_singleton.mp hu]; trivial) (form_flat F) k⟩
theorem form_le [Forms_at] {ps : List Deed} {i : Nat} {d : Deed} (F : Fm) : (formH F).length ≤ (formH (F.take d)).length := by
  rw [form_len, form_len]
  have : F.rows.length ≤ (F.take d).rows.length := by
    cases d <;> simp [Fm.take, Fm.next, Fm.add]
  omega
theorem form_at [Forms_at] (F : Fm) (xs : List Int) : (formH F ++ [intsO xs])[(formH F).length]? = some (.ld (xs.map PyData.int)) := by
  rw [List.getElem?_append_right (Nat.le_refl _)]; simp
theorem gc_one {Q : U → Hq → Prop} {n : Nat} {x : PyData} {xs : List PyData} {h' : Hq} (e : h'[n]? = some (.ld xs)) (q : Q (.t [.c 0, .d x]) [.ld xs]) : gc 0 Q (.t [.c n, .d x]) h' := by
  have l := (List.getElem?_eq_some_iff.mp e).1
  have f : fnd (List.range 0 ++ [n]) n = some 0 := by simp [fnd]
  refine ⟨[n], by simp, fun m hm => by rw [List.mem_singleton.mp hm]; exact l, ?_⟩
  unfold gcAt
  simp only [ren, rens, f]
  have p : pick Ob.dead h' (List.range 0 ++ [n]) = [.ld xs] := by
    simp [pick, List.getD_eq_getElem?_getD, e]
  rw [p]
  exact q
theorem fz_one {n : Nat} {x : PyData} {xs : List PyData} {h' : Hq} (e : h'[n]? = some (.ld xs)) : fz 200 (.t [.c n, .d x]) h' = some (.tuple [.list xs, x], h'.set n .dead) := by
  simp only [fz, fzs, e]
theorem vc_weights [Forms_at] : ∀ us h Q, sp_weights us h Q → sem_weights (us ++ List.replicate (n_weights.length - p_weights.length) .no) h (endq h.length Q) := fun us h Q ⟨ps, wish, m, many, e1, e2, hm, rn, wl, wr, q⟩ => by
  subst e1 e2
  have lps : ((ps.map td).length : Int) = (ps.length : Int) := by rw [List.length_map]
  have hl := rn.l
  have hh : hid ps ≤ 1000 := Nat.le_trans (List.length_filter_le _ _) rn.n
  have main : ∀ m : U, (sIfS (tNot (tChn (fun i j => decide (i ≤ j)) (fun i j => decide (i ≤ j)) (sK (.int 0)) (sVar 3) (sLen (sVar 0))))
    (fun _ _ _ => False)
    sNil
    (sSet 4 (sMake Forms_at.C nm_Forms sp_Forms___init__ [(sCall0 sp_unsaid [(sVar 0)])])
    (sFor (iList (sSl (sVar 0) sO0 (sO1 (sVar 3)))) (.nm 5)
    (sExp (sMeth Forms_at.C nm_Forms sp_Forms_take (sVar 4) [(sVar 5)])
    sNil)
    (sIfS (tCmp cNe (sLen (sVar 1)) (sLen (sFldU Forms_at.C nm_Forms 2 (sVar 4))))
    (fun _ _ _ => False)
    sNil
    (sRet (sFzO (sMeth Forms_at.C nm_Forms sp_Forms_sum_of (sVar 4) [(sVar 1)]))))))) [.d (td ps), .d (td wish), m, .d (.int (many : Int)), .no, .no] [] (endq 0 Q) := fun m => by
    refine ⟨fun _ => ⟨fun hk => ?_, fun _ => ?_⟩, fun hk => absurd hk (by simp)⟩
    · simp only [List.length_map] at hk
      have : (many : Int) ≤ (ps.length : Int) := by omega
      simp [this] at hk
    refine ⟨ps, rfl, rfl, rn.n, ⟨[0], by decide, (fun n hn => by rw [List.mem_singleton.mp hn]; exact Nat.succ_pos _), hid ps, rfl, rfl, hh, ⟨rfl, ?_⟩⟩⟩
    have ht : (((cut (ps.map td) none (some (many : Int))).map U.d)) = (ps.take many).map dU := by
      rw [cut_map, cut_to, dU_eq]
    refine for_t (S := Nat) (ps.take many) dU (fun _ => [.d (td ps), .d (td wish), .no, .d (.int (many : Int)), .c 0, .no]) (fun i => formH (fmAt ps i)) (fun i s => s = i) 0 ht (by refine ⟨?_, ?_, ?_, ?_, ?_, ?_, trivial⟩ <;> first | exact .inl rfl | exact .inr rfl) rfl rfl (fun i d s hx hs N hN => ?_) (fun s hs => ?_)
    · subst hs
      have hs : s < many := by
        have := (List.getElem?_eq_some_iff.mp hx).1
        rw [List.length_take] at this
        omega
      have hx : ps[s]? = some d := by rw [List.getElem?_take_of_lt hs] at hx; exact hx
      refine ⟨rfl, rfl, form_call (x := .tuple (.str d.word :: d.args)) fun Q' up => ⟨fmAt ps s, d, by cases d <;> rfl, rfl, rn.ok s (by omega), rn.fit s d hs hx, up _ _ (form_le (ps := ps) (i := s) _) ?_⟩⟩
      refine hN (s + 1) _ _ (by refine ⟨?_, ?_, ?_, ?_, ?_, ?_, trivial⟩ <;> first | exact .inl rfl | exact .inr rfl) ?_ rfl
      show formH ((fmAt ps s).take d) = formH (match ps[s]? with
        | some d => (fmAt ps s).take d
        | none => fmAt ps s)
      rw [hx]
    · rw [List.length_take, Nat.min_eq_left hl] at hs
      subst hs
      unfold sIfS Vq.tCmp
      refine sLen_mk (u := .d (td wish)) (n := wish.length) (fun K q => q) (by show some (wish.map PyData.int).length = _; rw [List.length_map]) ?_
      refine sLen_mk (u := .c 1) (n := (fmAt ps s).rows.length) (fun K q => ⟨rfl, rfl, q⟩) (rows_lenU rfl) ⟨fun hk => ?_, fun _ => ?_⟩
      · rw [wl] at hk
        simp at hk
      · refine ⟨rfl, rfl, form_call fun Q' up => ⟨fmAt ps s, wish, rfl, rfl, rn.ok _ (Nat.le_refl _), wl, wr, up _ _ (by rw [List.length_append]; omega) ?_⟩⟩
        rcases q with q | q
        · exact .inr (by
            rw [fz_one (form_at _ _)]
            exact gc_d q)
        · exact .inl (gc_one (form_at _ _) q)
  rcases hm with rfl | ⟨rfl, rfl⟩
  · exact ⟨fun hk => absurd hk Bool.false_ne_true, fun _ => main _⟩
  · refine ⟨fun _ => ?_, fun hk => absurd hk.symm Bool.false_ne_true⟩
    have := main (.d .none)
    rw [← List.length_map (f := td)] at this
    exact this
theorem fx_weights [Forms_at] {P : Program} {w : World} {K : PySem.W.Frag} {mg : Str → Option Value} {base : Heap} (B : Bt mg) (a : AtN K mg "weights" s_weights ["moment"]) (T_Forms : ClsT K mg "Forms" Forms_at.C nm_Forms) (G_Forms___init__ : FxM P w K mg base 1 Forms_at.C "__init__" "Forms.__init__" s_Forms___init__ p_Forms___init__ (Wof sp_Forms___init__)) (G_Forms_sum_of : FxM P w K mg base 2 Forms_at.C "sum_of" "Forms.sum_of" s_Forms_sum_of p_Forms_sum_of (Wof sp_Forms_sum_of)) (G_unsaid : Fx P w K mg base 2 "unsaid" s_unsaid p_unsaid (Wof sp_unsaid)) (G_Forms_take : FxM P w K mg base 2 Forms_at.C "take" "Forms.take" s_Forms_take p_Forms_take (Wof sp_Forms_take)) : FxN P w K mg base 3 "weights" s_weights p_weights ["moment"] (Wof sp_weights) :=
  fxn_vc (sem := sem_weights) a sc_weights len_weights  (fun f cd A fr s G Z hg hr =>
 (vb_set 3 sc_weights.nd (ve_if (vt_is (ve_var 2) ve_non) (ve_len B.len (ve_var 0)) (ve_var 2))
  (vb_if (vt_not (vt_chn op_le op_le ve_int (ve_var 3) (ve_len B.len (ve_var 0))))
  vb_raise
  vb_nil
  (vb_set 4 sc_weights.nd (ve_make T_Forms.made G_Forms___init__ (by exact hg) (by exact hr.mono (by decide)) T_Forms.glo (va_cons (ve_call0 G_unsaid (by exact hg) (by exact hr.mono (by decide)) (va_cons (ve_var 0) va_nil)) va_nil))
  (vb_for rfl PassesOwn.never (vi_list (ve_sl (ve_var 0) vo_none (vo_some (ve_var 3)))) (vg_name 5 sc_weights.nd)
  (vb_exp (ve_meth G_Forms_take T_Forms.cl (by exact hg) (by exact hr.mono (by decide)) (by decide +kernel) (ve_var 4) (va_cons (ve_var 5) va_nil))
  vb_nil)
  (vb_if (vt_ne (k := 0) (by exact hr.mono (by decide)) (ve_len B.len (ve_var 1)) (ve_len B.len (ve_fld 2 T_Forms.cl (T_Forms.no _ (by decide +kernel)) rfl (by decide +kernel) (ve_var 4))))
  vb_raise
  vb_nil
  (vb_ret (ve_fzO (ve_meth G_Forms_sum_of T_Forms.cl (by exact hg) (by exact hr.mono (by decide)) (by decide +kernel) (ve_var 4) (va_cons (ve_var 1) va_nil)))))))))) vc_weights
end K03
namespace K03
open PySem PySem.Spec PyProof.Rows L2 Hq Vq
/-! ### refusals -/
class NoMoment_at where
  C : Addr
class NoRow_at where
  C : Addr
def rp_weights [NoMoment_at] [NoRow_at] : Fr := fun us E => ∃ (ps : List Deed) (wish : List Int) (m : Int), us = [.d (td ps), .d (td wish), .d (.int m)] ∧ ps.length ≤ 1000 ∧ wish.length ≤ 1000 ∧ (((m < 0 ∨ (ps.length : Int) < m) ∧ E (.ref NoMoment_at.C)) ∨ ∃ many : Nat, m = (many : Int) ∧ Runs ps many ∧ wish.length ≠ (fmAt ps many).rows.length ∧ E (.ref NoRow_at.C))
theorem lenr_weights [NoMoment_at] [NoRow_at] : ∀ us E, rp_weights us E → us.length = p_weights.length := fun _ _ ⟨_, _, _, e, _⟩ => by rw [e]; rfl
def semr_weights [Forms_at] [NoMoment_at] [NoRow_at] : SR :=
 (rApp (sSet 3 (sIf (tCmp cIsN (sVar 2) (sK .none)) (sLen (sVar 0)) (sVar 2))
  sNil)
  (rIf (tNot (tChn (fun i j => decide (i ≤ j)) (fun i j => decide (i ≤ j)) (sK (.int 0)) (sVar 3) (sLen (sVar 0)))) (rRaise NoMoment_at.C)
  (rApp (sSet 4 (sMake Forms_at.C nm_Forms sp_Forms___init__ [(sCall0 sp_unsaid [(sVar 0)])])
  (sFor (iList (sSl (sVar 0) sO0 (sO1 (sVar 3)))) (.nm 5)
  (sExp (sMeth Forms_at.C nm_Forms sp_Forms_take (sVar 4) [(sVar 5)])
  sNil)
  sNil))
  (rIf (tCmp cNe (sLen (sVar 1)) (sLen (sFldU Forms_at.C nm_Forms 2 (sVar 4)))) (rRaise NoRow_at.C)
  (fun _ _ _ => False)))))
theorem vcr_weights [Forms_at] [NoMoment_at] [NoRow_at] : ∀ us E, rp_weights us E → semr_weights (us ++ List.replicate (n_weights.length - p_weights.length) .no) [] fun c _ _ => E c := fun us E ⟨ps, wish, m, e1, hl, hw, q⟩ => by
  subst e1
  refine ⟨fun hk => absurd hk Bool.false_ne_true, fun _ => ?_⟩
  have lps : ((ps.map td).length : Int) = (ps.length : Int) := by rw [List.length_map]
  rcases q with ⟨hm, q⟩ | ⟨many, rfl, rn, wl, q⟩
  · refine ⟨fun h0 => ⟨fun _ => q, fun hk => ?_⟩, fun _ => ⟨fun _ => q, fun hk => nomatch hk⟩⟩
    have h0 : decide ((0 : Int) ≤ m) = true := h0
    have hk : (!decide (m ≤ ((ps.map td).length : Int))) = false := hk
    have h1 := of_decide_eq_true h0
    have h2 : decide (m ≤ ((ps.map td).length : Int)) = true := by simpa using hk
    have h3 := of_decide_eq_true h2
    exact (by omega : False).elim
  · refine ⟨fun _ => ⟨fun hk => ?_, fun _ => ?_⟩, fun hk => absurd hk (by simp)⟩
    · have hk : (!decide ((many : Int) ≤ ((ps.map td).length : Int))) = true := hk
      have h2 : decide ((many : Int) ≤ ((ps.map td).length : Int)) = true := decide_eq_true (by have := rn.l; omega)
      rw [h2] at hk
      cases hk
    · have hh : hid ps ≤ 1000 := Nat.le_trans (List.length_filter_le _ _) rn.n
      have hlm := rn.l
      refine ⟨ps, rfl, rfl, rn.n, ⟨[0], by decide, (fun n hn => by rw [List.mem_singleton.mp hn]; exact Nat.succ_pos _), hid ps, rfl, rfl, hh, ⟨rfl, ?_⟩⟩⟩
      have ht : (((cut (ps.map td) none (some (many : Int))).map U.d)) = (ps.take many).map dU := by
        rw [cut_map, cut_to, dU_eq]
      refine for_t (S := Nat) (ps.take many) dU (fun _ => [.d (td ps), .d (td wish), .d (.int (many : Int)), .d (.int (many : Int)), .c 0, .no]) (fun i => formH (fmAt ps i)) (fun i s => s = i) 0 ht (by refine ⟨?_, ?_, ?_, ?_, ?_, ?_, trivial⟩ <;> first | exact .inl rfl | exact .inr rfl) rfl rfl (fun i d s hx hs N hN => ?_) (fun s hs => ?_)
      · subst hs
        have hs : s < many := by
          have := (List.getElem?_eq_some_iff.mp hx).1
          rw [List.length_take] at this
          omega
        have hx : ps[s]? = some d := by rw [List.getElem?_take_of_lt hs] at hx; exact hx
        refine ⟨rfl, rfl, form_call (x := .tuple (.str d.word :: d.args)) fun Q' up => ⟨fmAt ps s, d, by cases d <;> rfl, rfl, rn.ok s (by omega), rn.fit s d hs hx, up _ _ (form_le (ps := ps) (i := s) _) ?_⟩⟩
        refine hN (s + 1) _ _ (by refine ⟨?_, ?_, ?_, ?_, ?_, ?_, trivial⟩ <;> first | exact .inl rfl | exact .inr rfl) ?_ rfl
        show formH ((fmAt ps s).take d) = formH (match ps[s]? with
          | some d => (fmAt ps s).take d
          | none => fmAt ps s)
        rw [hx]
      · rw [List.length_take, Nat.min_eq_left hlm] at hs
        subst hs
        show rIf (Vq.tCmp cNe (sLen (sVar 1)) (sLen (sFldU Forms_at.C nm_Forms 2 (sVar 4)))) (rRaise NoRow_at.C) (fun _ _ _ => False) [.d (td ps), .d (td wish), .d (.int (s : Int)), .d (.int (s : Int)), .c 0, .no] (formH (fmAt ps s)) (fun c _ _ => E c)
        unfold rIf Vq.tCmp
        refine sLen_mk (u := .d (td wish)) (n := wish.length) (fun K q => q) (by show some (wish.map PyData.int).length = _; rw [List.length_map]) ?_
        refine sLen_mk (u := .c 1) (n := (fmAt ps s).rows.length) (fun K q => ⟨rfl, rfl, q⟩) (rows_lenU rfl) ⟨fun _ => q, fun hk => ?_⟩
        have hk : (!decide ((wish.length : Int) = ((fmAt ps s).rows.length : Int))) = false := hk
        have : decide ((wish.length : Int) = ((fmAt ps s).rows.length : Int)) = false := decide_eq_false (by omega)
        rw [this] at hk
        cases hk
theorem fxr_weights [Forms_at] [NoMoment_at] [NoRow_at] {P : Program} {w : World} {K : PySem.W.Frag} {mg : Str → Option Value} {base : Heap} (B : Bt mg) (a : AtN K mg "weights" s_weights ["moment"]) (T_Forms : ClsT K mg "Forms" Forms_at.C nm_Forms) (T_NoMoment : ExcT K mg "NoMoment" NoMoment_at.C) (T_NoRow : ExcT K mg "NoRow" NoRow_at.C) (G_Forms___init__ : FxM P w K mg base 1 Forms_at.C "__init__" "Forms.__init__" s_Forms___init__ p_Forms___init__ (Wof sp_Forms___init__)) (G_Forms_sum_of : FxM P w K mg base 2 Forms_at.C "sum_of" "Forms.sum_of" s_Forms_sum_of p_Forms_sum_of (Wof sp_Forms_sum_of)) (G_unsaid : Fx P w K mg base 2 "unsaid" s_unsaid p_unsaid (Wof sp_unsaid)) (G_Forms_take : FxM P w K mg base 2 Forms_at.C "take" "Forms.take" s_Forms_take p_Forms_take (Wof sp_Forms_take)) : FxRN P w K mg base 3 "weights" s_weights p_weights ["moment"] rp_weights :=
  fxrn_vc (sem := semr_weights) a sc_weights lenr_weights  (fun f cd A fr s G Z hg hr =>
 (vr_app (((defBody s_weights).drop 0).take 1) ((defBody s_weights).drop 1) (vb_set 3 sc_weights.nd (ve_if (vt_is (ve_var 2) ve_non) (ve_len B.len (ve_var 0)) (ve_var 2))
  vb_nil)
  (vr_if (vt_not (vt_chn op_le op_le ve_int (ve_var 3) (ve_len B.len (ve_var 0)))) (vr_raise T_NoMoment rfl)
  (vr_app (((defBody s_weights).drop 2).take 2) ((defBody s_weights).drop 4) (vb_set 4 sc_weights.nd (ve_make T_Forms.made G_Forms___init__ (by exact hg) (by exact hr.mono (by decide)) T_Forms.glo (va_cons (ve_call0 G_unsaid (by exact hg) (by exact hr.mono (by decide)) (va_cons (ve_var 0) va_nil)) va_nil))
  (vb_for rfl (passes_of rfl) (vi_list (ve_sl (ve_var 0) vo_none (vo_some (ve_var 3)))) (vg_name 5 sc_weights.nd)
  (vb_exp (ve_meth G_Forms_take T_Forms.cl (by exact hg) (by exact hr.mono (by decide)) (by decide +kernel) (ve_var 4) (va_cons (ve_var 5) va_nil))
  vb_nil)
  vb_nil))
  (vr_if (vt_ne (k := 0) (by exact hr.mono (by decide)) (ve_len B.len (ve_var 1)) (ve_len B.len (ve_fld 2 T_Forms.cl (T_Forms.no _ (by decide +kernel)) rfl (by decide +kernel) (ve_var 4)))) (vr_raise T_NoRow rfl)
  vr_none))))) vcr_weights
end K03
namespace K03
open PySem PySem.Spec PyProof.Rows L2 Hq Vq
/-! ### counting who has come; what is due -/
theorem cnt_mk {j : Nat} {I : SI} {ps : List Deed} {us : List U} {h : Hq} {Q : U → Hq → Prop} (hI : ∀ K : List U → Kp → Hq → Prop, K (ps.map dU) none h → I us h K) (hj : j < (wipeU us [j]).length) (hl : ps.length ≤ 1000) (q : Q (.d (.int (nCome ps : Int))) h) :
    sLen (sLcf [j] I (.nm j) (Vq.tCmp cEq (sBin oIx (sVar j) (sK (.int 0))) (sK (.str "come"))) (sVar j)) us h Q := by
  have hv : ∀ (x : U) (K : U → Hq → Prop), okU x = true → K x h → sVar j ((wipeU us [j]).set j x) h K := fun x K hx q => sVar_mk (List.getElem?_set_self hj) hx q
  unfold sLen sLcf
  refine hI _ ⟨by rw [List.length_map]; exact sz1e hl, ?_⟩
  refine lcf_map ps dU dU (fun d => decide (d.word = ("come" : Str))) trivial (fun d hd => ⟨_, rfl, fun K q => ?_, fun _ K q => hv _ _ rfl q⟩) (ofd_T _ ?_)
  · unfold Vq.tCmp sBin
    exact hv _ _ rfl ⟨.str d.word, atI_z, q⟩
  · show Q (.d (.int ((((ps.filter fun d => decide (d.word = ("come" : Str))).map _).length : Nat) : Int))) h
    rw [List.length_map]
    exact q
structure W3 (ps : List Deed) (row : List Int) : Prop where
  l : ps.length ≤ 1000
  rl : row.length ≤ 1000
  ro : RowOk row
  rn : ∀ many, many ≤ ps.length → Runs ps many
def dueW (ps : List Deed) (row : List Int) (m : Int) : Str := if m < 0 ∨ (ps.length : Int) < m then "moment" else if row.length = nCome (ps.take m.toNat) then "told" else "row"
/-! ### words for refusals; the law -/
class Bared_at where
  C : Addr
class Clash_at where
  C : Addr
class NoBound_at where
  C : Addr
class NoListener_at where
  C : Addr
class NoMark_at where
  C : Addr
class NoPerson_at where
  C : Addr
class NotAlike_at where
  C : Addr
class NoText_at where
  C : Addr
class NoWorld_at where
  C : Addr
class Same_at where
  C : Addr
def sp__law_odd [NoMoment_at] [NoRow_at] : Fs := fun us h Q => ∃ D : Addr, us = [.c 0] ∧ h = [.ex (.ref D)] ∧ (D = NoMoment_at.C ∨ D = NoRow_at.C) ∧ Q (.d (.bool false)) [.ex (.ref D)]
theorem len__law_odd [NoMoment_at] [NoRow_at] : ∀ us h Q, sp__law_odd us h Q → us.length = p__law_odd.length := fun _ _ _ ⟨_, e, _⟩ => by rw [e]; rfl
def sp__law_word [NoMoment_at] [NoRow_at] : Fs := fun us h Q => ∃ (ps : List Deed) (row : List Int) (m : Int), us = [.d (td ps), .d (td row), .d (.int m)] ∧ h = [] ∧ W3 ps row ∧ Q (.d (.str (dueW ps row m))) []
theorem len__law_word [NoMoment_at] [NoRow_at] : ∀ us h Q, sp__law_word us h Q → us.length = p__law_word.length := fun _ _ _ ⟨_, _, _, e, _⟩ => by rw [e]; rfl
def sp__law_due : Fs := fun us h Q => ∃ (ps : List Deed) (row : List Int) (m : Int), us = [.d (td ps), .d (td row), .d (.int m)] ∧ h = [] ∧ W3 ps row ∧ Q (.d (.str (dueW ps row m))) []
theorem len__law_due : ∀ us h Q, sp__law_due us h Q → us.length = p__law_due.length := fun _ _ _ ⟨_, _, _, e, _⟩ => by rw [e]; rfl
def sp_law : Fs := fun us h Q => ∃ ns : List Int, us = [.s ns] ∧ h = [] ∧ Q (.d (.bool true)) []
theorem len_law : ∀ us h Q, sp_law us h Q → us.length = p_law.length := fun _ _ _ ⟨_, e, _⟩ => by rw [e]; rfl
def sem__law_odd [NoMoment_at] [NoRow_at] : SB :=
 (sIfS (tVal (sIsE [(NoMoment_at.C, false), (NoRow_at.C, false)] (sVar 0)))
  (sRet (sK (.bool true)))
  sNil
  (sRet (sIsE [(NoMoment_at.C, false), (NoRow_at.C, false)] (sVar 0))))
def sem__law_word [NoMoment_at] [NoRow_at] : SB :=
 (sSet 3 (sK .none)
  (sTry2 [NoMoment_at.C, NoRow_at.C] 4 3 (sExp (sCallNK0 sp_weights [(sVar 0), (sVar 1)] [(sVar 2)])
  sNil) (rRet (xCallNK rp_weights [(sVar 0), (sVar 1)] [(sVar 2)]))
  (sIfS (tCmp cIsN (sVar 3) (sK .none))
  (sRet (sK (.str "told")))
  sNil
  (sIfS (tOr (tVal (sCall sp__law_odd [(sVar 3)])) (tAnd (tVal (sIsE [(NoMoment_at.C, true), (NoRow_at.C, false)] (sVar 3))) (tVal (sIsE [(NoMoment_at.C, false), (NoRow_at.C, true)] (sVar 3)))))
  (sRet (sK (.str "odd")))
  sNil
  (sIfS (tVal (sIsE [(NoMoment_at.C, true), (NoRow_at.C, false)] (sVar 3)))
  (sRet (sIf (tAnd (tVal (sIsE [(NoMoment_at.C, true), (NoRow_at.C, false)] (sVar 3))) (tNot (tVal (sIsE [(NoMoment_at.C, false), (NoRow_at.C, true)] (sVar 3))))) (sK (.str "moment")) (sK (.str "odd"))))
  sNil
  (sRet (sIf (tAnd (tVal (sIsE [(NoMoment_at.C, false), (NoRow_at.C, true)] (sVar 3))) (tNot (tVal (sIsE [(NoMoment_at.C, true), (NoRow_at.C, false)] (sVar 3))))) (sK (.str "row")) (sK (.str "odd")))))))))
def sem__law_due : SB :=
 (sIfS (tOr (tCmp (cInt fun i j => decide (i < j)) (sVar 2) (sK (.int 0))) (tCmp (cInt fun i j => decide (j < i)) (sVar 2) (sLen (sVar 0))))
  (sRet (sK (.str "moment")))
  sNil
  (sSet 3 (sLen (sLcf [4] (iList (sSl (sVar 0) sO0 (sO1 (sVar 2)))) (.nm 4) (tCmp cEq (sBin oIx (sVar 4) (sK (.int 0))) (sK (.str "come"))) (sVar 4)))
  (sRet (sIf (tCmp cEq (sLen (sVar 1)) (sVar 3)) (sK (.str "told")) (sK (.str "row"))))))
def sem_law [NoMoment_at] [NoRow_at] : SB :=
 (sSet 1 (sCall0 sp__law_bag [(sVar 0)])
  (sFor (iRange (sK (.int 5))) (.nm 2)
  (sSet 4 (sBin oIx (sCall sp__law_past [(sVar 1), (sBin oIx (sLst [(sK (.int 30)), (sK (.int 100))]) (sCall sp__law_draw [(sVar 1), (sK (.int 2))]))]) (sK (.int 0)))
  (sFor (iRange (sK (.int 12))) (.nm 5)
  (sSet 6 (sCall sp__law_draw [(sVar 1), (sBin oAdd (sLen (sVar 4)) (sK (.int 1)))])
  (sSet 7 (sBin oIx (sLst [(sBin oAdd (sLen (sVar 4)) (sK (.int 1))), (sBin oAdd (sLen (sVar 4)) (sK (.int 2))), (sUn (fun i => -i) (sK (.int 1))), (sBin (oInt0 fun i j => i - j) (sK (.int 0)) (sLen (sVar 4))), (sBin (oInt CPowW fun i j => i ^ j.toNat) (sK (.int 10)) (sK (.int 28))), (sBin (oInt0 fun i j => i - j) (sK (.int 0)) (sBin (oInt CPowW fun i j => i ^ j.toNat) (sK (.int 10)) (sK (.int 28))))]) (sCall sp__law_draw [(sVar 1), (sK (.int 6))]))
  (sSet 8 (sBin oIx (sLst [(sVar 6), (sVar 6), (sVar 7)]) (sCall sp__law_draw [(sVar 1), (sK (.int 3))]))
  (sSet 9 (sLen (sLcf [14] (iList (sSl (sVar 4) sO0 (sO1 (sVar 6)))) (.nm 14) (tCmp cEq (sBin oIx (sVar 14) (sK (.int 0))) (sK (.str "come"))) (sVar 14)))
  (sSet 10 (sLen (sLcf [14] (iList (sVar 4)) (.nm 14) (tCmp cEq (sBin oIx (sVar 14) (sK (.int 0))) (sK (.str "come"))) (sVar 14)))
  (sSet 11 (sBin oMul (sLst [(sK (.int 1))]) (sBin oIx (sLst [(sVar 9), (sVar 9), (sM2 max2 (sK (.int 0)) (sBin (oInt0 fun i j => i - j) (sVar 9) (sK (.int 1)))), (sBin oAdd (sVar 9) (sK (.int 1))), (sVar 10)]) (sCall sp__law_draw [(sVar 1), (sK (.int 5))])))
  (sSet 12 (sRepr (sLst [(sVar 4), (sVar 11)]))
  (sSet 13 (sCall0 sp__law_due [(sVar 4), (sVar 11), (sVar 8)])
  (sIfS (tOr (tCmp cNe (sCall0 sp__law_word [(sVar 4), (sVar 11), (sVar 8)]) (sVar 13)) (tCmp cNe (sRepr (sLst [(sVar 4), (sVar 11)])) (sVar 12)))
  (sRet (sK (.bool false)))
  sNil
  sNil)))))))))
  sNil))
  (sSet 3 (sLst [(sCall0 sp__law_word [(sLst []), (sLst []), (sK (.int 0))]), (sCall0 sp__law_word [(sLst []), (sLst [(sK (.int 1))]), (sK (.int 1))]), (sCall0 sp__law_word [(sLst []), (sLst [(sK (.int 1))]), (sK (.int 0))])])
  (sRet (sCmp cEq (sVar 3) (sLst [(sK (.str "told")), (sK (.str "moment")), (sK (.str "row"))]))))))
theorem vc__law_odd [NoMoment_at] [NoRow_at] : ∀ us h Q, sp__law_odd us h Q → sem__law_odd (us ++ List.replicate (n__law_odd.length - p__law_odd.length) .no) h (endq h.length Q) := fun us h Q ⟨D, e1, e2, hD, q⟩ => by
  subst e1 e2
  have fin : gc 1 Q (.d (.bool false)) [.ex (.ref D)] := gc_cl (Nat.le_refl _) trivial ⟨trivial, trivial⟩ q
  have mem : (D, false) ∈ [(NoMoment_at.C, false), (NoRow_at.C, false)] := by
    rcases hD with rfl | rfl
    · exact List.mem_cons_self
    · exact List.mem_cons_of_mem _ List.mem_cons_self
  exact ⟨false, mem, fun hk => (nomatch hk), fun _ => ⟨false, mem, fin⟩⟩
theorem fx__law_odd [NoMoment_at] [NoRow_at] [Bared_at] [Clash_at] [NoBound_at] [NoListener_at] [NoMark_at] [NoPerson_at] [NotAlike_at] [NoText_at] [NoWorld_at] [Same_at] {P : Program} {w : World} {K : PySem.W.Frag} {mg : Str → Option Value} {base : Heap} (B : Bt mg) (a : At K mg "_law_odd" s__law_odd) (O_NoMoment_Bared : PySem.W.subIn K (.ref NoMoment_at.C) (.ref Bared_at.C) = some false) (L_Bared : ClsG K mg "Bared" Bared_at.C) (T_NoMoment : ExcT K mg "NoMoment" NoMoment_at.C) (O_NoMoment_Clash : PySem.W.subIn K (.ref NoMoment_at.C) (.ref Clash_at.C) = some false) (L_Clash : ClsG K mg "Clash" Clash_at.C) (O_NoMoment_NoBound : PySem.W.subIn K (.ref NoMoment_at.C) (.ref NoBound_at.C) = some false) (L_NoBound : ClsG K mg "NoBound" NoBound_at.C) (O_NoMoment_NoListener : PySem.W.subIn K (.ref NoMoment_at.C) (.ref NoListener_at.C) = some false) (L_NoListener : ClsG K mg "NoListener" NoListener_at.C) (O_NoMoment_NoMark : PySem.W.subIn K (.ref NoMoment_at.C) (.ref NoMark_at.C) = some false) (L_NoMark : ClsG K mg "NoMark" NoMark_at.C) (O_NoMoment_NoPerson : PySem.W.subIn K (.ref NoMoment_at.C) (.ref NoPerson_at.C) = some false) (L_NoPerson : ClsG K mg "NoPerson" NoPerson_at.C) (O_NoRow_Bared : PySem.W.subIn K (.ref NoRow_at.C) (.ref Bared_at.C) = some false) (T_NoRow : ExcT K mg "NoRow" NoRow_at.C) (O_NoRow_Clash : PySem.W.subIn K (.ref NoRow_at.C) (.ref Clash_at.C) = some false) (O_NoRow_NoBound : PySem.W.subIn K (.ref NoRow_at.C) (.ref NoBound_at.C) = some false) (O_NoRow_NoListener : PySem.W.subIn K (.ref NoRow_at.C) (.ref NoListener_at.C) = some false) (O_NoRow_NoMark : PySem.W.subIn K (.ref NoRow_at.C) (.ref NoMark_at.C) = some false) (O_NoRow_NoPerson : PySem.W.subIn K (.ref NoRow_at.C) (.ref NoPerson_at.C) = some false) (O_NoMoment_NotAlike : PySem.W.subIn K (.ref NoMoment_at.C) (.ref NotAlike_at.C) = some false) (L_NotAlike : ClsG K mg "NotAlike" NotAlike_at.C) (O_NoMoment_NoText : PySem.W.subIn K (.ref NoMoment_at.C) (.ref NoText_at.C) = some false) (L_NoText : ClsG K mg "NoText" NoText_at.C) (O_NoMoment_NoWorld : PySem.W.subIn K (.ref NoMoment_at.C) (.ref NoWorld_at.C) = some false) (L_NoWorld : ClsG K mg "NoWorld" NoWorld_at.C) (O_NoMoment_Same : PySem.W.subIn K (.ref NoMoment_at.C) (.ref Same_at.C) = some false) (L_Same : ClsG K mg "Same" Same_at.C) (O_NoRow_NotAlike : PySem.W.subIn K (.ref NoRow_at.C) (.ref NotAlike_at.C) = some false) (O_NoRow_NoText : PySem.W.subIn K (.ref NoRow_at.C) (.ref NoText_at.C) = some false) (O_NoRow_NoWorld : PySem.W.subIn K (.ref NoRow_at.C) (.ref NoWorld_at.C) = some false) (O_NoRow_Same : PySem.W.subIn K (.ref NoRow_at.C) (.ref Same_at.C) = some false) : Fx P w K mg base 1 "_law_odd" s__law_odd p__law_odd (Wof sp__law_odd) :=
  fx_vc (sem := sem__law_odd) a sc__law_odd len__law_odd (fun _ _ _ _ _ _ us hl => match us, hl with | [_], _ => rfl) (fun f cd A fr s G Z hg hr =>
 (vb_if (vt_val (ve_isET [V.ref Bared_at.C, V.ref Clash_at.C, V.ref NoBound_at.C, V.ref NoListener_at.C, V.ref NoMark_at.C, V.ref NoPerson_at.C] [Value.ref Bared_at.C, Value.ref Clash_at.C, Value.ref NoBound_at.C, Value.ref NoListener_at.C, Value.ref NoMark_at.C, Value.ref NoPerson_at.C] [(NoMoment_at.C, false), (NoRow_at.C, false)] (fun D b h => by simp only [List.mem_cons, List.not_mem_nil, or_false, Prod.mk.injEq] at h; rcases h with ⟨rfl, rfl⟩ | ⟨rfl, rfl⟩; exact ⟨T_NoMoment.ex, kitAny_no fun c hc => (by simp only [List.mem_cons, List.not_mem_nil, or_false] at hc; rcases hc with rfl | rfl | rfl | rfl | rfl | rfl; exact kit_cls L_Bared O_NoMoment_Bared T_NoMoment.self; exact kit_cls L_Clash O_NoMoment_Clash T_NoMoment.self; exact kit_cls L_NoBound O_NoMoment_NoBound T_NoMoment.self; exact kit_cls L_NoListener O_NoMoment_NoListener T_NoMoment.self; exact kit_cls L_NoMark O_NoMoment_NoMark T_NoMoment.self; exact kit_cls L_NoPerson O_NoMoment_NoPerson T_NoMoment.self)⟩; exact ⟨T_NoRow.ex, kitAny_no fun c hc => (by simp only [List.mem_cons, List.not_mem_nil, or_false] at hc; rcases hc with rfl | rfl | rfl | rfl | rfl | rfl; exact kit_cls L_Bared O_NoRow_Bared T_NoRow.self; exact kit_cls L_Clash O_NoRow_Clash T_NoRow.self; exact kit_cls L_NoBound O_NoRow_NoBound T_NoRow.self; exact kit_cls L_NoListener O_NoRow_NoListener T_NoRow.self; exact kit_cls L_NoMark O_NoRow_NoMark T_NoRow.self; exact kit_cls L_NoPerson O_NoRow_NoPerson T_NoRow.self)⟩) (.cons (.own _) (.cons (.own _) (.cons (.own _) (.cons (.own _) (.cons (.own _) (.cons (.own _) .nil)))))) (show 6 < 64 by decide) B.isinstance (pa_cons (pe_glob (v := V.ref Bared_at.C) rfl L_Bared.glo rfl) (pa_cons (pe_glob (v := V.ref Clash_at.C) rfl L_Clash.glo rfl) (pa_cons (pe_glob (v := V.ref NoBound_at.C) rfl L_NoBound.glo rfl) (pa_cons (pe_glob (v := V.ref NoListener_at.C) rfl L_NoListener.glo rfl) (pa_cons (pe_glob (v := V.ref NoMark_at.C) rfl L_NoMark.glo rfl) (pa_cons (pe_glob (v := V.ref NoPerson_at.C) rfl L_NoPerson.glo rfl) pa_nil (by exact st_any rfl)) (by exact st_any rfl)) (by exact st_any rfl)) (by exact st_any rfl)) (by exact st_any rfl)) (by exact st_any rfl)) (fun _ _ _ q => q) (ve_var 0)))
  (vb_ret ve_bl)
  vb_nil
  (vb_ret (ve_isET [V.ref NotAlike_at.C, V.ref NoText_at.C, V.ref NoWorld_at.C, V.ref Same_at.C] [Value.ref NotAlike_at.C, Value.ref NoText_at.C, Value.ref NoWorld_at.C, Value.ref Same_at.C] [(NoMoment_at.C, false), (NoRow_at.C, false)] (fun D b h => by simp only [List.mem_cons, List.not_mem_nil, or_false, Prod.mk.injEq] at h; rcases h with ⟨rfl, rfl⟩ | ⟨rfl, rfl⟩; exact ⟨T_NoMoment.ex, kitAny_no fun c hc => (by simp only [List.mem_cons, List.not_mem_nil, or_false] at hc; rcases hc with rfl | rfl | rfl | rfl; exact kit_cls L_NotAlike O_NoMoment_NotAlike T_NoMoment.self; exact kit_cls L_NoText O_NoMoment_NoText T_NoMoment.self; exact kit_cls L_NoWorld O_NoMoment_NoWorld T_NoMoment.self; exact kit_cls L_Same O_NoMoment_Same T_NoMoment.self)⟩; exact ⟨T_NoRow.ex, kitAny_no fun c hc => (by simp only [List.mem_cons, List.not_mem_nil, or_false] at hc; rcases hc with rfl | rfl | rfl | rfl; exact kit_cls L_NotAlike O_NoRow_NotAlike T_NoRow.self; exact kit_cls L_NoText O_NoRow_NoText T_NoRow.self; exact kit_cls L_NoWorld O_NoRow_NoWorld T_NoRow.self; exact kit_cls L_Same O_NoRow_Same T_NoRow.self)⟩) (.cons (.own _) (.cons (.own _) (.cons (.own _) (.cons (.own _) .nil)))) (show 4 < 64 by decide) B.isinstance (pa_cons (pe_glob (v := V.ref NotAlike_at.C) rfl L_NotAlike.glo rfl) (pa_cons (pe_glob (v := V.ref NoText_at.C) rfl L_NoText.glo rfl) (pa_cons (pe_glob (v := V.ref NoWorld_at.C) rfl L_NoWorld.glo rfl) (pa_cons (pe_glob (v := V.ref Same_at.C) rfl L_Same.glo rfl) pa_nil (by exact st_any rfl)) (by exact st_any rfl)) (by exact st_any rfl)) (by exact st_any rfl)) (fun _ _ _ q => q) (ve_var 0))))) vc__law_odd
theorem vc__law_word [NoMoment_at] [NoRow_at] : ∀ us h Q, sp__law_word us h Q → sem__law_word (us ++ List.replicate (n__law_word.length - p__law_word.length) .no) h (endq h.length Q) := fun us h Q ⟨ps, row, m, e1, e2, w3, q⟩ => by
  subst e1 e2
  have m1 : ∀ {a b : Addr × Bool}, a ∈ [a, b] := List.mem_cons_self
  have m2 : ∀ {a b : Addr × Bool}, b ∈ [a, b] := List.mem_cons_of_mem _ List.mem_cons_self
  by_cases hm : m < 0 ∨ (ps.length : Int) < m
  · have ew : dueW ps row m = "moment" := by unfold dueW; rw [if_pos hm]
    rw [ew] at q
    refine .inr ⟨ps, row, m, rfl, w3.l, w3.rl, .inl ⟨hm, NoMoment_at.C, List.mem_cons_self, rfl, ?_⟩⟩
    refine ⟨fun hk => absurd hk (show ¬ (false = true) by decide), fun _ => ?_⟩
    unfold sNil
    dsimp only
    unfold sIfS
    refine tor_mk (k1 := false) (k2 := false) (fun K kk => ?_) (fun _ K kk => ?_) ⟨fun hk => (nomatch hk), fun _ => ?_⟩
    · exact call_cl (vs := [.c 0]) (h := [Ob.ex (.ref NoMoment_at.C)]) ⟨(show 0 < 1 by decide), trivial⟩ ⟨trivial, trivial⟩ fun Q' up => ⟨NoMoment_at.C, rfl, rfl, .inl rfl, up _ _ (Nat.le_refl _) kk⟩
    · refine tand_mk (k1 := true) (k2 := false) (fun K kk => ?_) (fun _ K kk => ?_) kk
      · exact ⟨true, m1, kk⟩
      · exact ⟨false, m1, kk⟩
    refine ⟨true, m1, fun _ => ?_, fun hk => nomatch hk⟩
    exact tand_mk (k1 := true) (k2 := true) (fun K kk => ⟨true, m1, kk⟩) (fun _ K kk => ⟨false, m1, kk⟩) ⟨fun _ => gc_d q, fun hk => nomatch hk⟩
  · obtain ⟨many, rfl⟩ : ∃ k : Nat, m = (k : Int) := ⟨m.toNat, by omega⟩
    have hmn : many ≤ ps.length := by omega
    have rn := w3.rn many hmn
    have rc := rows_count ps many hmn
    by_cases hr : row.length = nCome (ps.take many)
    · have ew : dueW ps row (many : Int) = "told" := by unfold dueW; rw [if_neg hm, Int.toNat_natCast, if_pos hr]
      rw [ew] at q
      exact .inl ⟨ps, row, .int (many : Int), many, rfl, rfl, .inl rfl, rn, by rw [rc]; exact hr, w3.ro, .inl ⟨fun _ => gc_d q, fun hk => absurd hk (show ¬ (true = false) by decide)⟩⟩
    · have ew : dueW ps row (many : Int) = "row" := by unfold dueW; rw [if_neg hm, Int.toNat_natCast, if_neg hr]
      rw [ew] at q
      refine .inr ⟨ps, row, (many : Int), rfl, w3.l, w3.rl, .inr ⟨many, rfl, rn, by rw [rc]; exact hr, NoRow_at.C, List.mem_cons_of_mem _ List.mem_cons_self, rfl, ?_⟩⟩
      refine ⟨fun hk => absurd hk (show ¬ (false = true) by decide), fun _ => ?_⟩
      unfold sNil
      dsimp only
      unfold sIfS
      refine tor_mk (k1 := false) (k2 := false) (fun K kk => ?_) (fun _ K kk => ?_) ⟨fun hk => (nomatch hk), fun _ => ?_⟩
      · exact call_cl (vs := [.c 0]) (h := [Ob.ex (.ref NoRow_at.C)]) ⟨(show 0 < 1 by decide), trivial⟩ ⟨trivial, trivial⟩ fun Q' up => ⟨NoRow_at.C, rfl, rfl, .inr rfl, up _ _ (Nat.le_refl _) kk⟩
      · refine tand_mk (k1 := false) (k2 := false) (fun K kk => ?_) (fun hk => nomatch hk) kk
        exact ⟨false, m2, kk⟩
      refine ⟨false, m2, fun hk => (nomatch hk), fun _ => ?_⟩
      show sRet (sIf (Vq.tAnd (tVal (sIsE [(NoMoment_at.C, false), (NoRow_at.C, true)] (sVar 3))) (Vq.tNot (tVal (sIsE [(NoMoment_at.C, true), (NoRow_at.C, false)] (sVar 3))))) (sK (.str "row")) (sK (.str "odd"))) [.d (td ps), .d (td row), .d (.int (many : Int)), .c 0, .no] [.ex (.ref NoRow_at.C)] (endq 0 Q)
      unfold sRet sIf
      exact tand_mk (k1 := true) (k2 := true) (fun K kk => ⟨true, m2, kk⟩) (fun _ K kk => ⟨false, m2, kk⟩) ⟨fun _ => gc_d q, fun hk => nomatch hk⟩
theorem fx__law_word [NoMoment_at] [NoRow_at] {P : Program} {w : World} {K : PySem.W.Frag} {mg : Str → Option Value} {base : Heap} (B : Bt mg) (a : At K mg "_law_word" s__law_word) (G_weights : FxN P w K mg base 3 "weights" s_weights p_weights ["moment"] (Wof sp_weights)) (G__law_odd : Fx P w K mg base 3 "_law_odd" s__law_odd p__law_odd (Wof sp__law_odd)) (T_NoMoment : ExcT K mg "NoMoment" NoMoment_at.C) (T_NoRow : ExcT K mg "NoRow" NoRow_at.C) (O_NoMoment_NoRow : PySem.W.subIn K (.ref NoMoment_at.C) (.ref NoRow_at.C) = some false) (O_NoRow_NoMoment : PySem.W.subIn K (.ref NoRow_at.C) (.ref NoMoment_at.C) = some false) (I_NoMoment_ValueError : PySem.W.kitOne K (.ref NoMoment_at.C) (.type "ValueError") = some false) (I_NoRow_ValueError : PySem.W.kitOne K (.ref NoRow_at.C) (.type "ValueError") = some true) (X_ValueError : mg "ValueError" = none) (I_NoMoment_LookupError : PySem.W.kitOne K (.ref NoMoment_at.C) (.type "LookupError") = some true) (I_NoRow_LookupError : PySem.W.kitOne K (.ref NoRow_at.C) (.type "LookupError") = some false) (X_LookupError : mg "LookupError" = none) (GR_weights : FxRN P w K mg base 3 "weights" s_weights p_weights ["moment"] rp_weights) : Fx P w K mg base 4 "_law_word" s__law_word p__law_word (Wof sp__law_word) :=
  fx_vc (sem := sem__law_word) a sc__law_word len__law_word (fun _ _ _ _ _ _ us hl => match us, hl with | [_, _, _], _ => rfl) (fun f cd A fr s G Z hg hr =>
 (vb_set 3 sc__law_word.nd ve_non
  (vb_try2 [NoMoment_at.C, NoRow_at.C] 4 3 (tst_tup2 rfl T_NoMoment.glo (by decide) rfl T_NoRow.glo (by decide)) (fun C h => by simp only [List.mem_cons, List.not_mem_nil, or_false] at h; rcases h with rfl | rfl; exact exm2_l T_NoMoment T_NoRow O_NoMoment_NoRow; exact exm2_r T_NoMoment T_NoRow O_NoRow_NoMoment) sc__law_word.nd (vb_exp (ve_callNK0 (x := "weights") (st := s_weights) (ps := p_weights) (ms := ["moment"]) 2 G_weights (by exact hg) (by exact hr.mono (by decide)) (va_cons (ve_var 0) (va_cons (ve_var 1) va_nil)) (vk_cons (ve_var 2) vk_nil) (fun _ _ _ _ _ _ us ks h1 h2 => match us, h1, ks, h2 with | [_, _], _, [_], _ => rfl))
  vb_nil) (fun pn xe => (vr_exp (vx_callNK (x := "weights") (st := s_weights) (ps := p_weights) (ms := ["moment"]) 2 GR_weights (by exact hg) (by exact hr.mono (by decide)) lenr_weights (va_cons (ve_var 0) (va_cons (ve_var 1) va_nil)) (vk_cons (ve_var 2) vk_nil) (fun _ _ _ _ _ _ us ks h1 h2 => match us, h1, ks, h2 with | [_, _], _, [_], _ => rfl))))
  (vb_if (vt_is (ve_var 3) ve_non)
  (vb_ret ve_str)
  vb_nil
  (vb_if (vt_w (vw_or (vt_val (ve_call G__law_odd (by exact hg) (by exact hr.mono (by decide)) (va_cons (ve_var 3) va_nil))) (vw_or1 (vt_w (vw_and (vt_val (ve_isEo (c := "NoMoment") (C := NoMoment_at.C) [(NoMoment_at.C, true), (NoRow_at.C, false)] (fun D b h => by simp only [List.mem_cons, List.not_mem_nil, or_false, Prod.mk.injEq] at h; rcases h with ⟨rfl, rfl⟩ | ⟨rfl, rfl⟩; exact ⟨T_NoMoment.ex, kit_cls T_NoMoment.g T_NoMoment.self T_NoMoment.self⟩; exact ⟨T_NoRow.ex, kit_cls T_NoMoment.g O_NoRow_NoMoment T_NoRow.self⟩) B.isinstance T_NoMoment.g.glo (ve_var 3))) (vw_and1 (vt_val (ve_isEo (c := "NoRow") (C := NoRow_at.C) [(NoMoment_at.C, false), (NoRow_at.C, true)] (fun D b h => by simp only [List.mem_cons, List.not_mem_nil, or_false, Prod.mk.injEq] at h; rcases h with ⟨rfl, rfl⟩ | ⟨rfl, rfl⟩; exact ⟨T_NoMoment.ex, kit_cls T_NoRow.g O_NoMoment_NoRow T_NoMoment.self⟩; exact ⟨T_NoRow.ex, kit_cls T_NoRow.g T_NoRow.self T_NoRow.self⟩) B.isinstance T_NoRow.g.glo (ve_var 3)))))))))
  (vb_ret ve_str)
  vb_nil
  (vb_if (vt_val (ve_isEo (c := "NoMoment") (C := NoMoment_at.C) [(NoMoment_at.C, true), (NoRow_at.C, false)] (fun D b h => by simp only [List.mem_cons, List.not_mem_nil, or_false, Prod.mk.injEq] at h; rcases h with ⟨rfl, rfl⟩ | ⟨rfl, rfl⟩; exact ⟨T_NoMoment.ex, kit_cls T_NoMoment.g T_NoMoment.self T_NoMoment.self⟩; exact ⟨T_NoRow.ex, kit_cls T_NoMoment.g O_NoRow_NoMoment T_NoRow.self⟩) B.isinstance T_NoMoment.g.glo (ve_var 3)))
  (vb_ret (ve_if (vt_w (vw_and (vt_val (ve_isE (cn := "LookupError") [(NoMoment_at.C, true), (NoRow_at.C, false)] (fun D b h => by simp only [List.mem_cons, List.not_mem_nil, or_false, Prod.mk.injEq] at h; rcases h with ⟨rfl, rfl⟩ | ⟨rfl, rfl⟩; exact ⟨T_NoMoment.ex, I_NoMoment_LookupError⟩; exact ⟨T_NoRow.ex, I_NoRow_LookupError⟩) (by decide +kernel) B.isinstance X_LookupError (ve_var 3))) (vw_and1 (vt_not (vt_val (ve_isE (cn := "ValueError") [(NoMoment_at.C, false), (NoRow_at.C, true)] (fun D b h => by simp only [List.mem_cons, List.not_mem_nil, or_false, Prod.mk.injEq] at h; rcases h with ⟨rfl, rfl⟩ | ⟨rfl, rfl⟩; exact ⟨T_NoMoment.ex, I_NoMoment_ValueError⟩; exact ⟨T_NoRow.ex, I_NoRow_ValueError⟩) (by decide +kernel) B.isinstance X_ValueError (ve_var 3))))))) ve_str ve_str))
  vb_nil
  (vb_ret (ve_if (vt_w (vw_and (vt_val (ve_isE (cn := "ValueError") [(NoMoment_at.C, false), (NoRow_at.C, true)] (fun D b h => by simp only [List.mem_cons, List.not_mem_nil, or_false, Prod.mk.injEq] at h; rcases h with ⟨rfl, rfl⟩ | ⟨rfl, rfl⟩; exact ⟨T_NoMoment.ex, I_NoMoment_ValueError⟩; exact ⟨T_NoRow.ex, I_NoRow_ValueError⟩) (by decide +kernel) B.isinstance X_ValueError (ve_var 3))) (vw_and1 (vt_not (vt_val (ve_isE (cn := "LookupError") [(NoMoment_at.C, true), (NoRow_at.C, false)] (fun D b h => by simp only [List.mem_cons, List.not_mem_nil, or_false, Prod.mk.injEq] at h; rcases h with ⟨rfl, rfl⟩ | ⟨rfl, rfl⟩; exact ⟨T_NoMoment.ex, I_NoMoment_LookupError⟩; exact ⟨T_NoRow.ex, I_NoRow_LookupError⟩) (by decide +kernel) B.isinstance X_LookupError (ve_var 3))))))) ve_str ve_str)))))))) vc__law_word
theorem vc__law_due : ∀ us h Q, sp__law_due us h Q → sem__law_due (us ++ List.replicate (n__law_due.length - p__law_due.length) .no) h (endq h.length Q) := fun us h Q ⟨ps, row, m, e1, e2, w3, q⟩ => by
  subst e1 e2
  have hl := w3.l
  unfold sem__law_due sIfS
  refine tor_mk (k1 := decide (m < 0)) (k2 := decide (((ps.map td).length : Int) < m)) (fun K kk => ?_) (fun _ K kk => ?_) ?_
  · exact kk
  · exact kk
  rw [List.length_map]
  by_cases hm : m < 0 ∨ (ps.length : Int) < m
  · have ew : dueW ps row m = "moment" := by unfold dueW; rw [if_pos hm]
    rw [ew] at q
    have ek : (decide (m < 0) || decide ((ps.length : Int) < m)) = true := by
      rcases hm with h | h
      · rw [decide_eq_true h]; rfl
      · rw [decide_eq_true h, Bool.or_true]
    rw [ek]
    exact ⟨fun _ => gc_d q, fun hk => nomatch hk⟩
  · have ek : (decide (m < 0) || decide ((ps.length : Int) < m)) = false := by
      rw [decide_eq_false (by omega), decide_eq_false (by omega)]; rfl
    rw [ek]
    refine ⟨fun hk => (nomatch hk), fun _ => ?_⟩
    obtain ⟨many, rfl⟩ : ∃ k : Nat, m = (k : Int) := ⟨m.toNat, by omega⟩
    have ht : (((cut (ps.map td) none (some (many : Int))).map U.d)) = (ps.take many).map dU := by
      rw [cut_map, cut_to, dU_eq]
    have lt : (ps.take many).length ≤ 1000 := by rw [List.length_take]; omega
    show sSet 3 (sLen (sLcf [4] (Vq.iList (sSl (sVar 0) sO0 (sO1 (sVar 2)))) (.nm 4) (Vq.tCmp cEq (sBin oIx (sVar 4) (sK (.int 0))) (sK (.str "come"))) (sVar 4))) _ [.d (td ps), .d (td row), .d (.int (many : Int)), .no, .no] [] _
    unfold sSet
    refine cnt_mk (ps := ps.take many) (fun K kk => by rw [← ht] at kk; exact kk) (show 4 < 5 by decide) lt ?_
    show sRet _ [.d (td ps), .d (td row), .d (.int (many : Int)), .d (.int (nCome (ps.take many) : Int)), .no] _ _
    unfold sRet
    show If (decide (((row.map td).length : Int) = (nCome (ps.take many) : Int))) _ _
    rw [List.length_map]
    by_cases hr : row.length = nCome (ps.take many)
    · have ew : dueW ps row (many : Int) = "told" := by unfold dueW; rw [if_neg hm, Int.toNat_natCast, if_pos hr]
      rw [ew] at q
      rw [decide_eq_true (by omega)]
      exact ⟨fun _ => gc_d q, fun hk => nomatch hk⟩
    · have ew : dueW ps row (many : Int) = "row" := by unfold dueW; rw [if_neg hm, Int.toNat_natCast, if_neg hr]
      rw [ew] at q
      rw [decide_eq_false (by omega)]
      exact ⟨fun hk => (nomatch hk), fun _ => gc_d q⟩
theorem fx__law_due {P : Program} {w : World} {K : PySem.W.Frag} {mg : Str → Option Value} {base : Heap} (B : Bt mg) (a : At K mg "_law_due" s__law_due) : Fx P w K mg base 1 "_law_due" s__law_due p__law_due (Wof sp__law_due) :=
  fx_vc (sem := sem__law_due) a sc__law_due len__law_due (fun _ _ _ _ _ _ us hl => match us, hl with | [_, _, _], _ => rfl) (fun f cd A fr s G Z hg hr =>
 (vb_if (vt_w (vw_or (vt_lt (ve_var 2) ve_int) (vw_or1 (vt_gt (ve_var 2) (ve_len B.len (ve_var 0))))))
  (vb_ret ve_str)
  vb_nil
  (vb_set 3 sc__law_due.nd (ve_len B.len (ve_lcf' fin_d rfl sc__law_due.nd (own := [("_law_deed", 4)]) (t := (.nm 4)) (blkOk_by (N := n__law_due) (sc := defScope s__law_due) (by decide +kernel)) (fun _ _ _ _ _ => (pg_name (i := 4) sc__law_due.nd rfl (by first | exact Or.inl rfl | exact Or.inr rfl))) (vi_list (ve_sl (ve_var 0) vo_none (vo_some (ve_var 2)))) (fun _ _ _ _ _ => (vt_eq (k := 0) (by exact hr.mono (by decide)) (ve_ix (ve_var 4) ve_int) ve_str)) (fun _ _ _ _ _ => (ve_var 4)) (by decide) (by intro _; rfl)))
  (vb_ret (ve_if (vt_eq (k := 0) (by exact hr.mono (by decide)) (ve_len B.len (ve_var 1)) (ve_var 3)) ve_str ve_str))))) vc__law_due
end K03
namespace K03
open PySem PySem.Spec PyProof.Rows L2 Hq Vq
/-! ### sizes -/
def DOk (k : Nat) : Deed → Prop
  | .come => True
  | .stir p => p.natAbs < 2 ^ 1000
  | .pay a b => a.natAbs < 2 ^ 1000 ∧ b.natAbs < 2 ^ 1000
  | .gift p n => p.natAbs < 2 ^ 1000 ∧ n.natAbs < 2 ^ 1000
  | .tell row n => row.length ≤ 10 + k ∧ (∀ x ∈ row, x.natAbs < 2 ^ (200 + k)) ∧ n.natAbs < 2 ^ (1000 + k)
structure Lite (k : Nat) (ps : List Deed) : Prop where
  l : ps.length ≤ 100 + k
  d : ∀ d ∈ ps, DOk k d
theorem pow1 : (2 : Nat) ^ 700 ≤ 2 ^ 1000 := Nat.pow_le_pow_right (by decide) (by decide)
theorem sum_le (f : Nat → Int) (D : Nat) : ∀ l : List Nat, (∀ k ∈ l, (f k).natAbs ≤ D) → ((l.map f).sum).natAbs ≤ l.length * D
  | [], _ => Nat.zero_le _
  | x :: l, h => by
    have ih := sum_le f D l fun k hk => h k (List.mem_cons_of_mem _ hk)
    have hx := h x List.mem_cons_self
    rw [List.map_cons, List.sum_cons, List.length_cons, Nat.succ_mul]
    have := Int.natAbs_add_le (f x) (l.map f).sum
    omega
theorem dot_le {row ns : List Int} {C : Nat} (hr : RowOk row) (hn : ∀ x ∈ ns, x.natAbs ≤ C) (n : Nat) : (dotI row ns n).natAbs ≤ n * (99 * C) := by
  unfold dotI
  have h := sum_le (fun k => row.getD k 0 * ns.getD k 0) (99 * C) (List.range n) fun k _ => ?_
  · rwa [List.length_range] at h
  · rw [Int.natAbs_mul]
    refine Nat.mul_le_mul ?_ ?_
    · by_cases hk : k < row.length
      · have := hr _ (getD_mem (d := 0) hk); omega
      · rw [List.getD_eq_getElem?_getD, List.getElem?_eq_none (by omega)]; decide
    · by_cases hk : k < ns.length
      · exact hn _ (getD_mem hk)
      · rw [List.getD_eq_getElem?_getD, List.getElem?_eq_none (by omega)]; exact Nat.zero_le _
theorem getD_le {ns : List Int} {C : Nat} (hn : ∀ x ∈ ns, x.natAbs ≤ C) (k : Nat) : (ns.getD k 0).natAbs ≤ C := by
  by_cases hk : k < ns.length
  · exact hn _ (getD_mem hk)
  · rw [List.getD_eq_getElem?_getD, List.getElem?_eq_none (by omega)]; exact Nat.zero_le _
theorem Past.bound {ps gs ns t} (h : Past ps gs ns t) : ps.length ≤ 100 → (∀ x ∈ ns, x.natAbs ≤ ps.length * 2 ^ 700) ∧ ∀ d ∈ ps, DOk 0 d := by
  have sm : ∀ {n : Int}, Sml n → n.natAbs < 2 ^ 1000 := fun h => Nat.lt_of_lt_of_le h pow1
  have nat : ∀ {p : Nat} {ns : List Int}, p < ns.length → ns.length ≤ 10 → ((p : Int)).natAbs < 2 ^ 1000 := fun h1 h2 => Nat.lt_of_lt_of_le (show _ < 2 ^ 10 by omega) (Nat.pow_le_pow_right (by decide) (by decide))
  have add : ∀ {x y : Int} {k B : Nat}, x.natAbs ≤ k * B → y.natAbs < B → (x + y).natAbs ≤ (k + 1) * B ∧ (x - y).natAbs ≤ (k + 1) * B := fun {x y k B} h1 h2 => by
    rw [Nat.succ_mul]
    generalize k * B = m at h1 ⊢
    omega
  have up : ∀ {x : Int} {k B : Nat}, x.natAbs ≤ k * B → x.natAbs ≤ (k + 1) * B := fun {x k B} h => by rw [Nat.succ_mul]; omega
  induction h with
  | nil => intro _; exact ⟨fun _ h => (nomatch h), fun _ h => (nomatch h)⟩
  | come g _ _ hg ih =>
    intro hl
    rw [List.length_append] at hl ⊢
    obtain ⟨h1, h2⟩ := ih (by simp at hl; omega)
    refine ⟨fun x hx => ?_, fun d hd => (List.mem_append.mp hd).elim (h2 d) fun z => by rw [List.mem_singleton.mp z]; trivial⟩
    rcases List.mem_append.mp hx with hx | hx
    · exact up (h1 x hx)
    · rw [List.mem_singleton.mp hx]
      show g.natAbs ≤ (_ + 1) * 2 ^ 700
      rw [Nat.succ_mul]
      exact Nat.le_trans (Nat.le_of_lt hg) (Nat.le_add_left ..)
  | stir g p hP hp hg ih =>
    intro hl
    rw [List.length_append] at hl ⊢
    obtain ⟨h1, h2⟩ := ih (by simp at hl; omega)
    refine ⟨fun x hx => ?_, fun d hd => (List.mem_append.mp hd).elim (h2 d) fun z => by rw [List.mem_singleton.mp z]; exact nat hp hP.len⟩
    rcases List.mem_or_eq_of_mem_set hx with hx | hx
    · exact up (h1 x hx)
    · rw [hx]; exact (add (getD_le h1 p) hg).1
  | pay g a b hP ha hb _ hg ih =>
    intro hl
    rw [List.length_append] at hl ⊢
    obtain ⟨h1, h2⟩ := ih (by simp at hl; omega)
    refine ⟨fun x hx => ?_, fun d hd => (List.mem_append.mp hd).elim (h2 d) fun z => by rw [List.mem_singleton.mp z]; exact ⟨nat ha hP.len, nat hb hP.len⟩⟩
    rcases List.mem_or_eq_of_mem_set hx with hx | hx
    · rcases List.mem_or_eq_of_mem_set hx with hx | hx
      · exact up (h1 x hx)
      · rw [hx]; exact (add (getD_le h1 a) hg).2
    · rw [hx]; exact (add (getD_le h1 b) hg).1
  | gift g p hP hp hg ih =>
    intro hl
    rw [List.length_append] at hl ⊢
    obtain ⟨h1, h2⟩ := ih (by simp at hl; omega)
    refine ⟨fun x hx => ?_, fun d hd => (List.mem_append.mp hd).elim (h2 d) fun z => by rw [List.mem_singleton.mp z]; exact ⟨nat hp hP.len, sm hg⟩⟩
    rcases List.mem_or_eq_of_mem_set hx with hx | hx
    · exact up (h1 x hx)
    · rw [hx]; exact (add (getD_le h1 p) hg).1
  | @tell ps gs ns t row hP hl2 hrow _ ih =>
    intro hl
    rw [List.length_append] at hl ⊢
    have hl3 : ps.length ≤ 99 := by simp at hl; omega
    obtain ⟨h1, h2⟩ := ih (by omega)
    refine ⟨fun x hx => up (h1 x hx), fun d hd => (List.mem_append.mp hd).elim (h2 d) fun z => ?_⟩
    rw [List.mem_singleton.mp z]
    have nl := hP.len
    refine ⟨by omega, fun x hx => Nat.lt_of_lt_of_le (show x.natAbs < 2 ^ 10 by have := hrow x hx; omega) (Nat.pow_le_pow_right (by decide) (by decide)), ?_⟩
    have h3 := dot_le hrow h1 ns.length
    have h4 : ns.length * (99 * (ps.length * 2 ^ 700)) ≤ 10 * (99 * (99 * 2 ^ 700)) := Nat.mul_le_mul nl (Nat.mul_le_mul_left 99 (Nat.mul_le_mul_right _ hl3))
    refine Nat.lt_of_le_of_lt (Nat.le_trans h3 h4) ?_
    show _ < (2 : Nat) ^ 1000
    have h5 : (2 : Nat) ^ 1000 = 2 ^ 300 * 2 ^ 700 := by rw [← Nat.pow_add]
    rw [h5, ← Nat.mul_assoc, ← Nat.mul_assoc]
    exact Nat.mul_lt_mul_of_pos_right (by decide) (Nat.pow_pos (by decide))
theorem Past.lite {ps gs ns t} (h : Past ps gs ns t) (hl : ps.length ≤ 100) : Lite 0 ps := ⟨hl, (h.bound hl).2⟩
/-! ### how long their repr is -/
theorem sho_word {w : Str} (h : PyData.showable (.str w) = true) (h2 : PyData.hasDict (.str w) = false) (h3 : PyData.depth (.str w) = 0) (h4 : cost (.str w) ≤ 1922) : Sho 1922 0 (.str w) := ⟨h, h2, Nat.le_of_eq h3, h4⟩
theorem sho_i {i : Int} {n : Nat} (h : i.natAbs < 2 ^ n) (hn : n ≤ 1919) : Sho 1922 0 (.int i) := Sho.int (Nat.lt_of_lt_of_le h (Nat.pow_le_pow_right (by decide) hn))
theorem sho_row {row : List Int} (k : Nat) (hk : k ≤ 10) (l : row.length ≤ 10 + k) (h : ∀ x ∈ row, x.natAbs < 2 ^ (200 + k)) : Sho 40000 1 (td row) :=
  (Sho.listT (k := 20) (c := 1922) (n := 0) (fun x hx => sho_i (h x hx) (by omega)) (by omega)).mono (by decide) (by decide)
theorem sho_deed {k : Nat} {d : Deed} (hk : k ≤ 10) (h : DOk k d) : Sho 130000 2 (td d) := by
  have tup : ∀ {ds : List PyData}, ds.length ≤ 3 → (∀ x ∈ ds, Sho 40000 1 x) → Sho 130000 2 (.tuple ds) := fun h1 h2 => (Sho.tuple (k := 3) h2 h1).mono (by decide) (by decide)
  have up : ∀ {x : PyData}, Sho 1922 0 x → Sho 40000 1 x := fun h => h.mono (by decide) (by decide)
  have w1 : Sho 40000 1 (.str "come") := up (sho_word (by decide +kernel) (by decide +kernel) (by decide +kernel) (by decide +kernel))
  have w2 : Sho 40000 1 (.str "stir") := up (sho_word (by decide +kernel) (by decide +kernel) (by decide +kernel) (by decide +kernel))
  have w3 : Sho 40000 1 (.str "pay") := up (sho_word (by decide +kernel) (by decide +kernel) (by decide +kernel) (by decide +kernel))
  have w4 : Sho 40000 1 (.str "gift") := up (sho_word (by decide +kernel) (by decide +kernel) (by decide +kernel) (by decide +kernel))
  have w5 : Sho 40000 1 (.str "tell") := up (sho_word (by decide +kernel) (by decide +kernel) (by decide +kernel) (by decide +kernel))
  have i1 : ∀ {i : Int}, i.natAbs < 2 ^ 1000 → Sho 40000 1 (.int i) := fun h => up (sho_i h (by decide))
  cases d with
  | come => exact tup (by decide) fun x hx => by rw [List.mem_singleton.mp hx]; exact w1
  | stir p =>
    exact tup (show 2 ≤ 3 by decide) fun x hx => by
      rcases List.mem_cons.mp hx with e | hx
      · rw [e]; exact w2
      · rw [List.mem_singleton.mp hx]; exact i1 h
  | pay a b =>
    exact tup (show 3 ≤ 3 by decide) fun x hx => by
      rcases List.mem_cons.mp hx with e | hx
      · rw [e]; exact w3
      rcases List.mem_cons.mp hx with e | hx
      · rw [e]; exact i1 h.1
      · rw [List.mem_singleton.mp hx]; exact i1 h.2
  | gift p n =>
    exact tup (show 3 ≤ 3 by decide) fun x hx => by
      rcases List.mem_cons.mp hx with e | hx
      · rw [e]; exact w4
      rcases List.mem_cons.mp hx with e | hx
      · rw [e]; exact i1 h.1
      · rw [List.mem_singleton.mp hx]; exact i1 h.2
  | tell row n =>
    exact tup (show 3 ≤ 3 by decide) fun x hx => by
      rcases List.mem_cons.mp hx with e | hx
      · rw [e]; exact w5
      rcases List.mem_cons.mp hx with e | hx
      · rw [e]; exact sho_row k hk h.1 h.2.1
      · rw [List.mem_singleton.mp hx]; exact up (sho_i h.2.2 (by omega))
theorem sho_deeds {k : Nat} {ps : List Deed} (hk : k ≤ 10) (h : Lite k ps) : Sho 15000000 3 (td ps) :=
  (Sho.listT (k := 110) (fun d hd => sho_deed hk (h.d d hd)) (by have := h.l; omega)).mono (by decide) (by decide)
theorem sho_pair {a b n : Nat} {dx dy : PyData} (x : Sho a n dx) (y : Sho b n dy) : Sho (a + b + 6) (n + 1) (.list [dx, dy]) := by
  have z := Sho.list (k := 2) (c := a + b) (n := n) (ds := [dx, dy]) (fun d hd => by
    rcases List.mem_cons.mp hd with rfl | hd
    · exact x.mono (Nat.le_add_right ..) (Nat.le_refl _)
    · rw [List.mem_singleton.mp hd]; exact y.mono (Nat.le_add_left ..) (Nat.le_refl _)) (Nat.le_refl 2)
  refine ⟨z.s, z.h, z.dep, ?_⟩
  have h1 := x.le
  have h2 := y.le
  simp only [cost, costs]
  omega
/-! ### the law -/
theorem rep1 (n : Nat) : (List.replicate n [PyData.int 1]).flatten = (List.replicate n (1 : Int)).map PyData.int := by
  induction n with
  | zero => rfl
  | succ n ih => rw [List.replicate_succ, List.flatten_cons, ih, List.replicate_succ]; rfl
theorem ones_ok (n : Nat) : RowOk (List.replicate n 1) := fun x hx => by
  rw [List.eq_of_mem_replicate hx]
  exact ⟨by decide, by decide⟩
theorem w3_of {ps : List Deed} {gs ns : List Int} {t n : Nat} (h : Past ps gs ns t) (l : ps.length ≤ 1000) (hn : n ≤ 1000) : W3 ps (List.replicate n 1) := ⟨l, by rw [List.length_replicate]; exact hn, ones_ok n, fun many hm => past_runs h l hm⟩
theorem word_at [NoMoment_at] [NoRow_at] {ps : List Deed} {row : List Int} {m : Int} {h : Hq} {Q : U → Hq → Prop} (w : W3 ps row) (q : Q (.d (.str (dueW ps row m))) h) : callAt0 sp__law_word [.d (td ps), .d (td row), .d (.int m)] h Q := ⟨ps, row, m, rfl, rfl, w, q⟩
theorem vc_law [NoMoment_at] [NoRow_at] : ∀ us h Q, sp_law us h Q → sem_law (us ++ List.replicate (n_law.length - p_law.length) .no) h (endq h.length Q) := fun us h Q ⟨ns, e1, e2, q⟩ => by
  subst e1 e2
  refine ⟨ns, rfl, rfl, fun g ok => ⟨by decide, by decide, ?_⟩⟩
  refine for_t (S := Bag) (List.range 5) (fun (i : Nat) => U.d (.int (i : Int))) (fun _ => [.s ns, .c 0, .no, .no, .no, .no, .no, .no, .no, .no, .no, .no, .no, .no, .no]) (fun g => bagH g) (fun i g => g.Ok (4000 * i)) g rfl (by refine ⟨?_, ?_, ?_, ?_, ?_, ?_, ?_, ?_, ?_, ?_, ?_, ?_, ?_, ?_, ?_, trivial⟩ <;> first | exact .inl rfl | exact .inr rfl) rfl ok (fun i x g hx ok N hN => ?_) (fun g _ => ?_)
  · have hi : i < 5 := by
      have := (List.getElem?_eq_some_iff.mp hx).1
      rwa [List.length_range] at this
    refine dr (rest := []) ok (by omega) (by decide) (fits10 (by decide)) fun w g2 a2 b2 ok2 => ?_
    obtain ⟨m, hm, hmn⟩ : ∃ m : Nat, atI [PyData.int 30, .int 100] w = some (.int (m : Int)) ∧ m ≤ 100 := by
      have h4 : w = 0 ∨ w = 1 := by omega
      rcases h4 with rfl | rfl
      · exact ⟨30, rfl, by decide⟩
      · exact ⟨100, rfl, by decide⟩
    refine ⟨_, hm, pst (rest := []) ok2 hmn (by omega) fun ps gs nn t g3 hP hl ok3 => ⟨td ps, atI_z, ?_⟩⟩
    have hl1 : ps.length ≤ 100 := by omega
    have ok3' : g3.Ok (4000 * i + 3100) := ok3.up (by omega) (by omega)
    clear ok2 ok3 hm a2 b2
    refine ⟨by decide, by decide, ?_⟩
    refine for_t (S := Bag) (List.range 12) (fun (i : Nat) => U.d (.int (i : Int))) (fun _ => [.s ns, .c 0, .no, .no, .d (td ps), .no, .no, .no, .no, .no, .no, .no, .no, .no, .no]) (fun g => bagH g) (fun j g => g.Ok (4000 * i + 3100 + 10 * j)) g3 rfl (by refine ⟨?_, ?_, ?_, ?_, ?_, ?_, ?_, ?_, ?_, ?_, ?_, ?_, ?_, ?_, ?_, trivial⟩ <;> first | exact .inl rfl | exact .inr rfl) rfl ok3' (fun j y g hy ok N2 hN2 => ?_) (fun g ok => ?_)
    · have hj : j < 12 := by
        have := (List.getElem?_eq_some_iff.mp hy).1
        rwa [List.length_range] at this
      have lps : ((ps.map td).length : Int) = (ps.length : Int) := by rw [List.length_map]
      refine dr (n := ((ps.map td).length : Int) + 1) (rest := []) ok (by omega) (by omega) (fits10 (by omega)) fun v g4 a4 b4 ok4 => ?_
      obtain ⟨there, rfl⟩ : ∃ k : Nat, v = (k : Int) := ⟨v.toNat, by omega⟩
      have hth : there ≤ ps.length := by omega
      refine ⟨pow_small (m := 4) (j := 28) (by decide) (by decide), pow_small (m := 4) (j := 28) (by decide) (by decide), ?_⟩
      refine dr (rest := []) ok4 (by omega) (by decide) (fits10 (by decide)) fun u g5 a5 b5 ok5 => ?_
      obtain ⟨far, hfar⟩ : ∃ m : Int, atI [PyData.int (((ps.map td).length : Int) + 1), .int (((ps.map td).length : Int) + 2), .int (-1), .int (0 - ((ps.map td).length : Int)), .int ((10 : Int) ^ (28 : Int).toNat), .int (0 - (10 : Int) ^ (28 : Int).toNat)] u = some (.int m) := by
        have h4 : u = 0 ∨ u = 1 ∨ u = 2 ∨ u = 3 ∨ u = 4 ∨ u = 5 := by omega
        rcases h4 with rfl | rfl | rfl | rfl | rfl | rfl
        · exact ⟨_, rfl⟩
        · exact ⟨_, rfl⟩
        · exact ⟨_, rfl⟩
        · exact ⟨_, rfl⟩
        · exact ⟨_, rfl⟩
        · exact ⟨_, rfl⟩
      refine ⟨_, hfar, ?_⟩
      refine dr (rest := []) ok5 (by omega) (by decide) (fits10 (by decide)) fun u2 g6 a6 b6 ok6 => ?_
      obtain ⟨many, hmany⟩ : ∃ m : Int, atI [PyData.int (there : Int), .int (there : Int), .int far] u2 = some (.int m) := by
        have h4 : u2 = 0 ∨ u2 = 1 ∨ u2 = 2 := by omega
        rcases h4 with rfl | rfl | rfl
        · exact ⟨_, rfl⟩
        · exact ⟨_, rfl⟩
        · exact ⟨_, rfl⟩
      refine ⟨_, hmany, ?_⟩
      have ht : (((cut (ps.map td) none (some (there : Int))).map U.d)) = (ps.take there).map dU := by
        rw [cut_map, cut_to, dU_eq]
      have lt : (ps.take there).length ≤ 1000 := by rw [List.length_take]; omega
      have c1 : nCome (ps.take there) ≤ 100 := Nat.le_trans (List.length_filter_le _ _) (by rw [List.length_take]; omega)
      have c2 : nCome ps ≤ 100 := Nat.le_trans (List.length_filter_le _ _) hl1
      show sSet 9 (sLen (sLcf [14] (Vq.iList (sSl (sVar 4) sO0 (sO1 (sVar 6)))) (.nm 14) (Vq.tCmp cEq (sBin oIx (sVar 14) (sK (.int 0))) (sK (.str "come"))) (sVar 14))) _ [.s ns, .c 0, .no, .no, .d (td ps), .d (.int (y : Int)), .d (.int (there : Int)), .d (.int far), .d (.int many), .no, .no, .no, .no, .no, .no] (bagH g6) _
      unfold sSet
      refine cnt_mk (ps := ps.take there) (fun K kk => by rw [← ht] at kk; exact kk) (show 14 < 15 by decide) lt ?_
      refine cnt_mk (ps := ps) (fun K kk => by rw [← dU_eq] at kk; exact kk) (show 14 < 15 by decide) (by omega) ?_
      refine dr (rest := []) ok6 (by omega) (by decide) (fits10 (by decide)) fun u3 g7 a7 b7 ok7 => ?_
      obtain ⟨n, hn, hn2⟩ : ∃ n : Nat, atI [PyData.int (nCome (ps.take there) : Int), .int (nCome (ps.take there) : Int), .int (max2 0 ((nCome (ps.take there) : Int) - 1)), .int ((nCome (ps.take there) : Int) + 1), .int (nCome ps : Int)] u3 = some (.int (n : Int)) ∧ n ≤ 101 := by
        have h4 : u3 = 0 ∨ u3 = 1 ∨ u3 = 2 ∨ u3 = 3 ∨ u3 = 4 := by omega
        have mx : ∃ n : Nat, max2 0 ((nCome (ps.take there) : Int) - 1) = (n : Int) ∧ n ≤ 101 := by
          unfold max2
          by_cases h : (nCome (ps.take there) : Int) - 1 > 0
          · rw [if_pos h]; exact ⟨nCome (ps.take there) - 1, by omega, by omega⟩
          · rw [if_neg h]; exact ⟨0, rfl, by omega⟩
        rcases h4 with rfl | rfl | rfl | rfl | rfl
        · exact ⟨_, rfl, by omega⟩
        · exact ⟨_, rfl, by omega⟩
        · obtain ⟨n, e, h⟩ := mx
          exact ⟨n, by rw [← e]; rfl, h⟩
        · exact ⟨nCome (ps.take there) + 1, rfl, by omega⟩
        · exact ⟨_, rfl, by omega⟩
      refine ⟨_, hn, by omega, by omega, by show 1 * ((n : Int)).toNat ≤ sizeLine; rw [Int.toNat_natCast, Nat.one_mul]; exact sz1e (by omega), ?_⟩
      rw [Int.toNat_natCast, rep1]
      have w3 : W3 ps (List.replicate n 1) := w3_of hP (by omega) (by omega)
      have sho : Sho 16000000 4 (.list [td ps, td (List.replicate n (1 : Int))]) := (sho_pair (sho_deeds (k := 0) (by decide) (hP.lite hl1)) ((Sho.listT (k := 200) (c := 1922) (n := 0) (fun x hx => sho_i (n := 10) (by rw [List.eq_of_mem_replicate hx]; decide) (by decide)) (by rw [List.length_replicate]; omega)).mono (c' := 400000) (by decide) (n' := 3) (by decide))).mono (by decide) (by decide)
      refine ⟨[td ps, td (List.replicate n (1 : Int))], rfl, ⟨_, _, sho, Nat.le_refl _, by decide⟩, ?_⟩
      refine ⟨ps, List.replicate n 1, many, rfl, rfl, w3, ?_⟩
      refine tor_mk (k1 := false) (k2 := false) (fun K kk => ?_) (fun _ K kk => ?_) ⟨fun hk => (nomatch hk), fun _ => ?_⟩
      · refine ⟨ps, List.replicate n 1, many, rfl, rfl, w3, ?_⟩
        show K (!decide (dueW ps (List.replicate n 1) many = dueW ps (List.replicate n 1) many)) _
        rw [decide_eq_true rfl]
        exact kk
      · refine ⟨[td ps, td (List.replicate n (1 : Int))], rfl, ⟨_, _, sho, Nat.le_refl _, by decide⟩, ?_⟩
        show K (!decide (PyData.shown (.list [td ps, td (List.replicate n (1 : Int))]) = PyData.shown (.list [td ps, td (List.replicate n (1 : Int))]))) _
        rw [decide_eq_true rfl]
        exact kk
      exact hN2 g7 _ _ (by refine ⟨?_, ?_, ?_, ?_, ?_, ?_, ?_, ?_, ?_, ?_, ?_, ?_, ?_, ?_, ?_, trivial⟩ <;> first | exact .inl rfl | exact .inr rfl) rfl (ok7.up (by omega) (by omega))
    · rw [List.length_range] at ok
      exact hN g _ _ (by refine ⟨?_, ?_, ?_, ?_, ?_, ?_, ?_, ?_, ?_, ?_, ?_, ?_, ?_, ?_, ?_, trivial⟩ <;> first | exact .inl rfl | exact .inr rfl) rfl (ok.up (by omega) (by omega))
  · have w0 : W3 [] (List.replicate 0 1) := w3_of .nil (by decide) (by decide)
    have w1 : W3 [] (List.replicate 1 1) := w3_of .nil (by decide) (by decide)
    have d1 : dueW [] [] 0 = "told" := by decide +kernel
    have d2 : dueW [] [1] 1 = "moment" := by decide +kernel
    have d3 : dueW [] [1] 0 = "row" := by decide +kernel
    refine ⟨[], [], 0, rfl, rfl, w0, [], [1], 1, rfl, rfl, w1, [], [1], 0, rfl, rfl, w1, ?_⟩
    rw [d1, d2, d3]
    refine ⟨by decide +kernel, by decide +kernel, ?_⟩
    show gc 0 Q (.d (.bool (PyData.eqv (.list [.str "told", .str "moment", .str "row"]) (.list [.str "told", .str "moment", .str "row"])))) _
    rw [show PyData.eqv (.list [.str "told", .str "moment", .str "row"]) (.list [.str "told", .str "moment", .str "row"]) = true by decide +kernel]
    exact gc_d q
theorem fx_law [NoMoment_at] [NoRow_at] {P : Program} {w : World} {K : PySem.W.Frag} {mg : Str → Option Value} {base : Heap} (B : Bt mg) (a : At K mg "law" s_law) (G__law_bag : Fx P w K mg base 4 "_law_bag" s__law_bag p__law_bag (Wof sp__law_bag)) (G__law_word : Fx P w K mg base 4 "_law_word" s__law_word p__law_word (Wof sp__law_word)) (G__law_past : Fx P w K mg base 4 "_law_past" s__law_past p__law_past (Wof sp__law_past)) (G__law_draw : Fx P w K mg base 4 "_law_draw" s__law_draw p__law_draw (Wof sp__law_draw)) (G__law_due : Fx P w K mg base 4 "_law_due" s__law_due p__law_due (Wof sp__law_due)) : Fx P w K mg base 5 "law" s_law p_law (Wof sp_law) :=
  fx_vc (sem := sem_law) a sc_law len_law (fun _ _ _ _ _ _ us hl => match us, hl with | [_], _ => rfl) (fun f cd A fr s G Z hg hr =>
 (vb_set 1 sc_law.nd (ve_call0 G__law_bag (by exact hg) (by exact hr.mono (by decide)) (va_cons (ve_var 0) va_nil))
  (vb_for rfl PassesOwn.never (vi_range B.range ve_int) (vg_name 2 sc_law.nd)
  (vb_set 4 sc_law.nd (ve_ix (ve_call G__law_past (by exact hg) (by exact hr.mono (by decide)) (va_cons (ve_var 1) (va_cons (ve_ix (ve_lst (va_cons ve_int (va_cons ve_int va_nil))) (ve_call G__law_draw (by exact hg) (by exact hr.mono (by decide)) (va_cons (ve_var 1) (va_cons ve_int va_nil)))) va_nil))) ve_int)
  (vb_for rfl PassesOwn.never (vi_range B.range ve_int) (vg_name 5 sc_law.nd)
  (vb_set 6 sc_law.nd (ve_call G__law_draw (by exact hg) (by exact hr.mono (by decide)) (va_cons (ve_var 1) (va_cons (ve_add (ve_len B.len (ve_var 4)) ve_int) va_nil)))
  (vb_set 7 sc_law.nd (ve_ix (ve_lst (va_cons (ve_add (ve_len B.len (ve_var 4)) ve_int) (va_cons (ve_add (ve_len B.len (ve_var 4)) ve_int) (va_cons (ve_neg ve_int) (va_cons (ve_sub ve_int (ve_len B.len (ve_var 4))) (va_cons (ve_pow ve_int ve_int) (va_cons (ve_sub ve_int (ve_pow ve_int ve_int)) va_nil))))))) (ve_call G__law_draw (by exact hg) (by exact hr.mono (by decide)) (va_cons (ve_var 1) (va_cons ve_int va_nil))))
  (vb_set 8 sc_law.nd (ve_ix (ve_lst (va_cons (ve_var 6) (va_cons (ve_var 6) (va_cons (ve_var 7) va_nil)))) (ve_call G__law_draw (by exact hg) (by exact hr.mono (by decide)) (va_cons (ve_var 1) (va_cons ve_int va_nil))))
  (vb_set 9 sc_law.nd (ve_len B.len (ve_lcf' fin_d rfl sc_law.nd (own := [("_law_deed", 14)]) (t := (.nm 14)) (blkOk_by (N := n_law) (sc := defScope s_law) (by decide +kernel)) (fun _ _ _ _ _ => (pg_name (i := 14) sc_law.nd rfl (by first | exact Or.inl rfl | exact Or.inr rfl))) (vi_list (ve_sl (ve_var 4) vo_none (vo_some (ve_var 6)))) (fun _ _ _ _ _ => (vt_eq (k := 0) (by exact hr.mono (by decide)) (ve_ix (ve_var 14) ve_int) ve_str)) (fun _ _ _ _ _ => (ve_var 14)) (by decide) (by intro _; rfl)))
  (vb_set 10 sc_law.nd (ve_len B.len (ve_lcf' fin_d rfl sc_law.nd (own := [("_law_deed", 14)]) (t := (.nm 14)) (blkOk_by (N := n_law) (sc := defScope s_law) (by decide +kernel)) (fun _ _ _ _ _ => (pg_name (i := 14) sc_law.nd rfl (by first | exact Or.inl rfl | exact Or.inr rfl))) (vi_list (ve_var 4)) (fun _ _ _ _ _ => (vt_eq (k := 0) (by exact hr.mono (by decide)) (ve_ix (ve_var 14) ve_int) ve_str)) (fun _ _ _ _ _ => (ve_var 14)) (by decide) (by intro _; rfl)))
  (vb_set 11 sc_law.nd (ve_mul (ve_lst (va_cons ve_int va_nil)) (ve_ix (ve_lst (va_cons (ve_var 9) (va_cons (ve_var 9) (va_cons (ve_max2 rfl B.max ve_int (ve_sub (ve_var 9) ve_int)) (va_cons (ve_add (ve_var 9) ve_int) (va_cons (ve_var 10) va_nil)))))) (ve_call G__law_draw (by exact hg) (by exact hr.mono (by decide)) (va_cons (ve_var 1) (va_cons ve_int va_nil)))))
  (vb_set 12 sc_law.nd (ve_repr (k := 0) (by exact hg) (by exact hr.mono (by decide)) B.repr (ve_lst (va_cons (ve_var 4) (va_cons (ve_var 11) va_nil))))
  (vb_set 13 sc_law.nd (ve_call0 G__law_due (by exact hg) (by exact hr.mono (by decide)) (va_cons (ve_var 4) (va_cons (ve_var 11) (va_cons (ve_var 8) va_nil))))
  (vb_if (vt_w (vw_or (vt_ne (k := 0) (by exact hr.mono (by decide)) (ve_call0 G__law_word (by exact hg) (by exact hr.mono (by decide)) (va_cons (ve_var 4) (va_cons (ve_var 11) (va_cons (ve_var 8) va_nil)))) (ve_var 13)) (vw_or1 (vt_ne (k := 0) (by exact hr.mono (by decide)) (ve_repr (k := 0) (by exact hg) (by exact hr.mono (by decide)) B.repr (ve_lst (va_cons (ve_var 4) (va_cons (ve_var 11) va_nil)))) (ve_var 12)))))
  (vb_ret ve_bl)
  vb_nil
  vb_nil)))))))))
  vb_nil))
  (vb_set 3 sc_law.nd (ve_lst (va_cons (ve_call0 G__law_word (by exact hg) (by exact hr.mono (by decide)) (va_cons (ve_lst va_nil) (va_cons (ve_lst va_nil) (va_cons ve_int va_nil)))) (va_cons (ve_call0 G__law_word (by exact hg) (by exact hr.mono (by decide)) (va_cons (ve_lst va_nil) (va_cons (ve_lst (va_cons ve_int va_nil)) (va_cons ve_int va_nil)))) (va_cons (ve_call0 G__law_word (by exact hg) (by exact hr.mono (by decide)) (va_cons (ve_lst va_nil) (va_cons (ve_lst (va_cons ve_int va_nil)) (va_cons ve_int va_nil)))) va_nil))))
  (vb_ret (ve_eq (k := 0) (by exact hr.mono (by decide)) (ve_var 3) (ve_lst (va_cons ve_str (va_cons ve_str (va_cons ve_str va_nil)))))))))) vc_law
end K03
namespace K03
open PySem PySem.Spec PyProof.Rows L2 Hq Vq
theorem all_mk {l : PySem.W.OpenLaw} {w : World} {K : PySem.W.Frag} {h : Heap} {mg : Str → Option Value} {C_Forms : Addr} {C_NoMoment : Addr} {C_NoRow : Addr} {C_Bared : Addr} {C_Clash : Addr} {C_NoBound : Addr} {C_NoListener : Addr} {C_NoMark : Addr} {C_NoPerson : Addr} {C_NotAlike : Addr} {C_NoText : Addr} {C_NoWorld : Addr} {C_Same : Addr} (X : K.In h) (G : h.Ns mainGlobals mg)
  {f0 : Addr} {od0 an0 : Option Addr} {sl0 : Array (Option Value)} {oc0 dc0 pm0 cd0 ct0 : Value} {kV0 : Value}
  {f1 : Addr} {od1 an1 : Option Addr} {sl1 : Array (Option Value)} {oc1 dc1 pm1 cd1 ct1 : Value} {kV1 : Value}
  {f2 : Addr} {od2 an2 : Option Addr} {sl2 : Array (Option Value)} {oc2 dc2 pm2 cd2 ct2 : Value} {kV2 : Value}
  {f3 : Addr} {od3 an3 : Option Addr} {sl3 : Array (Option Value)} {oc3 dc3 pm3 cd3 ct3 : Value} {kV3 : Value}
  {f4 : Addr} {od4 an4 : Option Addr} {sl4 : Array (Option Value)} {oc4 dc4 pm4 cd4 ct4 : Value} {kV4 : Value}
  {f5 : Addr} {od5 an5 : Option Addr} {sl5 : Array (Option Value)} {oc5 dc5 pm5 cd5 ct5 : Value} {D5 : Addr}
  {f6 : Addr} {od6 an6 : Option Addr} {sl6 : Array (Option Value)} {oc6 dc6 pm6 cd6 ct6 : Value} {kV6 : Value}
  {f7 : Addr} {od7 an7 : Option Addr} {sl7 : Array (Option Value)} {oc7 dc7 pm7 cd7 ct7 : Value} {kV7 : Value}
  {f8 : Addr} {od8 an8 : Option Addr} {sl8 : Array (Option Value)} {oc8 dc8 pm8 cd8 ct8 : Value} {kV8 : Value}
  {f9 : Addr} {od9 an9 : Option Addr} {sl9 : Array (Option Value)} {oc9 dc9 pm9 cd9 ct9 : Value} {kV9 : Value}
  {f10 : Addr} {od10 an10 : Option Addr} {sl10 : Array (Option Value)} {oc10 dc10 pm10 cd10 ct10 : Value} {kV10 : Value}
  {f11 : Addr} {od11 an11 : Option Addr} {sl11 : Array (Option Value)} {oc11 dc11 pm11 cd11 ct11 : Value} {kV11 : Value}
  {f12 : Addr} {od12 an12 : Option Addr} {sl12 : Array (Option Value)} {oc12 dc12 pm12 cd12 ct12 : Value} {kV12 : Value}
  {f13 : Addr} {od13 an13 : Option Addr} {sl13 : Array (Option Value)} {oc13 dc13 pm13 cd13 ct13 : Value} {kV13 : Value}
  (gForms : PySem.W.nsIn K mainGlobals "Forms" = some (some (.ref C_Forms)))
  (pgForms : PySem.W.plainGet K C_Forms Str.empty = true)
  (hdForms : PySem.W.hasDictIn K C_Forms = true)
  (poForms : PySem.W.plainOver K C_Forms = true)
  (saForms : PySem.W.findIn K (.ref C_Forms) "__setattr__" = some (some (.builtin "object.__setattr__")))
  (mkForms : PySem.W.makesIn K C_Forms = true)
  (kcForms : PySem.W.keepIn K (.ref C_Forms) = true)
  (noForms0 : PySem.W.findIn K (.ref C_Forms) "size" = some none)
  (noForms1 : PySem.W.findIn K (.ref C_Forms) "at" = some none)
  (noForms2 : PySem.W.findIn K (.ref C_Forms) "rows" = some none)
  (noForms3 : PySem.W.findIn K (.ref C_Forms) "gifts" = some none)
  (gNoMoment : PySem.W.nsIn K mainGlobals "NoMoment" = some (some (.ref C_NoMoment)))
  (owNoMoment : PySem.W.excIn K C_NoMoment [.type "LookupError", .type "Exception", .type "BaseException", .type "object"] "LookupError.__new__" = true)
  (kpNoMoment : PySem.W.keepIn K (.ref C_NoMoment) = true)
  (sbNoMoment : PySem.W.subIn K (.ref C_NoMoment) (.type "BaseException") = some true)
  (tyNoMoment : PySem.W.typeIn K (.ref C_NoMoment) = some (.type "type"))
  (seNoMoment : PySem.W.subIn K (.ref C_NoMoment) (.ref C_NoMoment) = some true)
  (xgNoMoment : PySem.W.findIn K (.ref C_NoMoment) "__getattribute__" = some (some (.builtin "BaseException.__getattribute__")))
  (xkNoMoment : PySem.W.findIn K (.ref C_NoMoment) "__getattr__" = some none)
  (xdNoMoment : PySem.W.hasDictIn K C_NoMoment = true)
  (xaNoMoment : PySem.W.findIn K (.ref C_NoMoment) "__class__" = some (some (.builtin "object.__class__")))
  (xnNoMoment : PySem.W.specialIn K (.builtin "object.__class__") "__get__" = some (some (.builtin "getset_descriptor.__get__")))
  (xtNoMoment : PySem.W.takesIn K (.builtin "object.__class__") = some true)
  (xmNoMoment : PySem.W.mroIn K C_NoMoment (.type "object") = some true)
  (gNoRow : PySem.W.nsIn K mainGlobals "NoRow" = some (some (.ref C_NoRow)))
  (owNoRow : PySem.W.excIn K C_NoRow [.type "ValueError", .type "Exception", .type "BaseException", .type "object"] "ValueError.__new__" = true)
  (kpNoRow : PySem.W.keepIn K (.ref C_NoRow) = true)
  (sbNoRow : PySem.W.subIn K (.ref C_NoRow) (.type "BaseException") = some true)
  (tyNoRow : PySem.W.typeIn K (.ref C_NoRow) = some (.type "type"))
  (seNoRow : PySem.W.subIn K (.ref C_NoRow) (.ref C_NoRow) = some true)
  (xgNoRow : PySem.W.findIn K (.ref C_NoRow) "__getattribute__" = some (some (.builtin "BaseException.__getattribute__")))
  (xkNoRow : PySem.W.findIn K (.ref C_NoRow) "__getattr__" = some none)
  (xdNoRow : PySem.W.hasDictIn K C_NoRow = true)
  (xaNoRow : PySem.W.findIn K (.ref C_NoRow) "__class__" = some (some (.builtin "object.__class__")))
  (xnNoRow : PySem.W.specialIn K (.builtin "object.__class__") "__get__" = some (some (.builtin "getset_descriptor.__get__")))
  (xtNoRow : PySem.W.takesIn K (.builtin "object.__class__") = some true)
  (xmNoRow : PySem.W.mroIn K C_NoRow (.type "object") = some true)
  (gBared : PySem.W.nsIn K mainGlobals "Bared" = some (some (.ref C_Bared)))
  (hdBared : PySem.W.hasDictIn K C_Bared = true)
  (tyBared : PySem.W.typeIn K (.ref C_Bared) = some (.type "type"))
  (gClash : PySem.W.nsIn K mainGlobals "Clash" = some (some (.ref C_Clash)))
  (hdClash : PySem.W.hasDictIn K C_Clash = true)
  (tyClash : PySem.W.typeIn K (.ref C_Clash) = some (.type "type"))
  (gNoBound : PySem.W.nsIn K mainGlobals "NoBound" = some (some (.ref C_NoBound)))
  (hdNoBound : PySem.W.hasDictIn K C_NoBound = true)
  (tyNoBound : PySem.W.typeIn K (.ref C_NoBound) = some (.type "type"))
  (gNoListener : PySem.W.nsIn K mainGlobals "NoListener" = some (some (.ref C_NoListener)))
  (hdNoListener : PySem.W.hasDictIn K C_NoListener = true)
  (tyNoListener : PySem.W.typeIn K (.ref C_NoListener) = some (.type "type"))
  (gNoMark : PySem.W.nsIn K mainGlobals "NoMark" = some (some (.ref C_NoMark)))
  (hdNoMark : PySem.W.hasDictIn K C_NoMark = true)
  (tyNoMark : PySem.W.typeIn K (.ref C_NoMark) = some (.type "type"))
  (gNoPerson : PySem.W.nsIn K mainGlobals "NoPerson" = some (some (.ref C_NoPerson)))
  (hdNoPerson : PySem.W.hasDictIn K C_NoPerson = true)
  (tyNoPerson : PySem.W.typeIn K (.ref C_NoPerson) = some (.type "type"))
  (gNotAlike : PySem.W.nsIn K mainGlobals "NotAlike" = some (some (.ref C_NotAlike)))
  (hdNotAlike : PySem.W.hasDictIn K C_NotAlike = true)
  (tyNotAlike : PySem.W.typeIn K (.ref C_NotAlike) = some (.type "type"))
  (gNoText : PySem.W.nsIn K mainGlobals "NoText" = some (some (.ref C_NoText)))
  (hdNoText : PySem.W.hasDictIn K C_NoText = true)
  (tyNoText : PySem.W.typeIn K (.ref C_NoText) = some (.type "type"))
  (gNoWorld : PySem.W.nsIn K mainGlobals "NoWorld" = some (some (.ref C_NoWorld)))
  (hdNoWorld : PySem.W.hasDictIn K C_NoWorld = true)
  (tyNoWorld : PySem.W.typeIn K (.ref C_NoWorld) = some (.type "type"))
  (gSame : PySem.W.nsIn K mainGlobals "Same" = some (some (.ref C_Same)))
  (hdSame : PySem.W.hasDictIn K C_Same = true)
  (tySame : PySem.W.typeIn K (.ref C_Same) = some (.type "type"))
  (oNoMoment_NoRow : PySem.W.subIn K (.ref C_NoMoment) (.ref C_NoRow) = some false)
  (oNoMoment_Bared : PySem.W.subIn K (.ref C_NoMoment) (.ref C_Bared) = some false)
  (oNoMoment_Clash : PySem.W.subIn K (.ref C_NoMoment) (.ref C_Clash) = some false)
  (oNoMoment_NoBound : PySem.W.subIn K (.ref C_NoMoment) (.ref C_NoBound) = some false)
  (oNoMoment_NoListener : PySem.W.subIn K (.ref C_NoMoment) (.ref C_NoListener) = some false)
  (oNoMoment_NoMark : PySem.W.subIn K (.ref C_NoMoment) (.ref C_NoMark) = some false)
  (oNoMoment_NoPerson : PySem.W.subIn K (.ref C_NoMoment) (.ref C_NoPerson) = some false)
  (oNoMoment_NotAlike : PySem.W.subIn K (.ref C_NoMoment) (.ref C_NotAlike) = some false)
  (oNoMoment_NoText : PySem.W.subIn K (.ref C_NoMoment) (.ref C_NoText) = some false)
  (oNoMoment_NoWorld : PySem.W.subIn K (.ref C_NoMoment) (.ref C_NoWorld) = some false)
  (oNoMoment_Same : PySem.W.subIn K (.ref C_NoMoment) (.ref C_Same) = some false)
  (oNoRow_NoMoment : PySem.W.subIn K (.ref C_NoRow) (.ref C_NoMoment) = some false)
  (oNoRow_Bared : PySem.W.subIn K (.ref C_NoRow) (.ref C_Bared) = some false)
  (oNoRow_Clash : PySem.W.subIn K (.ref C_NoRow) (.ref C_Clash) = some false)
  (oNoRow_NoBound : PySem.W.subIn K (.ref C_NoRow) (.ref C_NoBound) = some false)
  (oNoRow_NoListener : PySem.W.subIn K (.ref C_NoRow) (.ref C_NoListener) = some false)
  (oNoRow_NoMark : PySem.W.subIn K (.ref C_NoRow) (.ref C_NoMark) = some false)
  (oNoRow_NoPerson : PySem.W.subIn K (.ref C_NoRow) (.ref C_NoPerson) = some false)
  (oNoRow_NotAlike : PySem.W.subIn K (.ref C_NoRow) (.ref C_NotAlike) = some false)
  (oNoRow_NoText : PySem.W.subIn K (.ref C_NoRow) (.ref C_NoText) = some false)
  (oNoRow_NoWorld : PySem.W.subIn K (.ref C_NoRow) (.ref C_NoWorld) = some false)
  (oNoRow_Same : PySem.W.subIn K (.ref C_NoRow) (.ref C_Same) = some false)
  (iNoMomentLookupError : PySem.W.subIn K (.ref C_NoMoment) (.type "LookupError") = some true)
  (iNoMomentValueError : PySem.W.subIn K (.ref C_NoMoment) (.type "ValueError") = some false)
  (iNoRowLookupError : PySem.W.subIn K (.ref C_NoRow) (.type "LookupError") = some false)
  (iNoRowValueError : PySem.W.subIn K (.ref C_NoRow) (.type "ValueError") = some true)
  (xLookupError : PySem.W.nsIn K mainGlobals "LookupError" = some none)
  (xValueError : PySem.W.nsIn K mainGlobals "ValueError" = some none)
  (a0 : PySem.W.nsIn K mainGlobals "_law_bag" = some (some (.ref f0)))
  (l0 : K.lookup f0 = some ⟨oc0, od0, .func (PySem.W.fnOf "_law_bag" "_law_bag" (defArgs s__law_bag) (defBody s__law_bag) (defScope s__law_bag) .none kV0 dc0 pm0 an0 cd0 ct0), sl0⟩)
  (c0 : PySem.W.codeIn K cd0 "_law_bag" = true)
  (k0 : PySem.W.keepIn K (.ref f0) = true)
  (a1 : PySem.W.findIn K (.ref C_Forms) "__init__" = some (some (.ref f1)))
  (i1 : PySem.W.isFn K (.ref f1) = true)
  (l1 : K.lookup f1 = some ⟨oc1, od1, .func (PySem.W.fnOf "__init__" "Forms.__init__" (defArgs s_Forms___init__) (defBody s_Forms___init__) (defScope s_Forms___init__) .none kV1 dc1 pm1 an1 cd1 ct1), sl1⟩)
  (c1 : PySem.W.codeIn K cd1 "Forms.__init__" = true)
  (k1 : PySem.W.keepIn K (.ref f1) = true)
  (a2 : PySem.W.findIn K (.ref C_Forms) "sum_of" = some (some (.ref f2)))
  (i2 : PySem.W.isFn K (.ref f2) = true)
  (l2 : K.lookup f2 = some ⟨oc2, od2, .func (PySem.W.fnOf "sum_of" "Forms.sum_of" (defArgs s_Forms_sum_of) (defBody s_Forms_sum_of) (defScope s_Forms_sum_of) .none kV2 dc2 pm2 an2 cd2 ct2), sl2⟩)
  (c2 : PySem.W.codeIn K cd2 "Forms.sum_of" = true)
  (k2 : PySem.W.keepIn K (.ref f2) = true)
  (a3 : PySem.W.nsIn K mainGlobals "unsaid" = some (some (.ref f3)))
  (l3 : K.lookup f3 = some ⟨oc3, od3, .func (PySem.W.fnOf "unsaid" "unsaid" (defArgs s_unsaid) (defBody s_unsaid) (defScope s_unsaid) .none kV3 dc3 pm3 an3 cd3 ct3), sl3⟩)
  (c3 : PySem.W.codeIn K cd3 "unsaid" = true)
  (k3 : PySem.W.keepIn K (.ref f3) = true)
  (a4 : PySem.W.findIn K (.ref C_Forms) "take" = some (some (.ref f4)))
  (i4 : PySem.W.isFn K (.ref f4) = true)
  (l4 : K.lookup f4 = some ⟨oc4, od4, .func (PySem.W.fnOf "take" "Forms.take" (defArgs s_Forms_take) (defBody s_Forms_take) (defScope s_Forms_take) .none kV4 dc4 pm4 an4 cd4 ct4), sl4⟩)
  (c4 : PySem.W.codeIn K cd4 "Forms.take" = true)
  (k4 : PySem.W.keepIn K (.ref f4) = true)
  (a5 : PySem.W.nsIn K mainGlobals "weights" = some (some (.ref f5)))
  (l5 : K.lookup f5 = some ⟨oc5, od5, .func (PySem.W.fnOf "weights" "weights" (defArgs s_weights) (defBody s_weights) (defScope s_weights) .none (.ref D5) dc5 pm5 an5 cd5 ct5), sl5⟩)
  (c5 : PySem.W.codeIn K cd5 "weights" = true)
  (k5 : PySem.W.keepIn K (.ref f5) = true)
  (d5_0 : PySem.W.nsIn K D5 "moment" = some (some .none))
  (a6 : PySem.W.nsIn K mainGlobals "_law_odd" = some (some (.ref f6)))
  (l6 : K.lookup f6 = some ⟨oc6, od6, .func (PySem.W.fnOf "_law_odd" "_law_odd" (defArgs s__law_odd) (defBody s__law_odd) (defScope s__law_odd) .none kV6 dc6 pm6 an6 cd6 ct6), sl6⟩)
  (c6 : PySem.W.codeIn K cd6 "_law_odd" = true)
  (k6 : PySem.W.keepIn K (.ref f6) = true)
  (a7 : PySem.W.nsIn K mainGlobals "_law_word" = some (some (.ref f7)))
  (l7 : K.lookup f7 = some ⟨oc7, od7, .func (PySem.W.fnOf "_law_word" "_law_word" (defArgs s__law_word) (defBody s__law_word) (defScope s__law_word) .none kV7 dc7 pm7 an7 cd7 ct7), sl7⟩)
  (c7 : PySem.W.codeIn K cd7 "_law_word" = true)
  (k7 : PySem.W.keepIn K (.ref f7) = true)
  (a8 : PySem.W.nsIn K mainGlobals "_law_draw" = some (some (.ref f8)))
  (l8 : K.lookup f8 = some ⟨oc8, od8, .func (PySem.W.fnOf "_law_draw" "_law_draw" (defArgs s__law_draw) (defBody s__law_draw) (defScope s__law_draw) .none kV8 dc8 pm8 an8 cd8 ct8), sl8⟩)
  (c8 : PySem.W.codeIn K cd8 "_law_draw" = true)
  (k8 : PySem.W.keepIn K (.ref f8) = true)
  (a9 : PySem.W.nsIn K mainGlobals "_law_number" = some (some (.ref f9)))
  (l9 : K.lookup f9 = some ⟨oc9, od9, .func (PySem.W.fnOf "_law_number" "_law_number" (defArgs s__law_number) (defBody s__law_number) (defScope s__law_number) .none kV9 dc9 pm9 an9 cd9 ct9), sl9⟩)
  (c9 : PySem.W.codeIn K cd9 "_law_number" = true)
  (k9 : PySem.W.keepIn K (.ref f9) = true)
  (a10 : PySem.W.nsIn K mainGlobals "_law_row" = some (some (.ref f10)))
  (l10 : K.lookup f10 = some ⟨oc10, od10, .func (PySem.W.fnOf "_law_row" "_law_row" (defArgs s__law_row) (defBody s__law_row) (defScope s__law_row) .none kV10 dc10 pm10 an10 cd10 ct10), sl10⟩)
  (c10 : PySem.W.codeIn K cd10 "_law_row" = true)
  (k10 : PySem.W.keepIn K (.ref f10) = true)
  (a11 : PySem.W.nsIn K mainGlobals "_law_past" = some (some (.ref f11)))
  (l11 : K.lookup f11 = some ⟨oc11, od11, .func (PySem.W.fnOf "_law_past" "_law_past" (defArgs s__law_past) (defBody s__law_past) (defScope s__law_past) .none kV11 dc11 pm11 an11 cd11 ct11), sl11⟩)
  (c11 : PySem.W.codeIn K cd11 "_law_past" = true)
  (k11 : PySem.W.keepIn K (.ref f11) = true)
  (a12 : PySem.W.nsIn K mainGlobals "_law_due" = some (some (.ref f12)))
  (l12 : K.lookup f12 = some ⟨oc12, od12, .func (PySem.W.fnOf "_law_due" "_law_due" (defArgs s__law_due) (defBody s__law_due) (defScope s__law_due) .none kV12 dc12 pm12 an12 cd12 ct12), sl12⟩)
  (c12 : PySem.W.codeIn K cd12 "_law_due" = true)
  (k12 : PySem.W.keepIn K (.ref f12) = true)
  (a13 : PySem.W.nsIn K mainGlobals "law" = some (some (.ref f13)))
  (l13 : K.lookup f13 = some ⟨oc13, od13, .func (PySem.W.fnOf "law" "law" (defArgs s_law) (defBody s_law) (defScope s_law) .none kV13 dc13 pm13 an13 cd13 ct13), sl13⟩)
  (c13 : PySem.W.codeIn K cd13 "law" = true)
  (k13 : PySem.W.keepIn K (.ref f13) = true)
  (z0 : PySem.W.nsIn K mainGlobals "len" = some none)
  (z1 : PySem.W.nsIn K mainGlobals "range" = some none)
  (z2 : PySem.W.nsIn K mainGlobals "sum" = some none)
  (z3 : PySem.W.nsIn K mainGlobals "abs" = some none)
  (z4 : PySem.W.nsIn K mainGlobals "list" = some none)
  (z5 : PySem.W.nsIn K mainGlobals "tuple" = some none)
  (z6 : PySem.W.nsIn K mainGlobals "zip" = some none)
  (z7 : PySem.W.nsIn K mainGlobals "enumerate" = some none)
  (z8 : PySem.W.nsIn K mainGlobals "all" = some none)
  (z9 : PySem.W.nsIn K mainGlobals "isinstance" = some none)
  (z10 : PySem.W.nsIn K mainGlobals "int" = some none)
  (z11 : PySem.W.nsIn K mainGlobals "bool" = some none)
  (z12 : PySem.W.nsIn K mainGlobals "str" = some none)
  (z13 : PySem.W.nsIn K mainGlobals "repr" = some none)
  (z14 : PySem.W.nsIn K mainGlobals "min" = some none)
  (z15 : PySem.W.nsIn K mainGlobals "max" = some none)
  (z16 : PySem.W.nsIn K mainGlobals "sorted" = some none)
  (z17 : PySem.W.nsIn K mainGlobals "set" = some none) :
    ∀ base : Heap, K.In base → base.Ns mainGlobals mg → Fx l.prog w K mg base 5 "law" s_law p_law (Wof sp_law) := fun base _ _ => by
  have B : Bt mg := ⟨PySem.W.mg_none_of X G z0, PySem.W.mg_none_of X G z1, PySem.W.mg_none_of X G z2, PySem.W.mg_none_of X G z3, PySem.W.mg_none_of X G z4, PySem.W.mg_none_of X G z5, PySem.W.mg_none_of X G z6, PySem.W.mg_none_of X G z7, PySem.W.mg_none_of X G z8, PySem.W.mg_none_of X G z9, PySem.W.mg_none_of X G z10, PySem.W.mg_none_of X G z11, PySem.W.mg_none_of X G z12, PySem.W.mg_none_of X G z13, PySem.W.mg_none_of X G z14, PySem.W.mg_none_of X G z15, PySem.W.mg_none_of X G z16, PySem.W.mg_none_of X G z17⟩
  letI : Forms_at := ⟨C_Forms⟩
  have T_Forms : ClsT K mg "Forms" Forms_at.C nm_Forms := ⟨⟨pgForms, hdForms, poForms, saForms⟩, (fun f hf => by
    simp only [nm_Forms, List.mem_cons, List.not_mem_nil, or_false] at hf
    rcases hf with rfl | rfl | rfl | rfl
    · exact noForms0
    · exact noForms1
    · exact noForms2
    · exact noForms3), ⟨mkForms, kcForms⟩, PySem.W.mg_of X G gForms⟩
  letI : NoMoment_at := ⟨C_NoMoment⟩
  have T_NoMoment : ExcT K mg "NoMoment" NoMoment_at.C := ⟨⟨_, _, _, _, PySem.F.excBase_LookupError, owNoMoment⟩, PySem.W.mg_of X G gNoMoment, kpNoMoment, sbNoMoment, tyNoMoment, ⟨xgNoMoment, xkNoMoment, sbNoMoment, xdNoMoment, xaNoMoment, xnNoMoment, xtNoMoment, xmNoMoment⟩, seNoMoment⟩
  letI : NoRow_at := ⟨C_NoRow⟩
  have T_NoRow : ExcT K mg "NoRow" NoRow_at.C := ⟨⟨_, _, _, _, PySem.F.excBase_ValueError, owNoRow⟩, PySem.W.mg_of X G gNoRow, kpNoRow, sbNoRow, tyNoRow, ⟨xgNoRow, xkNoRow, sbNoRow, xdNoRow, xaNoRow, xnNoRow, xtNoRow, xmNoRow⟩, seNoRow⟩
  letI : Bared_at := ⟨C_Bared⟩
  have L_Bared : ClsG K mg "Bared" Bared_at.C := ⟨PySem.W.mg_of X G gBared, hdBared, tyBared⟩
  letI : Clash_at := ⟨C_Clash⟩
  have L_Clash : ClsG K mg "Clash" Clash_at.C := ⟨PySem.W.mg_of X G gClash, hdClash, tyClash⟩
  letI : NoBound_at := ⟨C_NoBound⟩
  have L_NoBound : ClsG K mg "NoBound" NoBound_at.C := ⟨PySem.W.mg_of X G gNoBound, hdNoBound, tyNoBound⟩
  letI : NoListener_at := ⟨C_NoListener⟩
  have L_NoListener : ClsG K mg "NoListener" NoListener_at.C := ⟨PySem.W.mg_of X G gNoListener, hdNoListener, tyNoListener⟩
  letI : NoMark_at := ⟨C_NoMark⟩
  have L_NoMark : ClsG K mg "NoMark" NoMark_at.C := ⟨PySem.W.mg_of X G gNoMark, hdNoMark, tyNoMark⟩
  letI : NoPerson_at := ⟨C_NoPerson⟩
  have L_NoPerson : ClsG K mg "NoPerson" NoPerson_at.C := ⟨PySem.W.mg_of X G gNoPerson, hdNoPerson, tyNoPerson⟩
  letI : NotAlike_at := ⟨C_NotAlike⟩
  have L_NotAlike : ClsG K mg "NotAlike" NotAlike_at.C := ⟨PySem.W.mg_of X G gNotAlike, hdNotAlike, tyNotAlike⟩
  letI : NoText_at := ⟨C_NoText⟩
  have L_NoText : ClsG K mg "NoText" NoText_at.C := ⟨PySem.W.mg_of X G gNoText, hdNoText, tyNoText⟩
  letI : NoWorld_at := ⟨C_NoWorld⟩
  have L_NoWorld : ClsG K mg "NoWorld" NoWorld_at.C := ⟨PySem.W.mg_of X G gNoWorld, hdNoWorld, tyNoWorld⟩
  letI : Same_at := ⟨C_Same⟩
  have L_Same : ClsG K mg "Same" Same_at.C := ⟨PySem.W.mg_of X G gSame, hdSame, tySame⟩
  have O_NoMoment_NoRow : PySem.W.subIn K (.ref NoMoment_at.C) (.ref NoRow_at.C) = some false := oNoMoment_NoRow
  have O_NoMoment_Bared : PySem.W.subIn K (.ref NoMoment_at.C) (.ref Bared_at.C) = some false := oNoMoment_Bared
  have O_NoMoment_Clash : PySem.W.subIn K (.ref NoMoment_at.C) (.ref Clash_at.C) = some false := oNoMoment_Clash
  have O_NoMoment_NoBound : PySem.W.subIn K (.ref NoMoment_at.C) (.ref NoBound_at.C) = some false := oNoMoment_NoBound
  have O_NoMoment_NoListener : PySem.W.subIn K (.ref NoMoment_at.C) (.ref NoListener_at.C) = some false := oNoMoment_NoListener
  have O_NoMoment_NoMark : PySem.W.subIn K (.ref NoMoment_at.C) (.ref NoMark_at.C) = some false := oNoMoment_NoMark
  have O_NoMoment_NoPerson : PySem.W.subIn K (.ref NoMoment_at.C) (.ref NoPerson_at.C) = some false := oNoMoment_NoPerson
  have O_NoMoment_NotAlike : PySem.W.subIn K (.ref NoMoment_at.C) (.ref NotAlike_at.C) = some false := oNoMoment_NotAlike
  have O_NoMoment_NoText : PySem.W.subIn K (.ref NoMoment_at.C) (.ref NoText_at.C) = some false := oNoMoment_NoText
  have O_NoMoment_NoWorld : PySem.W.subIn K (.ref NoMoment_at.C) (.ref NoWorld_at.C) = some false := oNoMoment_NoWorld
  have O_NoMoment_Same : PySem.W.subIn K (.ref NoMoment_at.C) (.ref Same_at.C) = some false := oNoMoment_Same
  have O_NoRow_NoMoment : PySem.W.subIn K (.ref NoRow_at.C) (.ref NoMoment_at.C) = some false := oNoRow_NoMoment
  have O_NoRow_Bared : PySem.W.subIn K (.ref NoRow_at.C) (.ref Bared_at.C) = some false := oNoRow_Bared
  have O_NoRow_Clash : PySem.W.subIn K (.ref NoRow_at.C) (.ref Clash_at.C) = some false := oNoRow_Clash
  have O_NoRow_NoBound : PySem.W.subIn K (.ref NoRow_at.C) (.ref NoBound_at.C) = some false := oNoRow_NoBound
  have O_NoRow_NoListener : PySem.W.subIn K (.ref NoRow_at.C) (.ref NoListener_at.C) = some false := oNoRow_NoListener
  have O_NoRow_NoMark : PySem.W.subIn K (.ref NoRow_at.C) (.ref NoMark_at.C) = some false := oNoRow_NoMark
  have O_NoRow_NoPerson : PySem.W.subIn K (.ref NoRow_at.C) (.ref NoPerson_at.C) = some false := oNoRow_NoPerson
  have O_NoRow_NotAlike : PySem.W.subIn K (.ref NoRow_at.C) (.ref NotAlike_at.C) = some false := oNoRow_NotAlike
  have O_NoRow_NoText : PySem.W.subIn K (.ref NoRow_at.C) (.ref NoText_at.C) = some false := oNoRow_NoText
  have O_NoRow_NoWorld : PySem.W.subIn K (.ref NoRow_at.C) (.ref NoWorld_at.C) = some false := oNoRow_NoWorld
  have O_NoRow_Same : PySem.W.subIn K (.ref NoRow_at.C) (.ref Same_at.C) = some false := oNoRow_Same
  have I_NoMoment_LookupError : PySem.W.kitOne K (.ref NoMoment_at.C) (.type "LookupError") = some true := kit_sub (by decide +kernel) iNoMomentLookupError
  have I_NoMoment_ValueError : PySem.W.kitOne K (.ref NoMoment_at.C) (.type "ValueError") = some false := kit_sub (by decide +kernel) iNoMomentValueError
  have I_NoRow_LookupError : PySem.W.kitOne K (.ref NoRow_at.C) (.type "LookupError") = some false := kit_sub (by decide +kernel) iNoRowLookupError
  have I_NoRow_ValueError : PySem.W.kitOne K (.ref NoRow_at.C) (.type "ValueError") = some true := kit_sub (by decide +kernel) iNoRowValueError
  have X_LookupError := PySem.W.mg_none_of X G xLookupError
  have X_ValueError := PySem.W.mg_none_of X G xValueError
  have a__law_bag : At K mg "_law_bag" s__law_bag := ⟨_, _, PySem.W.mg_of X G a0, fun_mk l0 c0 k0⟩
  have a_Forms___init__ : AtM K Forms_at.C "__init__" "Forms.__init__" s_Forms___init__ := ⟨_, _, ⟨a1, i1, k1⟩, fun_mk l1 c1 k1⟩
  have a_Forms_sum_of : AtM K Forms_at.C "sum_of" "Forms.sum_of" s_Forms_sum_of := ⟨_, _, ⟨a2, i2, k2⟩, fun_mk l2 c2 k2⟩
  have a_unsaid : At K mg "unsaid" s_unsaid := ⟨_, _, PySem.W.mg_of X G a3, fun_mk l3 c3 k3⟩
  have a_Forms_take : AtM K Forms_at.C "take" "Forms.take" s_Forms_take := ⟨_, _, ⟨a4, i4, k4⟩, fun_mk l4 c4 k4⟩
  have a_weights : AtN K mg "weights" s_weights ["moment"] := ⟨_, _, PySem.W.mg_of X G a5, ⟨⟨_, _, _, _, _, _, _, _, _, _, rfl, l5, c5, .inl ⟨rfl, rfl⟩, .inr ⟨_, rfl, fun q hq => by
    simp only [kwN, List.map_cons, List.map_nil, List.mem_cons, List.not_mem_nil, or_false] at hq
    rcases hq with rfl
    · exact ⟨_, d5_0, rfl⟩⟩⟩, k5⟩⟩
  have a__law_odd : At K mg "_law_odd" s__law_odd := ⟨_, _, PySem.W.mg_of X G a6, fun_mk l6 c6 k6⟩
  have a__law_word : At K mg "_law_word" s__law_word := ⟨_, _, PySem.W.mg_of X G a7, fun_mk l7 c7 k7⟩
  have a__law_draw : At K mg "_law_draw" s__law_draw := ⟨_, _, PySem.W.mg_of X G a8, fun_mk l8 c8 k8⟩
  have a__law_number : At K mg "_law_number" s__law_number := ⟨_, _, PySem.W.mg_of X G a9, fun_mk l9 c9 k9⟩
  have a__law_row : At K mg "_law_row" s__law_row := ⟨_, _, PySem.W.mg_of X G a10, fun_mk l10 c10 k10⟩
  have a__law_past : At K mg "_law_past" s__law_past := ⟨_, _, PySem.W.mg_of X G a11, fun_mk l11 c11 k11⟩
  have a__law_due : At K mg "_law_due" s__law_due := ⟨_, _, PySem.W.mg_of X G a12, fun_mk l12 c12 k12⟩
  have a_law : At K mg "law" s_law := ⟨_, _, PySem.W.mg_of X G a13, fun_mk l13 c13 k13⟩
  have G__law_bag := fx__law_bag (P := l.prog) (w := w) (base := base) B a__law_bag
  have G_Forms___init__ := fx_Forms___init__ (P := l.prog) (w := w) (base := base) B a_Forms___init__ T_Forms
  have G_Forms_sum_of := fx_Forms_sum_of (P := l.prog) (w := w) (base := base) B a_Forms_sum_of T_Forms
  have G_unsaid := fx_unsaid (P := l.prog) (w := w) (base := base) B a_unsaid
  have G_Forms_take := fx_Forms_take (P := l.prog) (w := w) (base := base) B a_Forms_take T_Forms
  have G_weights := fx_weights (P := l.prog) (w := w) (base := base) B a_weights T_Forms (G_Forms___init__.mono (by decide)) (G_Forms_sum_of.mono (by decide)) (G_unsaid.mono (by decide)) (G_Forms_take.mono (by decide))
  have GR_weights := fxr_weights (P := l.prog) (w := w) (base := base) B a_weights T_Forms T_NoMoment T_NoRow (G_Forms___init__.mono (by decide)) (G_Forms_sum_of.mono (by decide)) (G_unsaid.mono (by decide)) (G_Forms_take.mono (by decide))
  have G__law_odd := fx__law_odd (P := l.prog) (w := w) (base := base) B a__law_odd O_NoMoment_Bared L_Bared T_NoMoment O_NoMoment_Clash L_Clash O_NoMoment_NoBound L_NoBound O_NoMoment_NoListener L_NoListener O_NoMoment_NoMark L_NoMark O_NoMoment_NoPerson L_NoPerson O_NoRow_Bared T_NoRow O_NoRow_Clash O_NoRow_NoBound O_NoRow_NoListener O_NoRow_NoMark O_NoRow_NoPerson O_NoMoment_NotAlike L_NotAlike O_NoMoment_NoText L_NoText O_NoMoment_NoWorld L_NoWorld O_NoMoment_Same L_Same O_NoRow_NotAlike O_NoRow_NoText O_NoRow_NoWorld O_NoRow_Same
  have G__law_word := fx__law_word (P := l.prog) (w := w) (base := base) B a__law_word (G_weights.mono (by decide)) (G__law_odd.mono (by decide)) T_NoMoment T_NoRow O_NoMoment_NoRow O_NoRow_NoMoment I_NoMoment_ValueError I_NoRow_ValueError X_ValueError I_NoMoment_LookupError I_NoRow_LookupError X_LookupError (GR_weights.mono (by decide))
  have G__law_draw := fx__law_draw (P := l.prog) (w := w) (base := base) B a__law_draw
  have G__law_number := fx__law_number (P := l.prog) (w := w) (base := base) B a__law_number (G__law_draw.mono (by decide))
  have G__law_row := fx__law_row (P := l.prog) (w := w) (base := base) B a__law_row (G__law_draw.mono (by decide))
  have G__law_past := fx__law_past (P := l.prog) (w := w) (base := base) B a__law_past (G__law_draw.mono (by decide)) (G__law_number.mono (by decide)) (G__law_row.mono (by decide))
  have G__law_due := fx__law_due (P := l.prog) (w := w) (base := base) B a__law_due
  have G_law := fx_law (P := l.prog) (w := w) (base := base) B a_law (G__law_bag.mono (by decide)) (G__law_word.mono (by decide)) (G__law_past.mono (by decide)) (G__law_draw.mono (by decide)) (G__law_due.mono (by decide))
  exact G_law
end K03
open PySem PySem.W PyProof.Rows
set_option maxRecDepth 100000 in
set_option maxHeartbeats 0 in
theorem PySem.Challenge.cw_halfknown_k03_moments_and_rows_refused_holds : PySem.Challenge.rw_halfknown_k03_moments_and_rows_refused.Holds := by
  w_on; o_law; k_head; (case hw => w_witness2)
  k_fill
  refine Hq.walkG (l := PySem.Challenge.rw_halfknown_k03_moments_and_rows_refused) (n := 63) (k := 5) (x := "_law_script") (st := K03.s_law) (W := Vq.Wof K03.sp_law) rfl (by decide) rfl ⟨rfl, by decide, by decide⟩ rfl (fun w h Y => PySem.W.kIn_of Y) ?F ?W
  case W => exact fun ns h => Vq.wof_law ⟨ns, rfl, rfl, rfl⟩
  case F =>
    intro w mg h KX G
    refine' K03.all_mk KX G ?gForms ?pgForms ?hdForms ?poForms ?saForms ?mkForms ?kcForms ?noForms0 ?noForms1 ?noForms2 ?noForms3 ?gNoMoment ?owNoMoment ?kpNoMoment ?sbNoMoment ?tyNoMoment ?seNoMoment ?xgNoMoment ?xkNoMoment ?xdNoMoment ?xaNoMoment ?xnNoMoment ?xtNoMoment ?xmNoMoment ?gNoRow ?owNoRow ?kpNoRow ?sbNoRow ?tyNoRow ?seNoRow ?xgNoRow ?xkNoRow ?xdNoRow ?xaNoRow ?xnNoRow ?xtNoRow ?xmNoRow ?gBared ?hdBared ?tyBared ?gClash ?hdClash ?tyClash ?gNoBound ?hdNoBound ?tyNoBound ?gNoListener ?hdNoListener ?tyNoListener ?gNoMark ?hdNoMark ?tyNoMark ?gNoPerson ?hdNoPerson ?tyNoPerson ?gNotAlike ?hdNotAlike ?tyNotAlike ?gNoText ?hdNoText ?tyNoText ?gNoWorld ?hdNoWorld ?tyNoWorld ?gSame ?hdSame ?tySame ?oNoMoment_NoRow ?oNoMoment_Bared ?oNoMoment_Clash ?oNoMoment_NoBound ?oNoMoment_NoListener ?oNoMoment_NoMark ?oNoMoment_NoPerson ?oNoMoment_NotAlike ?oNoMoment_NoText ?oNoMoment_NoWorld ?oNoMoment_Same ?oNoRow_NoMoment ?oNoRow_Bared ?oNoRow_Clash ?oNoRow_NoBound ?oNoRow_NoListener ?oNoRow_NoMark ?oNoRow_NoPerson ?oNoRow_NotAlike ?oNoRow_NoText ?oNoRow_NoWorld ?oNoRow_Same ?iNoMomentLookupError ?iNoMomentValueError ?iNoRowLookupError ?iNoRowValueError ?xLookupError ?xValueError ?a0 ?l0 ?c0 ?k0 ?a1 ?i1 ?l1 ?c1 ?k1 ?a2 ?i2 ?l2 ?c2 ?k2 ?a3 ?l3 ?c3 ?k3 ?a4 ?i4 ?l4 ?c4 ?k4 ?a5 ?l5 ?c5 ?k5 ?d5_0 ?a6 ?l6 ?c6 ?k6 ?a7 ?l7 ?c7 ?k7 ?a8 ?l8 ?c8 ?k8 ?a9 ?l9 ?c9 ?k9 ?a10 ?l10 ?c10 ?k10 ?a11 ?l11 ?c11 ?k11 ?a12 ?l12 ?c12 ?k12 ?a13 ?l13 ?c13 ?k13 ?z0 ?z1 ?z2 ?z3 ?z4 ?z5 ?z6 ?z7 ?z8 ?z9 ?z10 ?z11 ?z12 ?z13 ?z14 ?z15 ?z16 ?z17
    (case gForms => k_is)
    (case pgForms => k_is)
    (case hdForms => k_is)
    (case poForms => k_is)
    (case saForms => k_is)
    (case mkForms => k_is)
    (case kcForms => k_is)
    (case noForms0 => k_is)
    (case noForms1 => k_is)
    (case noForms2 => k_is)
    (case noForms3 => k_is)
    (case gNoMoment => k_is)
    (case owNoMoment => k_exc)
    (case kpNoMoment => k_is)
    (case sbNoMoment => k_is)
    (case tyNoMoment => k_is)
    (case seNoMoment => k_is)
    (case xgNoMoment => k_is)
    (case xkNoMoment => k_is)
    (case xdNoMoment => k_is)
    (case xaNoMoment => k_is)
    (case xnNoMoment => k_is)
    (case xtNoMoment => k_is)
    (case xmNoMoment => k_is)
    (case gNoRow => k_is)
    (case owNoRow => k_exc)
    (case kpNoRow => k_is)
    (case sbNoRow => k_is)
    (case tyNoRow => k_is)
    (case seNoRow => k_is)
    (case xgNoRow => k_is)
    (case xkNoRow => k_is)
    (case xdNoRow => k_is)
    (case xaNoRow => k_is)
    (case xnNoRow => k_is)
    (case xtNoRow => k_is)
    (case xmNoRow => k_is)
    (case gBared => k_is)
    (case hdBared => k_is)
    (case tyBared => k_is)
    (case gClash => k_is)
    (case hdClash => k_is)
    (case tyClash => k_is)
    (case gNoBound => k_is)
    (case hdNoBound => k_is)
    (case tyNoBound => k_is)
    (case gNoListener => k_is)
    (case hdNoListener => k_is)
    (case tyNoListener => k_is)
    (case gNoMark => k_is)
    (case hdNoMark => k_is)
    (case tyNoMark => k_is)
    (case gNoPerson => k_is)
    (case hdNoPerson => k_is)
    (case tyNoPerson => k_is)
    (case gNotAlike => k_is)
    (case hdNotAlike => k_is)
    (case tyNotAlike => k_is)
    (case gNoText => k_is)
    (case hdNoText => k_is)
    (case tyNoText => k_is)
    (case gNoWorld => k_is)
    (case hdNoWorld => k_is)
    (case tyNoWorld => k_is)
    (case gSame => k_is)
    (case hdSame => k_is)
    (case tySame => k_is)
    (case oNoMoment_NoRow => k_is)
    (case oNoMoment_Bared => k_is)
    (case oNoMoment_Clash => k_is)
    (case oNoMoment_NoBound => k_is)
    (case oNoMoment_NoListener => k_is)
    (case oNoMoment_NoMark => k_is)
    (case oNoMoment_NoPerson => k_is)
    (case oNoMoment_NotAlike => k_is)
    (case oNoMoment_NoText => k_is)
    (case oNoMoment_NoWorld => k_is)
    (case oNoMoment_Same => k_is)
    (case oNoRow_NoMoment => k_is)
    (case oNoRow_Bared => k_is)
    (case oNoRow_Clash => k_is)
    (case oNoRow_NoBound => k_is)
    (case oNoRow_NoListener => k_is)
    (case oNoRow_NoMark => k_is)
    (case oNoRow_NoPerson => k_is)
    (case oNoRow_NotAlike => k_is)
    (case oNoRow_NoText => k_is)
    (case oNoRow_NoWorld => k_is)
    (case oNoRow_Same => k_is)
    (case iNoMomentLookupError => k_is)
    (case iNoMomentValueError => k_is)
    (case iNoRowLookupError => k_is)
    (case iNoRowValueError => k_is)
    (case xLookupError => k_is)
    (case xValueError => k_is)
    (case a0 => k_is)
    (case l0 => k_is)
    (case c0 => k_is)
    (case k0 => k_is)
    (case a1 => k_is)
    (case i1 => k_is)
    (case l1 => k_is)
    (case c1 => k_is)
    (case k1 => k_is)
    (case a2 => k_is)
    (case i2 => k_is)
    (case l2 => k_is)
    (case c2 => k_is)
    (case k2 => k_is)
    (case a3 => k_is)
    (case l3 => k_is)
    (case c3 => k_is)
    (case k3 => k_is)
    (case a4 => k_is)
    (case i4 => k_is)
    (case l4 => k_is)
    (case c4 => k_is)
    (case k4 => k_is)
    (case a5 => k_is)
    (case l5 => k_is)
    (case c5 => k_is)
    (case k5 => k_is)
    (case d5_0 => k_is)
    (case a6 => k_is)
    (case l6 => k_is)
    (case c6 => k_is)
    (case k6 => k_is)
    (case a7 => k_is)
    (case l7 => k_is)
    (case c7 => k_is)
    (case k7 => k_is)
    (case a8 => k_is)
    (case l8 => k_is)
    (case c8 => k_is)
    (case k8 => k_is)
    (case a9 => k_is)
    (case l9 => k_is)
    (case c9 => k_is)
    (case k9 => k_is)
    (case a10 => k_is)
    (case l10 => k_is)
    (case c10 => k_is)
    (case k10 => k_is)
    (case a11 => k_is)
    (case l11 => k_is)
    (case c11 => k_is)
    (case k11 => k_is)
    (case a12 => k_is)
    (case l12 => k_is)
    (case c12 => k_is)
    (case k12 => k_is)
    (case a13 => k_is)
    (case l13 => k_is)
    (case c13 => k_is)
    (case k13 => k_is)
    (case z0 => k_is)
    (case z1 => k_is)
    (case z2 => k_is)
    (case z3 => k_is)
    (case z4 => k_is)
    (case z5 => k_is)
    (case z6 => k_is)
    (case z7 => k_is)
    (case z8 => k_is)
    (case z9 => k_is)
    (case z10 => k_is)
    (case z11 => k_is)
    (case z12 => k_is)
    (case z13 => k_is)
    (case z14 => k_is)
    (case z15 => k_is)
    (case z16 => k_is)
    (case z17 => k_is)
#print axioms PySem.Challenge.cw_halfknown_k03_moments_and_rows_refused_holds
