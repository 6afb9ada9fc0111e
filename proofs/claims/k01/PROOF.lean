import PyProof.Rows.All
import Wide.All
import OpenK.AllK
import Wide.FinOn
import HandS.ForMost
import HandS.Wide
import HandS.IsInst
import HandS.RaiseMore
import PyProof.ReprRoads
import HandS.Conv
import HandS.Zip
import HandS.ForDict
import HandS.Style
import PyProof.CollectIter
import PyProof.WalksMore
import HandS.SetFor
import HandS.NoneIn
import PySem.Challenge.RW_halfknown_k01_faults_found
set_option Elab.async false
set_option linter.all false
set_option maxRecDepth 100000
set_option maxHeartbeats 4000000
/-! Core: a logic of abstract states over the hand layer: slots known by data, cells that may change, all else frozen. -/
namespace Hq
open PySem PySem.Spec PyProof.Rows L2
/-! ### data and cells -/
inductive R where
  | no
  | d (x : PyData)
  | v (x : V)
  /-- the script, or a list of ints of the module -/
  | s (ns : List Int)
  /-- a tuple, part by part -/
  | t (rs : List R)
theorem sameT {K : PySem.W.Frag} {H H' : Hp} {a : Addr} {xs : List V} (e : Same H H') (h : SqT K H a xs) : SqT K H' a xs := by
  rcases h with (h | ⟨o, h⟩) | h
  · exact .inl (.inl (e _ _ h))
  · exact .inl (.inr ⟨o, e _ _ h⟩)
  · exact .inr h
/-! data of any depth, each list and tuple tracked -/
mutual
inductive Dq (F : Hp) : V → PyData → Prop
  | non : Dq F .non .none
  | bl (b : Bool) : Dq F (.bl b) (.bool b)
  | int (i : Int) : Dq F (.int i) (.int i)
  | str (x : Str) : Dq F (.str x) (.str x)
  | lst {a : Addr} {xs : List V} {ds : List PyData} : F a = some (.lst xs) → Dqs F xs ds → Dq F (.ref a) (.list ds)
  | tup {a : Addr} {xs : List V} {ds : List PyData} : F a = some (.tup xs) → Dqs F xs ds → Dq F (.ref a) (.tuple ds)
inductive Dqs (F : Hp) : List V → List PyData → Prop
  | nil : Dqs F [] []
  | cons {v : V} {vs : List V} {d : PyData} {ds : List PyData} : Dq F v d → Dqs F vs ds → Dqs F (v :: vs) (d :: ds)
end
section
variable {K : PySem.W.Frag} {F F' H H' : Hp}
mutual
theorem dq_up (e : Same F F') : ∀ (x : PyData) (v : V), Dq F v x → Dq F' v x
  | .none, _, h => by cases h; exact .non
  | .bool b, _, h => by cases h; exact .bl b
  | .int i, _, h => by cases h; exact .int i
  | .str s, _, h => by cases h; exact .str s
  | .list ds, _, h => by
    cases h with
    | lst h1 h2 => exact .lst (e _ _ h1) (dqs_up e ds _ h2)
  | .tuple ds, _, h => by
    cases h with
    | tup h1 h2 => exact .tup (e _ _ h1) (dqs_up e ds _ h2)
  | .dict _, _, h => by cases h
theorem dqs_up (e : Same F F') : ∀ (ds : List PyData) (vs : List V), Dqs F vs ds → Dqs F' vs ds
  | [], _, h => by cases h; exact .nil
  | d :: ds, _, h => by
    cases h with
    | cons h1 h2 => exact .cons (dq_up e d _ h1) (dqs_up e ds _ h2)
end
mutual
theorem dq_dp : ∀ (x : PyData) (v : V), Dq F v x → Dp K F v x
  | .none, _, h => by cases h; exact .non
  | .bool b, _, h => by cases h; exact .bl b
  | .int i, _, h => by cases h; exact .int i
  | .str s, _, h => by cases h; exact .str s
  | .list ds, _, h => by
    cases h with
    | lst h1 h2 => exact .lst (SqL.of h1) (dqs_dp ds _ h2)
  | .tuple ds, _, h => by
    cases h with
    | tup h1 h2 => exact .tup (SqT.of h1) (dqs_dp ds _ h2)
  | .dict _, _, h => by cases h
theorem dqs_dp : ∀ (ds : List PyData) (vs : List V), Dqs F vs ds → DpAll K F vs ds
  | [], _, h => by cases h; exact .nil
  | d :: ds, _, h => by
    cases h with
    | cons h1 h2 => exact .cons (dq_dp d _ h1) (dqs_dp ds _ h2)
end
mutual
def Rr (K : PySem.W.Frag) (F : Hp) (x : V) : R → Prop
  | .no => True
  | .d p => Dq F x p
  | .v y => x = y
  | .s ns => ∃ a, x = .ref a ∧ SqL K F a (ns.map V.int)
  | .t rs => ∃ a xs, x = .ref a ∧ F a = some (.tup xs) ∧ Rrt K F xs rs
def Rrt (K : PySem.W.Frag) (F : Hp) (xs : List V) : List R → Prop
  | [] => xs = []
  | r :: rs => ∃ y ys, xs = y :: ys ∧ Rr K F y r ∧ Rrt K F ys rs
end
mutual
theorem Rr.up {x : V} {r : R} (e : Same F F') (h : Rr K F x r) : Rr K F' x r := by
  cases r with
  | no => unfold Rr; trivial
  | d p => unfold Rr at h ⊢; exact dq_up e p x h
  | v y => unfold Rr at h ⊢; exact h
  | s ns => unfold Rr at h ⊢; obtain ⟨a, b, c⟩ := h; exact ⟨a, b, e.seq c⟩
  | t rs => unfold Rr at h ⊢; obtain ⟨a, xs, b, c, d⟩ := h; exact ⟨a, xs, b, e _ _ c, Rrt.up e d⟩
theorem Rrt.up {xs : List V} {rs : List R} (e : Same F F') (h : Rrt K F xs rs) : Rrt K F' xs rs := by
  cases rs with
  | nil => unfold Rrt at h ⊢; exact h
  | cons r rs => unfold Rrt at h ⊢; obtain ⟨y, ys, a, b, c⟩ := h; exact ⟨y, ys, a, Rr.up e b, Rrt.up e c⟩
end
abbrev Rrs (K : PySem.W.Frag) (F : Hp) : List V → List R → Prop := Paired (Rr K F)
theorem rrt_rrs : ∀ {xs : List V} {rs : List R}, Rrt K F xs rs → Rrs K F xs rs
  | _, [], h => by unfold Rrt at h; subst h; exact .nil
  | _, r :: rs, h => by unfold Rrt at h; obtain ⟨y, ys, a, b, c⟩ := h; subst a; exact .cons b (rrt_rrs c)
theorem rrs_rrt : ∀ {xs : List V} {rs : List R}, Rrs K F xs rs → Rrt K F xs rs
  | _, [], h => by cases h; unfold Rrt; rfl
  | _, r :: rs, h => by
    cases h with
    | cons a b => unfold Rrt; exact ⟨_, _, rfl, a, rrs_rrt b⟩
theorem rr_d {x : V} {p : PyData} : Rr K F x (.d p) ↔ Dq F x p := by unfold Rr; exact Iff.rfl
theorem rr_v {x y : V} : Rr K F x (.v y) ↔ x = y := by unfold Rr; exact Iff.rfl
theorem rr_s {x : V} {ns : List Int} : Rr K F x (.s ns) ↔ ∃ a, x = .ref a ∧ SqL K F a (ns.map V.int) := by unfold Rr; exact Iff.rfl
theorem rr_t {x : V} {rs : List R} : Rr K F x (.t rs) ↔ ∃ a xs, x = .ref a ∧ F a = some (.tup xs) ∧ Rrs K F xs rs := by
  unfold Rr
  exact ⟨fun ⟨a, xs, b, c, d⟩ => ⟨a, xs, b, c, rrt_rrs d⟩, fun ⟨a, xs, b, c, d⟩ => ⟨a, xs, b, c, rrs_rrt d⟩⟩
theorem Rrs.up {xs : List V} {rs : List R} (e : Same F F') (h : Rrs K F xs rs) : Rrs K F' xs rs := Paired.mono (fun _ _ q => q.up e) h
inductive Cell where
  | lst (rs : List R)
  | ins (C dx : Addr) (fs : List (Str × R))
  | dT (kvs : List (List Key × R))
  | dK (kvs : List (Key × R))
  | raw (o : HO)
def CellOk (K : PySem.W.Frag) (F H : Hp) (p : Addr) : Cell → Prop
  | .lst rs => ∃ xs, H p = some (.lst xs) ∧ Rrs K F xs rs
  | .ins C dx fs => ∃ gs, H p = some (.ins C dx gs) ∧ Paired (fun (a : Str × V) (b : Str × R) => a.1 = b.1 ∧ Rr K F a.2 b.2) gs fs
  | .dT kvs => ∃ gs, H p = some (.dT gs) ∧ Paired (fun (a : List Key × V) (b : List Key × R) => a.1 = b.1 ∧ Rr K F a.2 b.2) gs kvs
  | .dK kvs => ∃ gs, H p = some (.dK gs) ∧ Paired (fun (a : Key × V) (b : Key × R) => a.1 = b.1 ∧ Rr K F a.2 b.2) gs kvs
  | .raw o => H p = some o
abbrev Mem := List (Addr × Cell)
abbrev ads (M : Mem) : List Addr := M.map (·.1)
theorem CellOk.up {p : Addr} {c : Cell} (e : Same F F') (hp : H' p = H p) (h : CellOk K F H p c) : CellOk K F' H' p c := by
  cases c with
  | lst rs => obtain ⟨xs, a, b⟩ := h; exact ⟨xs, hp.trans a, b.up e⟩
  | ins C dx fs => obtain ⟨xs, a, b⟩ := h; exact ⟨xs, hp.trans a, Paired.mono (fun _ _ q => ⟨q.1, q.2.up e⟩) b⟩
  | dT kvs => obtain ⟨xs, a, b⟩ := h; exact ⟨xs, hp.trans a, Paired.mono (fun _ _ q => ⟨q.1, q.2.up e⟩) b⟩
  | dK kvs => obtain ⟨xs, a, b⟩ := h; exact ⟨xs, hp.trans a, Paired.mono (fun _ _ q => ⟨q.1, q.2.up e⟩) b⟩
  | raw o => exact hp.trans h
theorem CellOk.here {p : Addr} {c : Cell} (h : CellOk K F H p c) : ∃ o, H p = some o := by
  cases c with
  | lst rs => obtain ⟨xs, a, b⟩ := h; exact ⟨_, a⟩
  | ins C dx fs => obtain ⟨xs, a, b⟩ := h; exact ⟨_, a⟩
  | dT kvs => obtain ⟨xs, a, b⟩ := h; exact ⟨_, a⟩
  | dK kvs => obtain ⟨xs, a, b⟩ := h; exact ⟨_, a⟩
  | raw o => exact ⟨_, h⟩
structure Ms (K : PySem.W.Frag) (M : Mem) (F H : Hp) : Prop where
  ex : Same F H
  mem : ∀ p c, (p, c) ∈ M → F p = none ∧ CellOk K F H p c
  nd : (ads M).Nodup
structure Go (M : Mem) (F H : Hp) (M' : Mem) (F' H' : Hp) : Prop where
  ex : Same F F'
  fr : ∀ p o, H p = some o → p ∉ ads M → H' p = some o
  nf : ∀ p o, H p = some o → F p = none → p ∉ ads M → F' p = none
  nw : ∀ p, p ∈ ads M' → p ∈ ads M ∨ H p = none
end
section
variable {K : PySem.W.Frag} {M M' M1 M2 : Mem} {F F' F1 F2 H H' H1 H2 : Hp}
theorem Go.refl : Go M F H M F H := ⟨Same.refl F, fun _ _ h _ => h, fun _ _ _ h _ => h, fun _ h => .inl h⟩
theorem Go.trans (a : Go M F H M1 F1 H1) (b : Go M1 F1 H1 M2 F2 H2) : Go M F H M2 F2 H2 := by
  have out : ∀ p o, H p = some o → p ∉ ads M → p ∉ ads M1 := fun p o h n z => (a.nw p z).elim n fun q => by rw [h] at q; cases q
  refine ⟨a.ex.trans b.ex, fun p o h n => b.fr p o (a.fr p o h n) (out p o h n), fun p o h f n => b.nf p o (a.fr p o h n) (a.nf p o h f n) (out p o h n), fun p h => ?_⟩
  rcases b.nw p h with z | z
  · exact a.nw p z
  · cases q : H p with
    | none => exact .inr rfl
    | some o =>
      by_cases m : p ∈ ads M
      · exact .inl m
      · rw [a.fr p o q m] at z; cases z
/-- a new object that is frozen at once -/
theorem Ms.newF {p : Addr} {o : HO} (m : Ms K M F H) (np : H p = none) : Ms K M (upd F p o) (upd H p o) ∧ Go M F H M (upd F p o) (upd H p o) := by
  have nF : F p = none := m.ex.free np
  have sF : Same F (upd F p o) := fun b u e => by rw [upd_ne (ne_of_none e nF)]; exact e
  have nM : ∀ q c, (q, c) ∈ M → q ≠ p := fun q c h e => by
    obtain ⟨u, hu⟩ := (m.mem q c h).2.here
    rw [e, np] at hu; cases hu
  refine ⟨⟨fun b u e => ?_, fun q c h => ?_, m.nd⟩, ⟨sF, fun q u h _ => by rw [upd_ne (ne_of_none h np)]; exact h, fun q u h f _ => by rw [upd_ne (ne_of_none h np)]; exact f, fun _ h => .inl h⟩⟩
  · by_cases hb : b = p
    · subst hb; rw [upd_same] at e ⊢; exact e
    · rw [upd_ne hb] at e ⊢; exact m.ex b u e
  · have hq := nM q c h
    exact ⟨by rw [upd_ne hq]; exact (m.mem q c h).1, (m.mem q c h).2.up sF (upd_ne hq)⟩
/-- a new object that stays open: a cell -/
theorem Ms.newC {A B : Mem} {p : Addr} {o : HO} {c : Cell} (m : Ms K (A ++ B) F H) (np : H p = none) (hc : CellOk K F (upd H p o) p c) :
    Ms K (A ++ (p, c) :: B) F (upd H p o) ∧ Go (A ++ B) F H (A ++ (p, c) :: B) F (upd H p o) := by
  have nF : F p = none := m.ex.free np
  have nM : ∀ q c, (q, c) ∈ A ++ B → q ≠ p := fun q c h e => by
    obtain ⟨u, hu⟩ := (m.mem q c h).2.here
    rw [e, np] at hu; cases hu
  have nA : p ∉ ads (A ++ B) := fun h => by
    obtain ⟨⟨q, c⟩, h1, h2⟩ := List.mem_map.mp h
    exact nM q c h1 h2
  refine ⟨⟨fun b u e => by rw [upd_ne (ne_of_none e nF)]; exact m.ex b u e, fun q c' h => ?_, ?_⟩, ⟨Same.refl F, fun q u h _ => by rw [upd_ne (ne_of_none h np)]; exact h, fun q u h f _ => f, fun q h => ?_⟩⟩
  · rcases List.mem_append.mp h with h | h
    · have z := List.mem_append_left B h
      exact ⟨(m.mem q c' z).1, (m.mem q c' z).2.up (Same.refl F) (upd_ne (nM q c' z))⟩
    · rcases List.mem_cons.mp h with h | h
      · cases h; exact ⟨nF, hc⟩
      · have z := List.mem_append_right A h
        exact ⟨(m.mem q c' z).1, (m.mem q c' z).2.up (Same.refl F) (upd_ne (nM q c' z))⟩
  · have nd := m.nd
    simp only [ads, List.map_append, List.map_cons] at nd nA ⊢
    rw [List.nodup_append] at nd ⊢
    obtain ⟨n1, n2, n3⟩ := nd
    rw [List.mem_append, not_or] at nA
    refine ⟨n1, List.nodup_cons.mpr ⟨nA.2, n2⟩, fun a ha b hb => ?_⟩
    rcases List.mem_cons.mp hb with rfl | hb
    · exact fun e => nA.1 (e ▸ ha)
    · exact n3 a ha b hb
  · simp only [ads, List.map_append, List.map_cons, List.mem_append, List.mem_cons] at h ⊢
    rcases h with h | rfl | h
    · exact .inl (.inl h)
    · exact .inr np
    · exact .inl (.inr h)
/-- a cell is written -/
theorem Ms.write {A B : Mem} {p : Addr} {o : HO} {c c' : Cell} (m : Ms K (A ++ (p, c) :: B) F H) (hc : CellOk K F (upd H p o) p c') :
    Ms K (A ++ (p, c') :: B) F (upd H p o) ∧ Go (A ++ (p, c) :: B) F H (A ++ (p, c') :: B) F (upd H p o) := by
  have ead : ads (A ++ (p, c') :: B) = ads (A ++ (p, c) :: B) := by simp [ads]
  have nF : F p = none := (m.mem p c (by simp)).1
  have nM : ∀ q c2, (q, c2) ∈ A ∨ (q, c2) ∈ B → q ≠ p := fun q c2 h e => by
    have nd := m.nd
    simp only [ads, List.map_append, List.map_cons] at nd
    rw [List.nodup_append] at nd
    obtain ⟨n1, n2, n3⟩ := nd
    rcases h with h | h
    · exact n3 q (List.mem_map.mpr ⟨_, h, rfl⟩) p (by simp) e
    · exact (List.nodup_cons.mp n2).1 (List.mem_map.mpr ⟨_, h, e⟩)
  refine ⟨⟨fun b u e => by rw [upd_ne (ne_of_none e nF)]; exact m.ex b u e, fun q c2 h => ?_, by rw [ead]; exact m.nd⟩, ⟨Same.refl F, fun q u h n => ?_, fun q u h f _ => f, fun q h => .inl (by rw [← ead]; exact h)⟩⟩
  · rcases List.mem_append.mp h with h | h
    · have z := m.mem q c2 (List.mem_append_left _ h)
      exact ⟨z.1, z.2.up (Same.refl F) (upd_ne (nM q c2 (.inl h)))⟩
    · rcases List.mem_cons.mp h with h | h
      · cases h; exact ⟨nF, hc⟩
      · have z := m.mem q c2 (List.mem_append_right _ (List.mem_cons_of_mem _ h))
        exact ⟨z.1, z.2.up (Same.refl F) (upd_ne (nM q c2 (.inr h)))⟩
  · rw [upd_ne (fun e => n (by rw [e]; simp [ads]))]
    exact h
/-- cells forgotten -/
theorem Ms.drop (m : Ms K M F H) (h : M'.Sublist M) : Ms K M' F H ∧ Go M F H M' F H :=
  ⟨⟨m.ex, fun p c q => m.mem p c (h.subset q), (h.map _).nodup m.nd⟩, ⟨Same.refl F, fun _ _ q _ => q, fun _ _ _ f _ => f, fun p q => .inl ((h.map _).subset q)⟩⟩
/-- cells in another order -/
theorem Ms.perm (m : Ms K M F H) (h : M'.Perm M) : Ms K M' F H ∧ Go M F H M' F H :=
  ⟨⟨m.ex, fun p c q => m.mem p c (h.subset q), (h.map _).nodup_iff.mpr m.nd⟩, ⟨Same.refl F, fun _ _ q _ => q, fun _ _ _ f _ => f, fun p q => .inl ((h.map _).subset q)⟩⟩
/-- a cell frozen -/
theorem Ms.freeze {A B : Mem} {p : Addr} {c : Cell} {o : HO} (m : Ms K (A ++ (p, c) :: B) F H) (hp : H p = some o) : Ms K (A ++ B) (upd F p o) H ∧ Go (A ++ (p, c) :: B) F H (A ++ B) (upd F p o) H := by
  have nF : F p = none := (m.mem p c (by simp)).1
  have sF : Same F (upd F p o) := fun b u e => by rw [upd_ne (ne_of_none e nF)]; exact e
  have nd := m.nd
  simp only [ads, List.map_append, List.map_cons] at nd
  rw [List.nodup_append] at nd
  obtain ⟨n1, n2, n3⟩ := nd
  have nM : ∀ q c2, (q, c2) ∈ A ∨ (q, c2) ∈ B → q ≠ p := fun q c2 h e => by
    rcases h with h | h
    · exact n3 q (List.mem_map.mpr ⟨_, h, rfl⟩) p (by simp) e
    · exact (List.nodup_cons.mp n2).1 (List.mem_map.mpr ⟨_, h, e⟩)
  have sub : (A ++ B).Sublist (A ++ (p, c) :: B) := List.Sublist.append_left (List.sublist_cons_self _ _) A
  refine ⟨⟨fun b u e => ?_, fun q c2 h => ?_, (sub.map _).nodup m.nd⟩, ⟨sF, fun q u h _ => h, fun q u h f n => ?_, fun q h => .inl ((sub.map _).subset h)⟩⟩
  · by_cases hb : b = p
    · subst hb; rw [upd_same] at e; cases e; exact hp
    · rw [upd_ne hb] at e; exact m.ex b u e
  · have z := m.mem q c2 (sub.subset h)
    exact ⟨by rw [upd_ne (nM q c2 (List.mem_append.mp h))]; exact z.1, z.2.up sF rfl⟩
  · rw [upd_ne (fun e => n (by rw [e]; simp [ads]))]
    exact f
/-! ### slots -/
def Sl (K : PySem.W.Frag) (F : Hp) (σ : L2.St) (ds : List R) : Prop := σ.length = ds.length ∧ ∀ (i : Nat) (r : R), ds[i]? = some r → r ≠ R.no → ∃ v, σ[i]? = some (some v) ∧ Rr K F v r
theorem Sl.up {σ : L2.St} {ds : List R} (e : Same F F') (h : Sl K F σ ds) : Sl K F' σ ds := ⟨h.1, fun i r a b => let ⟨v, p, q⟩ := h.2 i r a b; ⟨v, p, q.up e⟩⟩
theorem Sl.set {σ : L2.St} {ds : List R} {i : Nat} {v : V} {r : R} (h : Sl K F σ ds) (q : Rr K F v r) : Sl K F (σ.set i (some v)) (ds.set i r) := by
  refine ⟨by simp [h.1], fun j r' a b => ?_⟩
  by_cases hj : i = j
  · subst hj
    by_cases hl : i < ds.length
    · rw [List.getElem?_set_self hl] at a
      cases a
      exact ⟨v, by rw [List.getElem?_set_self (by rw [h.1]; exact hl)], q⟩
    · rw [List.getElem?_eq_none (by simpa using hl)] at a; cases a
  · rw [List.getElem?_set_ne hj] at a ⊢
    exact h.2 j r' a b
/-- slots forgotten -/
def Wk : List R → List R → Prop
  | [], [] => True
  | a :: as, b :: bs => (b = .no ∨ a = b) ∧ Wk as bs
  | _, _ => False
theorem Wk.refl : ∀ ds : List R, Wk ds ds
  | [] => trivial
  | _ :: r => ⟨.inr rfl, Wk.refl r⟩
theorem Wk.spec : ∀ {ds ds' : List R}, Wk ds ds' → ds.length = ds'.length ∧ ∀ (i : Nat) (r : R), ds'[i]? = some r → r ≠ R.no → ds[i]? = some r
  | [], [], _ => ⟨rfl, fun i r a _ => a⟩
  | a :: as, b :: bs, h => by
    obtain ⟨h1, h2⟩ := h
    obtain ⟨l, s⟩ := Wk.spec h2
    refine ⟨by simp [l], fun i r e n => ?_⟩
    cases i with
    | zero =>
      have e' : b = r := by simpa using e
      subst e'
      rcases h1 with z | z
      · exact absurd z n
      · simp [z]
    | succ i => simpa using s i r (by simpa using e) n
  | [], _ :: _, h => h.elim
  | _ :: _, [], h => h.elim
theorem Sl.weak {σ : L2.St} {ds ds' : List R} (h : Sl K F σ ds) (w : Wk ds ds') : Sl K F σ ds' := by
  obtain ⟨l, s⟩ := w.spec
  exact ⟨h.1.trans l, fun i r a b => h.2 i r (s i r a b) b⟩
structure Sta (K : PySem.W.Frag) (σ : L2.St) (ds : List R) (M : Mem) (F H : Hp) : Prop where
  sl : Sl K F σ ds
  ms : Ms K M F H
theorem Sta.go {σ : L2.St} {ds : List R} (s : Sta K σ ds M F H) (g : Go M F H M' F' H') (m : Ms K M' F' H') : Sta K σ ds M' F' H' := ⟨s.sl.up g.ex, m⟩
/-! ### what comes of an expression -/
def Out (K : PySem.W.Frag) (M : Mem) (F H : Hp) (Q : R → Mem → Prop) : VK := fun v H' => ∃ F' M' r, Rr K F' v r ∧ Q r M' ∧ Ms K M' F' H' ∧ Go M F H M' F' H'
theorem Out.trans {Q : R → Mem → Prop} {v : V} {H2 : Hp} (g : Go M F H M1 F1 H1) (h : Out K M1 F1 H1 Q v H2) : Out K M F H Q v H2 := by
  obtain ⟨F', M', r, a, b, c, d⟩ := h
  exact ⟨F', M', r, a, b, c, g.trans d⟩
theorem Out.mk0 {Q : R → Mem → Prop} {v : V} {r : R} (m : Ms K M F H) (a : Rr K F v r) (q : Q r M) : Out K M F H Q v H := ⟨F, M, r, a, q, m, Go.refl⟩
theorem Out.mk {Q : R → Mem → Prop} {v : V} {r : R} (m : Ms K M' F' H' ∧ Go M F H M' F' H') (a : Rr K F' v r) (q : Q r M') : Out K M F H Q v H' := ⟨F', M', r, a, q, m.1, m.2⟩
end
/-! ### the canonical readings -/
def cE (X : Cx) (e : Expr) : TE := fun σ H Q => ∀ pins s, Inv X pins σ H s → wpAny (model X.prog X.w) X.A (eval e X.env) (EP X pins σ Q) X.xe s
def cT (X : Cx) (e : Expr) : TT := fun σ H Q => ∀ pins s, Inv X pins σ H s → wpAny (model X.prog X.w) X.A (isTrue e X.env (eval e X.env)) (TP X pins σ Q) X.xe s
def cA (X : Cx) (es : List Expr) : TA := fun σ H Q => ∀ pos pins s, Inv X pins σ H s → wpAny (model X.prog X.w) X.A (spliced (backTo pos (starEach es X.env))) (AP X pins σ Q) X.xe s
def cS (X : Cx) (st : Stmt) : TS := fun D σ H => ∀ pins s, Inv X pins σ H s → wpAny (model X.prog X.w) X.A (exec st X.env) (SP X pins D) X.xe s
def cB (X : Cx) (st : List Stmt) : TS := fun D σ H => ∀ pins s, Inv X pins σ H s → wpAny (model X.prog X.w) X.A (execs st X.env) (SP X pins D) X.xe s
def cG (X : Cx) (tg : Expr) : TG := fun v σ H Q => ∀ pins s u, Inv X pins σ H s → RelV v u → wpAny (model X.prog X.w) X.A (assign tg X.env u) (fun _ s' => ∃ σ' H', Inv X pins σ' H' s' ∧ Q σ' H') X.xe s
def cI (X : Cx) (tg iter : Expr) : TI := fun σ H R => ∀ pins s, Inv X pins σ H s → wpAny (model X.prog X.w) X.A (eval iter X.env) (fun v s1 => wpAny (model X.prog X.w) X.A (pyIter v) (PIE X pins σ tg R) X.xe s1) X.xe s
def cO (X : Cx) (e : Option Expr) : TO := fun σ H Q => ∀ pins s, Inv X pins σ H s → wpAny (model X.prog X.w) X.A (evalPart e X.env) (fun u s' => ∃ o H', Inv X pins σ H' s' ∧ IsPart u o ∧ Q o H') X.xe s
def cK (X : Cx) (kws : List Keyword) : TA := fun σ H Q => ∀ pos pins s, Inv X pins σ H s → wpAny (model X.prog X.w) X.A (evalAll ((backToKw pos (keywordEach kws X.env)).map (·.2))) (AP X pins σ Q) X.xe s
def cTs (X : Cx) (ifs : List Expr) : TT := fun σ H Q => ∀ pins s, Inv X pins σ H s →
    wpAny (model X.prog X.w) X.A (forIn ifs true fun c r => if r = true then do let ok ← isTrue c X.env (eval c X.env); pure (ForInStep.yield ok) else pure (ForInStep.yield r)) (TP X pins σ Q) X.xe s
section
variable {X : Cx}
theorem peC (e : Expr) : PE X e (cE X e) := ⟨fun pins s _ _ _ I h => h pins s I⟩
theorem ptC (e : Expr) : PT X e (cT X e) := ⟨fun pins s _ _ _ I h => h pins s I⟩
theorem paC (es : List Expr) : PA X es (cA X es) := ⟨fun pos pins s _ _ _ I h => h pos pins s I⟩
theorem psC (st : Stmt) : PS X st (cS X st) := ⟨fun pins s _ _ _ I h => h pins s I⟩
theorem pbC (st : List Stmt) : PSs X st (cB X st) := ⟨fun pins s _ _ _ I h => h pins s I⟩
theorem pgC (tg : Expr) : PG X tg (cG X tg) := ⟨fun pins s _ _ _ u _ I r h => h pins s u I r⟩
theorem piC (tg iter : Expr) : PI X tg iter (cI X tg iter) := ⟨fun pins s _ _ _ I h => h pins s I⟩
theorem poC (e : Option Expr) : PO X e (cO X e) := ⟨fun pins s _ _ _ I h => h pins s I⟩
theorem pkC (kws : List Keyword) : PK X kws (cK X kws) := ⟨fun pos pins s _ _ _ I h => h pos pins s I⟩
theorem ptsC (ifs : List Expr) : PTs X ifs (cTs X ifs) := ⟨fun pins s _ _ _ I h => h pins s I⟩
variable {σ : L2.St} {H : Hp}
theorem cE_mono {e : Expr} {Q Q' : VK} (h : cE X e σ H Q) (q : ∀ v H', Q v H' → Q' v H') : cE X e σ H Q' := fun pins s I => thn (h pins s I) fun _ _ ⟨v, H', I', r, z⟩ => ⟨v, H', I', r, q v H' z⟩
theorem cT_mono {e : Expr} {Q Q' : Bool → Hp → Prop} (h : cT X e σ H Q) (q : ∀ v H', Q v H' → Q' v H') : cT X e σ H Q' := fun pins s I => thn (h pins s I) fun _ _ ⟨H', I', z⟩ => ⟨H', I', q _ H' z⟩
theorem cA_mono {es : List Expr} {Q Q' : List V → Hp → Prop} (h : cA X es σ H Q) (q : ∀ v H', Q v H' → Q' v H') : cA X es σ H Q' := fun pos pins s I => thn (h pos pins s I) fun _ _ ⟨v, H', I', r, z⟩ => ⟨v, H', I', r, q v H' z⟩
theorem cK_mono {ks : List Keyword} {Q Q' : List V → Hp → Prop} (h : cK X ks σ H Q) (q : ∀ v H', Q v H' → Q' v H') : cK X ks σ H Q' := fun pos pins s I => thn (h pos pins s I) fun _ _ ⟨v, H', I', r, z⟩ => ⟨v, H', I', r, q v H' z⟩
theorem cO_mono {e : Option Expr} {Q Q' : Option Int → Hp → Prop} (h : cO X e σ H Q) (q : ∀ v H', Q v H' → Q' v H') : cO X e σ H Q' := fun pins s I => thn (h pins s I) fun _ _ ⟨v, H', I', r, z⟩ => ⟨v, H', I', r, q v H' z⟩
theorem cTs_mono {ifs : List Expr} {Q Q' : Bool → Hp → Prop} (h : cTs X ifs σ H Q) (q : ∀ v H', Q v H' → Q' v H') : cTs X ifs σ H Q' := fun pins s I => thn (h pins s I) fun _ _ ⟨H', I', z⟩ => ⟨H', I', q _ H' z⟩
theorem cI_mono {tg iter : Expr} {Q Q' : It → Hp → Prop} (h : cI X tg iter σ H Q) (q : ∀ v H', Q v H' → Q' v H') : cI X tg iter σ H Q' := fun pins s I => thn (h pins s I) fun _ _ z => thn z fun _ _ ⟨it, fp, tn, J, H', e, I2, T, st, f, z⟩ => ⟨it, fp, tn, J, H', e, I2, T, st, f, q J H' z⟩
theorem cG_mono {tg : Expr} {x : V} {Q Q' : L2.St → Hp → Prop} (h : cG X tg x σ H Q) (q : ∀ v H', Q v H' → Q' v H') : cG X tg x σ H Q' := fun pins s u I r => thn (h pins s u I r) fun _ _ ⟨v, H', I', z⟩ => ⟨v, H', I', q v H' z⟩
/-- weaker ends -/
structure Ends.Le (D D' : Ends) : Prop where
  nx : ∀ σ H, D.nx σ H → D'.nx σ H
  rt : ∀ v H, D.rt v H → D'.rt v H
  bk : ∀ σ H, D.bk σ H → D'.bk σ H
  ct : ∀ σ H, D.ct σ H → D'.ct σ H
theorem sp_mono {pins : List (Addr × Obj)} {D D' : Ends} {f : Flow} {s' : Shared} (h : SP X pins D f s') (q : Ends.Le D D') : SP X pins D' f s' := by
  cases f with
  | next => obtain ⟨σ', H', I, z⟩ := h; exact ⟨σ', H', I, q.nx _ _ z⟩
  | brk => obtain ⟨σ', H', I, z⟩ := h; exact ⟨σ', H', I, q.bk _ _ z⟩
  | cont => obtain ⟨σ', H', I, z⟩ := h; exact ⟨σ', H', I, q.ct _ _ z⟩
  | ret u => obtain ⟨v, σ', H', I, r, z⟩ := h; exact ⟨v, σ', H', I, r, q.rt _ _ z⟩
theorem cS_mono {st : Stmt} {D D' : Ends} (h : cS X st D σ H) (q : Ends.Le D D') : cS X st D' σ H := fun pins s I => thn (h pins s I) fun _ _ z => sp_mono z q
theorem cB_mono {st : List Stmt} {D D' : Ends} (h : cB X st D σ H) (q : Ends.Le D D') : cB X st D' σ H := fun pins s I => thn (h pins s I) fun _ _ z => sp_mono z q
end
/-! ### the judgements -/
section
variable (K : PySem.W.Frag)
def OutB (M : Mem) (F H : Hp) (Q : Bool → Mem → Prop) : Bool → Hp → Prop := fun b H' => ∃ F' M', Q b M' ∧ Ms K M' F' H' ∧ Go M F H M' F' H'
def OutA (M : Mem) (F H : Hp) (Q : List R → Mem → Prop) : List V → Hp → Prop := fun vs H' => ∃ F' M' rs, Rrs K F' vs rs ∧ Q rs M' ∧ Ms K M' F' H' ∧ Go M F H M' F' H'
def OutO (M : Mem) (F H : Hp) (Q : Option Int → Mem → Prop) : Option Int → Hp → Prop := fun b H' => ∃ F' M', Q b M' ∧ Ms K M' F' H' ∧ Go M F H M' F' H'
def OutS (M : Mem) (F H : Hp) (Q : List R → Mem → Prop) : L2.St → Hp → Prop := fun σ' H' => ∃ F' M' ds', Sl K F' σ' ds' ∧ Q ds' M' ∧ Ms K M' F' H' ∧ Go M F H M' F' H'
end
/-- what is to hold at a statement's ends -/
structure Po where
  nx : List R → Mem → Prop
  rt : R → Mem → Prop
  bk : List R → Mem → Prop := fun _ _ => False
  ct : List R → Mem → Prop := fun _ _ => False
def OutD (K : PySem.W.Frag) (M : Mem) (F H : Hp) (D : Po) : Ends := ⟨OutS K M F H D.nx, Out K M F H D.rt, OutS K M F H D.bk, OutS K M F H D.ct⟩
def EX (X : Cx) (e : Expr) (ds : List R) (M : Mem) (Q : R → Mem → Prop) : Prop := ∀ σ F H, Sta X.K σ ds M F H → cE X e σ H (Out X.K M F H Q)
def TX (X : Cx) (e : Expr) (ds : List R) (M : Mem) (Q : Bool → Mem → Prop) : Prop := ∀ σ F H, Sta X.K σ ds M F H → cT X e σ H (OutB X.K M F H Q)
def AX (X : Cx) (es : List Expr) (ds : List R) (M : Mem) (Q : List R → Mem → Prop) : Prop := ∀ σ F H, Sta X.K σ ds M F H → cA X es σ H (OutA X.K M F H Q)
def KX (X : Cx) (ks : List Keyword) (ds : List R) (M : Mem) (Q : List R → Mem → Prop) : Prop := ∀ σ F H, Sta X.K σ ds M F H → cK X ks σ H (OutA X.K M F H Q)
def OX (X : Cx) (e : Option Expr) (ds : List R) (M : Mem) (Q : Option Int → Mem → Prop) : Prop := ∀ σ F H, Sta X.K σ ds M F H → cO X e σ H (OutO X.K M F H Q)
def TsX (X : Cx) (es : List Expr) (ds : List R) (M : Mem) (Q : Bool → Mem → Prop) : Prop := ∀ σ F H, Sta X.K σ ds M F H → cTs X es σ H (OutB X.K M F H Q)
def GX (X : Cx) (tg : Expr) (r : R) (ds : List R) (M : Mem) (Q : List R → Mem → Prop) : Prop := ∀ σ F H v, Sta X.K σ ds M F H → Rr X.K F v r → cG X tg v σ H (OutS X.K M F H Q)
def BX (X : Cx) (st : List Stmt) (ds : List R) (M : Mem) (D : Po) : Prop := ∀ σ F H, Sta X.K σ ds M F H → cB X st (OutD X.K M F H D) σ H
def SX (X : Cx) (st : Stmt) (ds : List R) (M : Mem) (D : Po) : Prop := ∀ σ F H, Sta X.K σ ds M F H → cS X st (OutD X.K M F H D) σ H
/-- with one end alone -/
def DX (X : Cx) (e : Expr) (ds : List R) (M : Mem) (r : R) (M' : Mem) : Prop := ∀ Q : R → Mem → Prop, Q r M' → EX X e ds M Q
def DT (X : Cx) (e : Expr) (ds : List R) (M : Mem) (b : Bool) (M' : Mem) : Prop := ∀ Q : Bool → Mem → Prop, Q b M' → TX X e ds M Q
def DA (X : Cx) (es : List Expr) (ds : List R) (M : Mem) (rs : List R) (M' : Mem) : Prop := ∀ Q : List R → Mem → Prop, Q rs M' → AX X es ds M Q
def DK (X : Cx) (es : List Keyword) (ds : List R) (M : Mem) (rs : List R) (M' : Mem) : Prop := ∀ Q : List R → Mem → Prop, Q rs M' → KX X es ds M Q
def DO (X : Cx) (e : Option Expr) (ds : List R) (M : Mem) (o : Option Int) (M' : Mem) : Prop := ∀ Q : Option Int → Mem → Prop, Q o M' → OX X e ds M Q
section
variable {X : Cx} {e a b c : Expr} {es : List Expr} {ds : List R} {M M1 M2 : Mem} {pos p : Pos}
theorem EX.mono {Q Q' : R → Mem → Prop} (h : EX X e ds M Q) (q : ∀ r M', Q r M' → Q' r M') : EX X e ds M Q' := fun σ F H s => cE_mono (h σ F H s) fun v H' ⟨F', M', r, a, b, c, d⟩ => ⟨F', M', r, a, q r M' b, c, d⟩
theorem TX.mono {Q Q' : Bool → Mem → Prop} (h : TX X e ds M Q) (q : ∀ r M', Q r M' → Q' r M') : TX X e ds M Q' := fun σ F H s => cT_mono (h σ F H s) fun v H' ⟨F', M', b, c, d⟩ => ⟨F', M', q v M' b, c, d⟩
theorem AX.mono {Q Q' : List R → Mem → Prop} (h : AX X es ds M Q) (q : ∀ r M', Q r M' → Q' r M') : AX X es ds M Q' := fun σ F H s => cA_mono (h σ F H s) fun v H' ⟨F', M', r, a, b, c, d⟩ => ⟨F', M', r, a, q r M' b, c, d⟩
theorem outS_mono {K : PySem.W.Frag} {F H : Hp} {Q Q' : List R → Mem → Prop} (q : ∀ r M', Q r M' → Q' r M') : ∀ σ H', OutS K M F H Q σ H' → OutS K M F H Q' σ H' := fun σ H' ⟨F', M', r, a, b, c, d⟩ => ⟨F', M', r, a, q r M' b, c, d⟩
theorem BX.mono {st : List Stmt} {D D' : Po} (h : BX X st ds M D) (n : ∀ r M', D.nx r M' → D'.nx r M') (r : ∀ r M', D.rt r M' → D'.rt r M') (b : ∀ r M', D.bk r M' → D'.bk r M') (c : ∀ r M', D.ct r M' → D'.ct r M') : BX X st ds M D' :=
  fun σ F H s => cB_mono (h σ F H s) ⟨outS_mono n, fun v H' ⟨F', M', x, a, b, c, d⟩ => ⟨F', M', x, a, r x M' b, c, d⟩, outS_mono b, outS_mono c⟩
theorem DX.of {r : R} (h : ∀ Q : R → Mem → Prop, Q r M1 → EX X e ds M Q) : DX X e ds M r M1 := h
/-- an expression by its rule in the hand layer -/
theorem ex_pe {t : TE} {Q : R → Mem → Prop} (h : PE X e t) (q : ∀ σ F H, Sta X.K σ ds M F H → t σ H (Out X.K M F H Q)) : EX X e ds M Q := fun σ F H s pins sh I => h.run pins sh σ H _ I (q σ F H s)
theorem tx_pt {t : TT} {Q : Bool → Mem → Prop} (h : PT X e t) (q : ∀ σ F H, Sta X.K σ ds M F H → t σ H (OutB X.K M F H Q)) : TX X e ds M Q := fun σ F H s pins sh I => h.run pins sh σ H _ I (q σ F H s)
theorem ax_pa {t : TA} {Q : List R → Mem → Prop} (h : PA X es t) (q : ∀ σ F H, Sta X.K σ ds M F H → t σ H (OutA X.K M F H Q)) : AX X es ds M Q := fun σ F H s pos pins sh I => h.run pos pins sh σ H _ I (q σ F H s)
theorem sx_ps {st : Stmt} {t : TS} {D : Po} (h : PS X st t) (q : ∀ σ F H, Sta X.K σ ds M F H → t (OutD X.K M F H D) σ H) : SX X st ds M D := fun σ F H s pins sh I => h.run pins sh σ H _ I (q σ F H s)
theorem bx_pss {st : List Stmt} {t : TS} {D : Po} (h : PSs X st t) (q : ∀ σ F H, Sta X.K σ ds M F H → t (OutD X.K M F H D) σ H) : BX X st ds M D := fun σ F H s pins sh I => h.run pins sh σ H _ I (q σ F H s)
theorem gx_pg {t : TG} {r : R} {Q : List R → Mem → Prop} (h : PG X e t) (q : ∀ σ F H v, Sta X.K σ ds M F H → Rr X.K F v r → t v σ H (OutS X.K M F H Q)) : GX X e r ds M Q := fun σ F H v s z pins sh u I w => h.run pins sh σ H v u _ I w (q σ F H v s z)
/-- the ends of a run that begins later -/
theorem outD_go {K : PySem.W.Frag} {F H F1 H1 : Hp} {D : Po} (g : Go M F H M1 F1 H1) : Ends.Le (OutD K M1 F1 H1 D) (OutD K M F H D) :=
  ⟨fun _ _ ⟨F', M', ds', a, b, c, d⟩ => ⟨F', M', ds', a, b, c, g.trans d⟩, fun _ _ h => Out.trans g h, fun _ _ ⟨F', M', ds', a, b, c, d⟩ => ⟨F', M', ds', a, b, c, g.trans d⟩, fun _ _ ⟨F', M', ds', a, b, c, d⟩ => ⟨F', M', ds', a, b, c, g.trans d⟩⟩
end
def notStar : Expr → Bool
  | .Starred .. => false
  | _ => true
theorem st_any {e : Expr} {es : List Expr} {env : Env} (h : notStar e = true) : starEach (e :: es) env = (false, eval e env) :: starEach es env := by
  cases e <;> first | rfl | exact nomatch h
theorem as_any {e : Expr} {es : List Expr} {env : Env} (h : notStar e = true) : (assignEach (e :: es) env).map (·.2) = assign e env :: (assignEach es env).map (·.2) := by
  cases e <;> first | rfl | exact nomatch h
def notComp : Expr → Bool
  | .ListComp .. => false
  | .SetComp .. => false
  | .DictComp .. => false
  | _ => true
theorem sw_not {e : Expr} {t : Option Expr} {l : Nat} {env : Env} (h : notComp e = true) : swapsWith e t l env = pure false := by
  cases e <;> first | rfl | exact nomatch h
theorem sws_not {e t : Expr} {l : Nat} {env : Env} (h : notComp e = true) : swapsWithSole [t] e l env = pure false := sw_not h
def shortL {α : Type} : Nat → List α → Bool
  | _, [] => true
  | 0, _ => false
  | n + 1, _ :: xs => shortL n xs
theorem len_ok {α : Type} : ∀ {n : Nat} {xs : List α}, shortL n xs = true → xs.length ≤ n
  | _, [], _ => Nat.zero_le _
  | 0, _ :: _, h => nomatch h
  | n + 1, _ :: xs, h => Nat.succ_le_succ (len_ok (n := n) (xs := xs) h)
end Hq
/-! Expr: the rules for expressions. -/
namespace Hq
open PySem PySem.Spec PyProof.Rows L2
/-! ### typed data -/
class TD (α : Type) where
  td : α → PyData
abbrev td {α : Type} [TD α] (x : α) : PyData := TD.td x
instance : TD Int := ⟨.int⟩
instance : TD Bool := ⟨.bool⟩
instance : TD Str := ⟨.str⟩
instance : TD PyData := ⟨fun x => x⟩
instance {α : Type} [TD α] : TD (List α) := ⟨fun xs => .list (xs.map td)⟩
instance {α β : Type} [TD α] [TD β] : TD (α × β) := ⟨fun p => .tuple [td p.1, td p.2]⟩
instance {α : Type} [TD α] : TD (Option α) := ⟨fun o => match o with | none => .none | some x => td x⟩
abbrev T {α : Type} [TD α] (x : α) : R := .d (td x)
section
variable {K : PySem.W.Frag} {F F' H H' : Hp} {M M' : Mem} {v : V}
theorem rr_int {i : Int} (h : Rr K F v (T i)) : v = .int i := by have h := rr_d.mp h; cases h; rfl
theorem rr_bl {i : Bool} (h : Rr K F v (T i)) : v = .bl i := by have h := rr_d.mp h; cases h; rfl
theorem rr_str {i : Str} (h : Rr K F v (T i)) : v = .str i := by have h := rr_d.mp h; cases h; rfl
theorem rrI {i : Int} : Rr K F (.int i) (T i) := rr_d.mpr (Dq.int i)
theorem rrB {i : Bool} : Rr K F (.bl i) (T i) := rr_d.mpr (Dq.bl i)
theorem rrS {i : Str} : Rr K F (.str i) (T i) := rr_d.mpr (Dq.str i)
theorem rrN : Rr K F .non (R.d .none) := rr_d.mpr Dq.non
theorem dqs_rrs : ∀ {vs : List V} {xs : List PyData}, Dqs F vs xs → Rrs K F vs (xs.map R.d)
  | _, [], h => by cases h; exact .nil
  | _, x :: xs, h => by
    cases h with
    | cons a b => exact .cons (rr_d.mpr a) (dqs_rrs b)
theorem rrs_dqs : ∀ {vs : List V} {xs : List PyData}, Rrs K F vs (xs.map R.d) → Dqs F vs xs
  | _, [], h => by cases h; exact .nil
  | _, x :: xs, h => by
    cases h with
    | cons a b => exact .cons (rr_d.mp a) (rrs_dqs b)
theorem rrs_get : ∀ {vs : List V} {rs : List R} {i : Nat} {r : R}, Rrs K F vs rs → rs[i]? = some r → ∃ v, vs[i]? = some v ∧ Rr K F v r
  | _, _, i, r, .nil, e => by simp at e
  | _, _, 0, r, .cons a b, e => by simp at e; subst e; exact ⟨_, rfl, a⟩
  | _, _, i + 1, r, .cons a b, e => by simpa using rrs_get b (by simpa using e)
theorem rrs_atI {vs : List V} {rs : List R} {i : Int} {r : R} (h : Rrs K F vs rs) (e : atI rs i = some r) : ∃ v, atI vs i = some v ∧ Rr K F v r := by
  unfold atI at e ⊢
  rw [h.length]
  cases q : ixN rs.length i with
  | none => rw [q] at e; cases e
  | some j =>
    rw [q] at e
    exact rrs_get h e
theorem rrs_ints : ∀ {vs : List V} {ns : List Int}, Rrs K F vs (ns.map T) → vs = ns.map V.int
  | _, [], h => by cases h; rfl
  | _, n :: ns, h => by
    cases h with
    | cons a b => rw [rr_int a, rrs_ints b]; rfl
theorem rrs_bls : ∀ {vs : List V} {ns : List Bool}, Rrs K F vs (ns.map T) → vs = ns.map V.bl
  | _, [], h => by cases h; rfl
  | _, n :: ns, h => by
    cases h with
    | cons a b => rw [rr_bl a, rrs_bls b]; rfl
theorem rrs_strs : ∀ {vs : List V} {ns : List Str}, Rrs K F vs (ns.map T) → vs = ns.map V.str
  | _, [], h => by cases h; rfl
  | _, n :: ns, h => by
    cases h with
    | cons a b => rw [rr_str a, rrs_strs b]; rfl
theorem ints_rrs : ∀ (ns : List Int), Rrs K F (ns.map V.int) (ns.map T)
  | [] => .nil
  | n :: ns => .cons rrI (ints_rrs ns)
theorem T_map {α : Type} [TD α] (xs : List α) : (xs.map td).map R.d = xs.map T := by rw [List.map_map]; rfl
theorem atI_map {α β : Type} (f : α → β) (xs : List α) (i : Int) : atI (xs.map f) i = (atI xs i).map f := by
  unfold atI
  rw [List.length_map]
  cases ixN xs.length i with
  | none => rfl
  | some j => simp
/-- a list that may be read: frozen, a cell, the script -/
inductive IsL (M : Mem) : R → List R → Prop
  | fz (xs : List PyData) : IsL M (.d (.list xs)) (xs.map R.d)
  | cl {p : Addr} {rs : List R} : (p, Cell.lst rs) ∈ M → IsL M (.v (.ref p)) rs
  | sc (ns : List Int) : IsL M (.s ns) (ns.map T)
theorem isL_T {α : Type} [TD α] (xs : List α) : IsL M (T xs) (xs.map T) := by rw [← T_map]; exact .fz _
theorem IsL.get {r : R} {rs : List R} (h : IsL M r rs) (m : Ms K M F H) (q : Rr K F v r) : ∃ p xs, v = .ref p ∧ SqL K H p xs ∧ Rrs K F xs rs := by
  cases h with
  | fz xs =>
    have q := rr_d.mp q
    cases q with
    | lst a b => exact ⟨_, _, rfl, m.ex.seq (SqL.of a), dqs_rrs b⟩
  | cl h =>
    have q := rr_v.mp q
    subst q
    obtain ⟨xs, a, b⟩ := (m.mem _ _ h).2
    exact ⟨_, xs, rfl, SqL.of a, b⟩
  | sc ns =>
    obtain ⟨a, rfl, c⟩ := rr_s.mp q
    exact ⟨a, _, rfl, m.ex.seq c, ints_rrs ns⟩
/-- .. tracked -/
inductive IsM (M : Mem) : R → List R → Prop
  | fz (xs : List PyData) : IsM M (.d (.list xs)) (xs.map R.d)
  | cl {p : Addr} {rs : List R} : (p, Cell.lst rs) ∈ M → IsM M (.v (.ref p)) rs
theorem isM_T {α : Type} [TD α] (xs : List α) : IsM M (T xs) (xs.map T) := by rw [← T_map]; exact .fz _
theorem IsM.l {r : R} {rs : List R} (h : IsM M r rs) : IsL M r rs := by cases h with | fz xs => exact .fz xs | cl h => exact .cl h
theorem IsM.get {r : R} {rs : List R} (h : IsM M r rs) (m : Ms K M F H) (q : Rr K F v r) : ∃ p xs, v = .ref p ∧ H p = some (.lst xs) ∧ Rrs K F xs rs := by
  cases h with
  | fz xs =>
    have q := rr_d.mp q
    cases q with
    | lst a b => exact ⟨_, _, rfl, m.ex _ _ a, dqs_rrs b⟩
  | cl h =>
    have q := rr_v.mp q
    subst q
    obtain ⟨xs, a, b⟩ := (m.mem _ _ h).2
    exact ⟨_, xs, rfl, a, b⟩
/-- a tuple -/
inductive IsT (M : Mem) : R → List R → Prop
  | fz (xs : List PyData) : IsT M (.d (.tuple xs)) (xs.map R.d)
  | pt (rs : List R) : IsT M (.t rs) rs
theorem IsT.get {r : R} {rs : List R} (h : IsT M r rs) (m : Ms K M F H) (q : Rr K F v r) : ∃ p xs, v = .ref p ∧ H p = some (.tup xs) ∧ Rrs K F xs rs := by
  cases h with
  | fz xs =>
    have q := rr_d.mp q
    cases q with
    | tup a b => exact ⟨_, _, rfl, m.ex _ _ a, dqs_rrs b⟩
  | pt rs =>
    obtain ⟨a, xs, b, c, d⟩ := rr_t.mp q
    exact ⟨a, xs, b, m.ex _ _ c, d⟩
end
/-! ### names, constants -/
section
variable {X : Cx} {e a b c : Expr} {es : List Expr} {ds : List R} {M M1 M2 : Mem} {pos p : Pos} {Q : R → Mem → Prop} {QB : Bool → Mem → Prop} {QA : List R → Mem → Prop} {r r1 r2 : R}
theorem ex_var (i : Nat) {x : Str} (h : ds[i]? = some r) (q : Q r M) (n : r ≠ R.no := by nofun) (hN : X.N[i]? = some x := by rfl) (hv : Vis X.env.scope x := by first | exact Or.inl rfl | exact Or.inr (Or.inl rfl) | exact Or.inr (Or.inr rfl)) (hd : (x == ("__debug__" : Str)) = false := by decide)
    (hcd : (x == ("__classdict__" : Str)) = false := by decide) : EX X (.Name x p) ds M Q := ex_pe (pe_var hN hv hd hcd) fun σ F H s => by
  obtain ⟨v, a, b⟩ := s.sl.2 i r h n
  exact ⟨v, a, Out.mk0 s.ms b q⟩
theorem dx_var (i : Nat) {x : Str} (h : ds[i]? = some r := by rfl) (n : r ≠ R.no := by nofun) (hN : X.N[i]? = some x := by rfl) (hv : Vis X.env.scope x := by first | exact Or.inl rfl | exact Or.inr (Or.inl rfl) | exact Or.inr (Or.inr rfl)) (hd : (x == ("__debug__" : Str)) = false := by decide)
    (hcd : (x == ("__classdict__" : Str)) = false := by decide) : DX X (.Name x p) ds M r M := fun Q q => ex_var i h q n hN hv hd hcd
theorem dx_int {i : Int} {j} : DX X (.Constant (.int i) j pos) ds M (T i) M := fun Q q => ex_pe pe_int fun σ F H s => Out.mk0 s.ms rrI q
theorem dx_bl {i : Bool} {j} : DX X (.Constant (.bool i) j pos) ds M (T i) M := fun Q q => ex_pe pe_bl fun σ F H s => Out.mk0 s.ms rrB q
theorem dx_str {i : Str} {j} : DX X (.Constant (.str i) j pos) ds M (T i) M := fun Q q => ex_pe pe_str fun σ F H s => Out.mk0 s.ms rrS q
theorem dx_non {j} : DX X (.Constant .none j pos) ds M (.d .none) M := fun Q q => ex_pe pe_non fun σ F H s => Out.mk0 s.ms rrN q
theorem dx_is (h : DX X e ds M r M1) (q : r = r1) : DX X e ds M r1 M1 := q ▸ h
/-! ### operators -/
def OpW (K : PySem.W.Frag) (r : R2) (r1 r2 : R) (M : Mem) (Q : R → Mem → Prop) : Prop := ∀ F H x y, Ms K M F H → Rr K F x r1 → Rr K F y r2 → r x y H (Out K M F H Q)
theorem tOp_of {rr : R2} (h : EX X a ds M fun r1 M1 => EX X b ds M1 fun r2 M2 => OpW X.K rr r1 r2 M2 Q) (mo : ∀ x y H (Q Q' : VK), (∀ v H', Q v H' → Q' v H') → rr x y H Q → rr x y H Q') {σ : L2.St} {F H : Hp} (s : Sta X.K σ ds M F H) : tOp rr (cE X a) (cE X b) σ H (Out X.K M F H Q) := by
  refine cE_mono (h σ F H s) fun x H1 ⟨F1, M1, r1, a1, h1, m1, g1⟩ => ?_
  refine cE_mono (h1 σ F1 H1 (s.go g1 m1)) fun y H2 ⟨F2, M2, r2, a2, h2, m2, g2⟩ => ?_
  exact mo _ _ _ _ _ (fun v H' o => Out.trans (g1.trans g2) o) (h2 F2 H2 x y m2 (a1.up g2.ex) a2)
/-- the relation's wish may be weakened -/
def Mo2 (rr : R2) : Prop := ∀ x y H (Q Q' : VK), (∀ v H', Q v H' → Q' v H') → rr x y H Q → rr x y H Q'
theorem ex_op {op : Operator} {rr : R2} (ho : OpR X (binaryOp op) rr) (mo : Mo2 rr) (h : EX X a ds M fun r1 M1 => EX X b ds M1 fun r2 M2 => OpW X.K rr r1 r2 M2 Q) : EX X (.BinOp a op b pos) ds M Q :=
  ex_pe (pe_op ho (peC a) (peC b)) fun _ _ _ s => tOp_of h mo s
theorem dx_op {op : Operator} {rr : R2} {M3 : Mem} {r3 : R} (ho : OpR X (binaryOp op) rr) (mo : Mo2 rr) (ha : DX X a ds M r1 M1) (hb : DX X b ds M1 r2 M2) (hw : ∀ Q : R → Mem → Prop, Q r3 M3 → OpW X.K rr r1 r2 M2 Q) : DX X (.BinOp a op b pos) ds M r3 M3 :=
  fun Q q => ex_op ho mo (ha _ (hb _ (hw Q q)))
theorem ex_cmp {op : CmpOp} {rr : R2} (ho : OpR X (compareOp op) rr) (mo : Mo2 rr) (hm : behindInMarks op b = false) (h : EX X a ds M fun r1 M1 => EX X b ds M1 fun r2 M2 => OpW X.K rr r1 r2 M2 Q) : EX X (.Compare a [op] [b] pos) ds M Q :=
  ex_pe (pe_cmpR ho (peC a) (peC b) hm) fun _ _ _ s => tOp_of h mo s
theorem dx_cmp {op : CmpOp} {rr : R2} {M3 : Mem} {r3 : R} (ho : OpR X (compareOp op) rr) (mo : Mo2 rr) (hm : behindInMarks op b = false) (ha : DX X a ds M r1 M1) (hb : DX X b ds M1 r2 M2) (hw : ∀ Q : R → Mem → Prop, Q r3 M3 → OpW X.K rr r1 r2 M2 Q) : DX X (.Compare a [op] [b] pos) ds M r3 M3 :=
  fun Q q => ex_cmp ho mo hm (ha _ (hb _ (hw Q q)))
theorem outB_of {σ : L2.St} {F H : Hp} {v : V} {H' : Hp} (o : Out X.K M F H (fun r M' => ∃ k : Bool, r = T k ∧ QB k M') v H') : ∃ k, v = .bl k ∧ OutB X.K M F H QB k H' := by
  obtain ⟨F', M', r, h1, ⟨k, rfl, h2⟩, h3, h4⟩ := o
  exact ⟨k, rr_bl h1, F', M', h2, h3, h4⟩
theorem tx_cmp {op : CmpOp} {rr : R2} (ho : OpR X (compareOp op) rr) (mo : Mo2 rr) (hm : behindInMarks op b = false) (h : EX X a ds M fun r1 M1 => EX X b ds M1 fun r2 M2 => OpW X.K rr r1 r2 M2 fun r M' => ∃ k : Bool, r = T k ∧ QB k M') : TX X (.Compare a [op] [b] pos) ds M QB :=
  tx_pt (pt_cmpR ho (peC a) (peC b) hm) fun σ F H s => by
    have q := tOp_of h mo s
    refine cE_mono q fun x H1 z => cE_mono z fun y H2 z2 => mo _ _ _ _ _ (fun v H' o => ?_) z2
    exact outB_of (σ := σ) o
theorem dt_cmp {op : CmpOp} {rr : R2} {M3 : Mem} {k : Bool} (ho : OpR X (compareOp op) rr) (mo : Mo2 rr) (hm : behindInMarks op b = false) (ha : DX X a ds M r1 M1) (hb : DX X b ds M1 r2 M2) (hw : ∀ Q : R → Mem → Prop, Q (T k) M3 → OpW X.K rr r1 r2 M2 Q) : DT X (.Compare a [op] [b] pos) ds M k M3 :=
  fun QB q => tx_cmp ho mo hm (ha _ (hb _ (hw _ ⟨k, rfl, q⟩)))
/-- an expression that is a truth, as a test -/
theorem tx_val (h : EX X e ds M fun r M' => ∃ k : Bool, r = T k ∧ QB k M') (he : ∀ whole, isTrue e X.env whole = (do let v ← whole; standAt e.pos; holding [v] (truthy v)) := by intro _; rfl) : TX X e ds M QB :=
  tx_pt (pt_val (peC e) he) fun σ F H s => cE_mono (h σ F H s) fun v H' o => outB_of (σ := σ) o
theorem dt_val {k : Bool} (h : DX X e ds M (T k) M1) (he : ∀ whole, isTrue e X.env whole = (do let v ← whole; standAt e.pos; holding [v] (truthy v)) := by intro _; rfl) : DT X e ds M k M1 := fun QB q => tx_val (h _ ⟨k, rfl, q⟩) he
theorem mo_I0 {g : Int → Int → V} : Mo2 (rI0 g) := fun x y H Q Q' m ⟨i, j, a, b, q⟩ => ⟨i, j, a, b, m _ _ q⟩
theorem mo_I {C : Int → Int → Prop} {g : Int → Int → V} : Mo2 (rI C g) := fun x y H Q Q' m ⟨i, j, a, b, c, q⟩ => ⟨i, j, a, b, c, m _ _ q⟩
theorem ow_I0 {K : PySem.W.Frag} {g : Int → Int → V} {i j : Int} {r : R} (hz : ∀ F, Rr K F (g i j) r) (q : Q r M) : OpW K (rI0 g) (T i) (T j) M Q := fun F H x y m h1 h2 => ⟨i, j, rr_int h1, rr_int h2, Out.mk0 m (hz F) q⟩
theorem ow_I {K : PySem.W.Frag} {C : Int → Int → Prop} {g : Int → Int → V} {i j : Int} {r : R} (hc : C i j) (hz : ∀ F, Rr K F (g i j) r) (q : Q r M) : OpW K (rI C g) (T i) (T j) M Q := fun F H x y m h1 h2 => ⟨i, j, rr_int h1, rr_int h2, hc, Out.mk0 m (hz F) q⟩
variable {i j : Int}
theorem dx_add (ha : DX X a ds M (T i) M1) (hb : DX X b ds M1 (T j) M2) : DX X (.BinOp a .Add b pos) ds M (T (i + j)) M2 := dx_op op_add mo_I0 ha hb fun Q q => ow_I0 (fun _ => rrI) q
theorem dx_sub (ha : DX X a ds M (T i) M1) (hb : DX X b ds M1 (T j) M2) : DX X (.BinOp a .Sub b pos) ds M (T (i - j)) M2 := dx_op op_sub mo_I0 ha hb fun Q q => ow_I0 (fun _ => rrI) q
theorem dx_mul (hc : CMulW i j) (ha : DX X a ds M (T i) M1) (hb : DX X b ds M1 (T j) M2) : DX X (.BinOp a .Mult b pos) ds M (T (i * j)) M2 := dx_op op_mulW mo_I ha hb fun Q q => ow_I hc (fun _ => rrI) q
theorem dx_mulL (hc : -(2 ^ 64) < i ∧ i < 2 ^ 64) (ha : DX X a ds M (T i) M1) (hb : DX X b ds M1 (T j) M2) : DX X (.BinOp a .Mult b pos) ds M (T (i * j)) M2 := dx_op op_mul mo_I ha hb fun Q q => ow_I (.inl hc) (fun _ => rrI) q
theorem dx_mulR (hc : -(2 ^ 64) < j ∧ j < 2 ^ 64) (ha : DX X a ds M (T i) M1) (hb : DX X b ds M1 (T j) M2) : DX X (.BinOp a .Mult b pos) ds M (T (i * j)) M2 := dx_op op_mul mo_I ha hb fun Q q => ow_I (.inr hc) (fun _ => rrI) q
theorem dx_fdiv (hc : CDivW i j) (ha : DX X a ds M (T i) M1) (hb : DX X b ds M1 (T j) M2) : DX X (.BinOp a .FloorDiv b pos) ds M (T (i / j)) M2 := dx_op op_fdivW mo_I ha hb fun Q q => ow_I hc (fun _ => rrI) q
theorem dx_mod (hc : 0 < j) (ha : DX X a ds M (T i) M1) (hb : DX X b ds M1 (T j) M2) : DX X (.BinOp a .Mod b pos) ds M (T (i % j)) M2 := dx_op op_mod mo_I ha hb fun Q q => ow_I hc (fun _ => rrI) q
theorem dx_pow (hc : CPow i j) (ha : DX X a ds M (T i) M1) (hb : DX X b ds M1 (T j) M2) : DX X (.BinOp a .Pow b pos) ds M (T (i ^ j.toNat)) M2 := dx_op op_pow mo_I ha hb fun Q q => ow_I hc (fun _ => rrI) q
theorem ex_add (h : EX X a ds M fun r1 M1 => ∃ i : Int, r1 = T i ∧ EX X b ds M1 fun r2 M2 => ∃ j : Int, r2 = T j ∧ Q (T (i + j)) M2) : EX X (.BinOp a .Add b pos) ds M Q := ex_op op_add mo_I0 (h.mono fun _ _ ⟨i, e, h⟩ => h.mono fun _ _ ⟨j, e2, q⟩ => by subst e e2; exact ow_I0 (fun _ => rrI) q)
theorem ex_sub (h : EX X a ds M fun r1 M1 => ∃ i : Int, r1 = T i ∧ EX X b ds M1 fun r2 M2 => ∃ j : Int, r2 = T j ∧ Q (T (i - j)) M2) : EX X (.BinOp a .Sub b pos) ds M Q := ex_op op_sub mo_I0 (h.mono fun _ _ ⟨i, e, h⟩ => h.mono fun _ _ ⟨j, e2, q⟩ => by subst e e2; exact ow_I0 (fun _ => rrI) q)
theorem ex_mul (h : EX X a ds M fun r1 M1 => ∃ i : Int, r1 = T i ∧ EX X b ds M1 fun r2 M2 => ∃ j : Int, r2 = T j ∧ CMulW i j ∧ Q (T (i * j)) M2) : EX X (.BinOp a .Mult b pos) ds M Q := ex_op op_mulW mo_I (h.mono fun _ _ ⟨i, e, h⟩ => h.mono fun _ _ ⟨j, e2, c, q⟩ => by subst e e2; exact ow_I c (fun _ => rrI) q)
theorem ex_mod (h : EX X a ds M fun r1 M1 => ∃ i : Int, r1 = T i ∧ EX X b ds M1 fun r2 M2 => ∃ j : Int, r2 = T j ∧ 0 < j ∧ Q (T (i % j)) M2) : EX X (.BinOp a .Mod b pos) ds M Q := ex_op op_mod mo_I (h.mono fun _ _ ⟨i, e, h⟩ => h.mono fun _ _ ⟨j, e2, c, q⟩ => by subst e e2; exact ow_I c (fun _ => rrI) q)
theorem ex_fdiv (h : EX X a ds M fun r1 M1 => ∃ i : Int, r1 = T i ∧ EX X b ds M1 fun r2 M2 => ∃ j : Int, r2 = T j ∧ CDivW i j ∧ Q (T (i / j)) M2) : EX X (.BinOp a .FloorDiv b pos) ds M Q := ex_op op_fdivW mo_I (h.mono fun _ _ ⟨i, e, h⟩ => h.mono fun _ _ ⟨j, e2, c, q⟩ => by subst e e2; exact ow_I c (fun _ => rrI) q)
theorem dx_neg (ha : DX X a ds M (T i) M1) : DX X (.UnaryOp .USub a pos) ds M (T (-i)) M1 := fun Q q => ex_pe (pe_un un_neg (peC a)) fun σ F H s =>
  cE_mono (ha (fun r M' => r = T i ∧ M' = M1) ⟨rfl, rfl⟩ σ F H s) fun v H' ⟨F', M', r, h1, h2, h3, h4⟩ => by
    obtain ⟨e1, e2⟩ := h2
    subst e1 e2
    exact ⟨i, rr_int h1, F', _, _, rrI, q, h3, h4⟩
/-! ### comparisons of ints -/
theorem dx_lt (ha : DX X a ds M (T i) M1) (hb : DX X b ds M1 (T j) M2) : DX X (.Compare a [.Lt] [b] pos) ds M (T (decide (i < j))) M2 := dx_cmp op_lt mo_I0 (nobehind _ (by decide) (by decide)) ha hb fun Q q => ow_I0 (fun _ => rrB) q
theorem dx_le (ha : DX X a ds M (T i) M1) (hb : DX X b ds M1 (T j) M2) : DX X (.Compare a [.LtE] [b] pos) ds M (T (decide (i ≤ j))) M2 := dx_cmp op_le mo_I0 (nobehind _ (by decide) (by decide)) ha hb fun Q q => ow_I0 (fun _ => rrB) q
theorem dx_gt (ha : DX X a ds M (T i) M1) (hb : DX X b ds M1 (T j) M2) : DX X (.Compare a [.Gt] [b] pos) ds M (T (decide (j < i))) M2 := dx_cmp op_gt mo_I0 (nobehind _ (by decide) (by decide)) ha hb fun Q q => ow_I0 (fun _ => rrB) q
theorem dx_ge (ha : DX X a ds M (T i) M1) (hb : DX X b ds M1 (T j) M2) : DX X (.Compare a [.GtE] [b] pos) ds M (T (decide (j ≤ i))) M2 := dx_cmp op_ge mo_I0 (nobehind _ (by decide) (by decide)) ha hb fun Q q => ow_I0 (fun _ => rrB) q
theorem dt_lt (ha : DX X a ds M (T i) M1) (hb : DX X b ds M1 (T j) M2) : DT X (.Compare a [.Lt] [b] pos) ds M (decide (i < j)) M2 := dt_cmp op_lt mo_I0 (nobehind _ (by decide) (by decide)) ha hb fun Q q => ow_I0 (fun _ => rrB) q
theorem dt_le (ha : DX X a ds M (T i) M1) (hb : DX X b ds M1 (T j) M2) : DT X (.Compare a [.LtE] [b] pos) ds M (decide (i ≤ j)) M2 := dt_cmp op_le mo_I0 (nobehind _ (by decide) (by decide)) ha hb fun Q q => ow_I0 (fun _ => rrB) q
theorem dt_gt (ha : DX X a ds M (T i) M1) (hb : DX X b ds M1 (T j) M2) : DT X (.Compare a [.Gt] [b] pos) ds M (decide (j < i)) M2 := dt_cmp op_gt mo_I0 (nobehind _ (by decide) (by decide)) ha hb fun Q q => ow_I0 (fun _ => rrB) q
theorem dt_ge (ha : DX X a ds M (T i) M1) (hb : DX X b ds M1 (T j) M2) : DT X (.Compare a [.GtE] [b] pos) ds M (decide (j ≤ i)) M2 := dt_cmp op_ge mo_I0 (nobehind _ (by decide) (by decide)) ha hb fun Q q => ow_I0 (fun _ => rrB) q
end
def notSlice : Expr → Bool
  | .Slice .. => false
  | _ => true
theorem plain_any {b : Expr} (h : notSlice b = true) : PlainIx b := fun o i => by
  unfold subscripted
  split
  · exact nomatch h
  · rename_i h2; exact nomatch h2
  · rfl
end Hq
/-! Expr2: arguments, displays, subscripts, slices, calls of built-ins, tests, equality, repr. -/
namespace Hq
open PySem PySem.Spec PyProof.Rows L2
section
variable {X : Cx} {e a b c : Expr} {es rest : List Expr} {ds : List R} {M M1 M2 M3 : Mem} {pos p : Pos} {Q : R → Mem → Prop} {QB : Bool → Mem → Prop} {QA : List R → Mem → Prop} {r r1 r2 r3 : R} {rs : List R}
/-! ### arguments -/
theorem ax_nil (q : QA [] M) : AX X [] ds M QA := ax_pa pa_nil fun σ F H s => ⟨F, M, [], .nil, q, s.ms, Go.refl⟩
theorem ax_cons (h : EX X e ds M fun r M1 => AX X es ds M1 fun rs M2 => QA (r :: rs) M2)
    (hs : starEach (e :: es) X.env = (false, eval e X.env) :: starEach es X.env := by exact st_any rfl) : AX X (e :: es) ds M QA := ax_pa (pa_cons (peC e) (paC es) hs) fun σ F H s =>
  cE_mono (h σ F H s) fun x H1 ⟨F1, M1, r1, a1, h1, m1, g1⟩ => cA_mono (h1 σ F1 H1 (s.go g1 m1)) fun xs H2 ⟨F2, M2, rs, a2, h2, m2, g2⟩ => ⟨F2, M2, r1 :: rs, .cons (a1.up g2.ex) a2, h2, m2, g1.trans g2⟩
theorem da_nil : DA X [] ds M [] M := fun Q q => ax_nil q
theorem da_cons (h : DX X e ds M r M1) (h2 : DA X es ds M1 rs M2) (hs : starEach (e :: es) X.env = (false, eval e X.env) :: starEach es X.env := by exact st_any rfl) : DA X (e :: es) ds M (r :: rs) M2 := fun Q q => ax_cons (h _ (h2 _ q)) hs
/-! ### calls of built-ins -/
def CbW (K : PySem.W.Frag) (rr : List V → Hp → VK → Prop) (rs : List R) (M : Mem) (Q : R → Mem → Prop) : Prop := ∀ F H vs, Ms K M F H → Rrs K F vs rs → rr vs H (Out K M F H Q)
def Mo1 (rr : List V → Hp → VK → Prop) : Prop := ∀ x H (Q Q' : VK), (∀ v H', Q v H' → Q' v H') → rr x H Q → rr x H Q'
theorem tCB_of {rr : List V → Hp → VK → Prop} (mo : Mo1 rr) (h : AX X es ds M fun rs M1 => CbW X.K rr rs M1 Q) {σ : L2.St} {F H : Hp} (s : Sta X.K σ ds M F H) : tCB rr (cA X es) σ H (Out X.K M F H Q) :=
  cA_mono (h σ F H s) fun xs H1 ⟨F1, M1, rs, a1, h1, m1, g1⟩ => mo _ _ _ _ (fun v H' o => Out.trans g1 o) (h1 F1 H1 xs m1 a1)
theorem ex_callB {x : Str} {id : String} {rr : List V → Hp → VK → Prop} (hc : CallR X (.builtin id) rr) (mo : Mo1 rr) (hm : X.mg x = none) (hv : bootBuiltins x = some (.builtin id)) (h : AX X (e :: es) ds M fun rs M1 => CbW X.K rr rs M1 Q) (hg : Gl X x := by rfl)
    (hn : x ≠ "__name__" := by decide) (hdb : (x == ("__debug__" : Str)) = false := by decide) (he : starEach (e :: es) X.env = (false, eval e X.env) :: starEach es X.env := by exact st_any rfl) (hpl : (backTo pos (starEach es X.env)).any (·.1) = false := by rfl) : EX X (.Call (.Name x p) (e :: es) [] pos) ds M Q :=
  ex_pe (pe_callB hc hg hm hv (paC _) hn hdb he hpl) fun _ _ _ s => tCB_of mo h s
theorem ex_callTy {x : Str} {id : String} {rr : List V → Hp → VK → Prop} (hc : CallR X (.type id) rr) (mo : Mo1 rr) (hm : X.mg x = none) (hv : bootBuiltins x = some (.type id)) (h : AX X (e :: es) ds M fun rs M1 => CbW X.K rr rs M1 Q) (hg : Gl X x := by rfl)
    (hn : x ≠ "__name__" := by decide) (hdb : (x == ("__debug__" : Str)) = false := by decide) (he : starEach (e :: es) X.env = (false, eval e X.env) :: starEach es X.env := by exact st_any rfl) (hpl : (backTo pos (starEach es X.env)).any (·.1) = false := by rfl) : EX X (.Call (.Name x p) (e :: es) [] pos) ds M Q :=
  ex_pe (pe_callTy hc hg hm hv (paC _) hn hdb he hpl) fun _ _ _ s => tCB_of mo h s
theorem rrs1 {K : PySem.W.Frag} {F : Hp} {vs : List V} {r : R} (h : Rrs K F vs [r]) : ∃ v, vs = [v] ∧ Rr K F v r := by
  cases h with
  | cons a b => cases b; exact ⟨_, rfl, a⟩
theorem rrs2 {K : PySem.W.Frag} {F : Hp} {vs : List V} {r r' : R} (h : Rrs K F vs [r, r']) : ∃ v v', vs = [v, v'] ∧ Rr K F v r ∧ Rr K F v' r' := by
  cases h with
  | cons a b => obtain ⟨v, rfl, c⟩ := rrs1 b; exact ⟨_, v, rfl, a, c⟩
/-- len of a list or a tuple -/
theorem ex_len (hm : X.mg "len" = none) (h : EX X e ds M fun r M1 => ∃ rs, (IsL M1 r rs ∨ IsT M1 r rs) ∧ Q (T (rs.length : Int)) M1) (hg : Gl X "len" := by rfl) (he : starEach [e] X.env = (false, eval e X.env) :: starEach [] X.env := by exact st_any rfl) : EX X (.Call (.Name "len" p) [e] [] pos) ds M Q :=
  ex_callB call_len_seq (fun x H Q Q' m ⟨p, ys, a, b, q⟩ => ⟨p, ys, a, b, m _ _ q⟩) hm PySem.boot_len (ax_cons (h.mono fun r M1 ⟨rs, h1, q⟩ => ax_nil fun F H vs m w => by
    obtain ⟨v, ev, w1⟩ := rrs1 w
    subst ev
    rcases h1 with h1 | h1
    · obtain ⟨p, xs, rfl, a, b⟩ := h1.get m w1
      exact ⟨p, xs, rfl, .inl a, Out.mk0 m (by rw [b.length]; exact rrI) q⟩
    · obtain ⟨p, xs, rfl, a, b⟩ := h1.get m w1
      exact ⟨p, xs, rfl, .inr (SqT.of a), Out.mk0 m (by rw [b.length]; exact rrI) q⟩) he) hg (he := he)
theorem dx_lenT {α : Type} [TD α] {xs : List α} (hm : X.mg "len" = none) (h : DX X e ds M (T xs) M1) (hg : Gl X "len" := by rfl) (he : starEach [e] X.env = (false, eval e X.env) :: starEach [] X.env := by exact st_any rfl) : DX X (.Call (.Name "len" p) [e] [] pos) ds M (T (xs.length : Int)) M1 :=
  fun Q q => ex_len hm (h _ ⟨_, .inl (isL_T xs), by rw [List.length_map]; exact q⟩) hg he
theorem dx_lenL (hm : X.mg "len" = none) (h : DX X e ds M r M1) (hl : IsL M1 r rs) (hg : Gl X "len" := by rfl) (he : starEach [e] X.env = (false, eval e X.env) :: starEach [] X.env := by exact st_any rfl) : DX X (.Call (.Name "len" p) [e] [] pos) ds M (T (rs.length : Int)) M1 :=
  fun Q q => ex_len hm (h _ ⟨_, .inl hl, q⟩) hg he
theorem ex_sum (hm : X.mg "sum" = none) (h : EX X e ds M fun r M1 => ∃ ns : List Int, IsL M1 r (ns.map T) ∧ Q (T ns.sum) M1) (hc : CallR X (.builtin "sum") (rSum X.K)) (hg : Gl X "sum" := by rfl) (he : starEach [e] X.env = (false, eval e X.env) :: starEach [] X.env := by exact st_any rfl) : EX X (.Call (.Name "sum" p) [e] [] pos) ds M Q :=
  ex_callB hc (fun x H Q Q' m ⟨p, ys, a, b, q⟩ => ⟨p, ys, a, b, m _ _ q⟩) hm (by decide +kernel) (ax_cons (h.mono fun r M1 ⟨ns, h1, q⟩ => ax_nil fun F H vs m w => by
    obtain ⟨v, ev, w1⟩ := rrs1 w
    subst ev
    obtain ⟨p, xs, rfl, a, b⟩ := h1.get m w1
    have e := rrs_ints b
    subst e
    exact ⟨p, ns, rfl, a, Out.mk0 m rrI q⟩) he) hg (he := he)
theorem dx_abs {i : Int} (hm : X.mg "abs" = none) (h : DX X e ds M (T i) M1) (hg : Gl X "abs" := by rfl) (he : starEach [e] X.env = (false, eval e X.env) :: starEach [] X.env := by exact st_any rfl) : DX X (.Call (.Name "abs" p) [e] [] pos) ds M (T (if i < 0 then -i else i)) M1 :=
  fun Q q => ex_callB call_abs (fun x H Q Q' m ⟨i, a, q⟩ => ⟨i, a, m _ _ q⟩) hm (by decide +kernel) (ax_cons (h _ (ax_nil fun F H vs m w => by
    obtain ⟨v, ev, w1⟩ := rrs1 w
    subst ev
    exact ⟨i, by rw [rr_int w1], Out.mk0 m rrI q⟩)) he) hg (he := he)
theorem dx_intB {k : Bool} (hm : X.mg "int" = none) (h : DX X e ds M (T k) M1) (hg : Gl X "int" := by rfl) (he : starEach [e] X.env = (false, eval e X.env) :: starEach [] X.env := by exact st_any rfl) : DX X (.Call (.Name "int" p) [e] [] pos) ds M (T (if k then 1 else 0 : Int)) M1 :=
  fun Q q => ex_callTy call_int1 (fun x H Q Q' m w => by
    rcases w with ⟨i, a, q⟩ | ⟨i, a, q⟩
    · exact .inl ⟨i, a, m _ _ q⟩
    · exact .inr ⟨i, a, m _ _ q⟩) hm (by decide +kernel) (ax_cons (h _ (ax_nil fun F H vs m w => by
    obtain ⟨v, ev, w1⟩ := rrs1 w
    subst ev
    exact .inr ⟨k, by rw [rr_bl w1], Out.mk0 m rrI q⟩)) he) hg (he := he)
theorem dx_min2 {i j : Int} (hc : X.calm = true) (hm : X.mg "min" = none) (h : DX X a ds M (T i) M1) (h2 : DX X b ds M1 (T j) M2) (hg : Gl X "min" := by rfl) (he : starEach [a, b] X.env = (false, eval a X.env) :: starEach [b] X.env := by exact st_any rfl) (he2 : starEach [b] X.env = (false, eval b X.env) :: starEach [] X.env := by exact st_any rfl) (hpl : (backTo pos (starEach [b] X.env)).any (·.1) = false := by rfl) : DX X (.Call (.Name "min" p) [a, b] [] pos) ds M (T (if j < i then j else i)) M2 :=
  fun Q q => ex_callB (call_min2 hc) (fun x H Q Q' m ⟨i, j, a, q⟩ => ⟨i, j, a, m _ _ q⟩) hm (by decide +kernel) (ax_cons (h _ (ax_cons (h2 _ (ax_nil fun F H vs m w => by
    obtain ⟨v, v', ev, w1, w2⟩ := rrs2 w
    subst ev
    exact ⟨i, j, by rw [rr_int w1, rr_int w2], Out.mk0 m rrI q⟩)) he2)) he) hg (he := he) (hpl := hpl)
theorem dx_max2 {i j : Int} (hc : X.calm = true) (hm : X.mg "max" = none) (h : DX X a ds M (T i) M1) (h2 : DX X b ds M1 (T j) M2) (hg : Gl X "max" := by rfl) (he : starEach [a, b] X.env = (false, eval a X.env) :: starEach [b] X.env := by exact st_any rfl) (he2 : starEach [b] X.env = (false, eval b X.env) :: starEach [] X.env := by exact st_any rfl) (hpl : (backTo pos (starEach [b] X.env)).any (·.1) = false := by rfl) : DX X (.Call (.Name "max" p) [a, b] [] pos) ds M (T (if j > i then j else i)) M2 :=
  fun Q q => ex_callB (call_max2 hc) (fun x H Q Q' m ⟨i, j, a, q⟩ => ⟨i, j, a, m _ _ q⟩) hm (by decide +kernel) (ax_cons (h _ (ax_cons (h2 _ (ax_nil fun F H vs m w => by
    obtain ⟨v, v', ev, w1, w2⟩ := rrs2 w
    subst ev
    exact ⟨i, j, by rw [rr_int w1, rr_int w2], Out.mk0 m rrI q⟩)) he2)) he) hg (he := he) (hpl := hpl)
/-! ### new lists and tuples: frozen at once, or cells -/
theorem newL {K : PySem.W.Frag} {F H : Hp} {xs : List V} {ys : List PyData} {q : Addr} (m : Ms K M F H) (w : Rrs K F xs (ys.map R.d)) (nq : H q = none) (z : Q (.d (.list ys)) M) : Out K M F H Q (.ref q) (upd H q (.lst xs)) := by
  have k := m.newF (o := .lst xs) nq
  exact Out.mk k (rr_d.mpr (.lst upd_same (rrs_dqs (w.up k.2.ex)))) z
theorem newU {K : PySem.W.Frag} {F H : Hp} {xs : List V} {ys : List PyData} {q : Addr} (m : Ms K M F H) (w : Rrs K F xs (ys.map R.d)) (nq : H q = none) (z : Q (.d (.tuple ys)) M) : Out K M F H Q (.ref q) (upd H q (.tup xs)) := by
  have k := m.newF (o := .tup xs) nq
  exact Out.mk k (rr_d.mpr (.tup upd_same (rrs_dqs (w.up k.2.ex)))) z
theorem newUt {K : PySem.W.Frag} {F H : Hp} {xs : List V} {ys : List R} {q : Addr} (m : Ms K M F H) (w : Rrs K F xs ys) (nq : H q = none) (z : Q (.t ys) M) : Out K M F H Q (.ref q) (upd H q (.tup xs)) := by
  have k := m.newF (o := .tup xs) nq
  exact Out.mk k (rr_t.mpr ⟨q, xs, rfl, upd_same, w.up k.2.ex⟩) z
theorem newLc {K : PySem.W.Frag} {F H : Hp} {A B : Mem} {xs : List V} {ys : List R} {q : Addr} (m : Ms K (A ++ B) F H) (w : Rrs K F xs ys) (nq : H q = none) (z : Q (.v (.ref q)) (A ++ (q, .lst ys) :: B)) : Out K (A ++ B) F H Q (.ref q) (upd H q (.lst xs)) :=
  Out.mk (m.newC (c := .lst ys) nq ⟨xs, upd_same, w⟩) (rr_v.mpr rfl) z
def und : List R → Option (List PyData)
  | [] => some []
  | .d x :: r => match und r with
    | some ys => some (x :: ys)
    | none => none
  | _ :: _ => none
theorem und_map : ∀ {rs : List R} {ys : List PyData}, und rs = some ys → rs = ys.map R.d
  | [], ys, h => by cases h; rfl
  | .d x :: r, ys, h => by
    unfold und at h
    cases q : und r with
    | none => rw [q] at h; cases h
    | some zs => rw [q] at h; cases h; rw [und_map q]; rfl
  | .no :: r, ys, h => by cases h
  | .v _ :: r, ys, h => by cases h
  | .s _ :: r, ys, h => by cases h
  | .t _ :: r, ys, h => by cases h
theorem ex_lst (h : AX X es ds M fun rs M1 => ∃ ys : List PyData, rs = ys.map R.d ∧ ys.length ≤ sizeLine ∧ Q (.d (.list ys)) M1) : EX X (.List es pos) ds M Q := ex_pe (pe_lst (paC es)) fun σ F H s =>
  cA_mono (h σ F H s) fun xs H1 ⟨F1, M1, rs, a1, ⟨ys, e, l, q⟩, m1, g1⟩ => by
    subst e
    exact ⟨by rw [a1.length, List.length_map]; exact l, fun p np => Out.trans g1 (newL m1 a1 np q)⟩
theorem dx_lst {ys : List PyData} (h : DA X es ds M rs M1) (hu : und rs = some ys := by rfl) (hl : ys.length ≤ sizeLine := by exact Nat.le_trans (len_ok (n := 60) rfl) (L2.small64 (by decide))) : DX X (.List es pos) ds M (.d (.list ys)) M1 := fun Q q => ex_lst (h _ ⟨ys, und_map hu, hl, q⟩)
theorem ex_lstC (h : AX X es ds M fun rs M1 => rs.length ≤ sizeLine ∧ ∃ A B, M1 = A ++ B ∧ ∀ p, Q (.v (.ref p)) (A ++ (p, .lst rs) :: B)) : EX X (.List es pos) ds M Q := ex_pe (pe_lst (paC es)) fun σ F H s =>
  cA_mono (h σ F H s) fun xs H1 ⟨F1, M1, rs, a1, ⟨l, A, B, e, q⟩, m1, g1⟩ => by
    subst e
    exact ⟨by rw [a1.length]; exact l, fun p np => Out.trans g1 (newLc m1 a1 np (q p))⟩
theorem ex_tup (h : AX X es ds M fun rs M1 => ∃ ys : List PyData, rs = ys.map R.d ∧ ys.length ≤ sizeLine ∧ Q (.d (.tuple ys)) M1) : EX X (.Tuple es j pos) ds M Q := ex_pe (pe_tup (paC es)) fun σ F H s =>
  cA_mono (h σ F H s) fun xs H1 ⟨F1, M1, rs, a1, ⟨ys, e, l, q⟩, m1, g1⟩ => by
    subst e
    exact ⟨by rw [a1.length, List.length_map]; exact l, fun p np => Out.trans g1 (newU m1 a1 np q)⟩
theorem dx_tup {ys : List PyData} {j} (h : DA X es ds M rs M1) (hu : und rs = some ys := by rfl) (hl : ys.length ≤ sizeLine := by exact Nat.le_trans (len_ok (n := 60) rfl) (L2.small64 (by decide))) : DX X (.Tuple es j pos) ds M (.d (.tuple ys)) M1 := fun Q q => ex_tup (h _ ⟨ys, und_map hu, hl, q⟩)
theorem ex_tupT {j} (h : AX X es ds M fun rs M1 => rs.length ≤ sizeLine ∧ Q (.t rs) M1) : EX X (.Tuple es j pos) ds M Q := ex_pe (pe_tup (paC es)) fun σ F H s =>
  cA_mono (h σ F H s) fun xs H1 ⟨F1, M1, rs, a1, ⟨l, q⟩, m1, g1⟩ => ⟨by rw [a1.length]; exact l, fun p np => Out.trans g1 (newUt m1 a1 np q)⟩
/-! ### subscripts -/
theorem ex_ixL (h : EX X a ds M fun r1 M1 => EX X b ds M1 fun r2 M2 => ∃ (rs : List R) (i : Int) (r : R), IsL M2 r1 rs ∧ r2 = T i ∧ atI rs i = some r ∧ Q r M2) (hs : PlainIx b := by exact plain_any rfl) : EX X (.Subscript a b pos) ds M Q :=
  ex_pe (pe_ix ix_list (peC a) (peC b) hs) fun _ _ _ s => tOp_of (h.mono fun r1 M1 h => h.mono fun r2 M2 ⟨rs, i, r, h1, e, h2, q⟩ F H x y m w1 w2 => by
    subst e
    obtain ⟨p, xs, rfl, a, b⟩ := h1.get m w1
    obtain ⟨v, c, d⟩ := rrs_atI b h2
    exact ⟨p, xs, i, v, rfl, rr_int w2, a, c, Out.mk0 m d q⟩) (fun x y H Q Q' m ⟨p, xs, i, v, a, b, c, d, q⟩ => ⟨p, xs, i, v, a, b, c, d, m _ _ q⟩) s
theorem ex_ixT (h : EX X a ds M fun r1 M1 => EX X b ds M1 fun r2 M2 => ∃ (rs : List R) (i : Int) (r : R), IsT M2 r1 rs ∧ r2 = T i ∧ atI rs i = some r ∧ Q r M2) (hs : PlainIx b := by exact plain_any rfl) : EX X (.Subscript a b pos) ds M Q :=
  ex_pe (pe_ix ix_tup (peC a) (peC b) hs) fun _ _ _ s => tOp_of (h.mono fun r1 M1 h => h.mono fun r2 M2 ⟨rs, i, r, h1, e, h2, q⟩ F H x y m w1 w2 => by
    subst e
    obtain ⟨p, xs, rfl, a, b⟩ := h1.get m w1
    obtain ⟨v, c, d⟩ := rrs_atI b h2
    exact ⟨p, xs, i, v, rfl, rr_int w2, SqT.of a, c, Out.mk0 m d q⟩) (fun x y H Q Q' m ⟨p, xs, i, v, a, b, c, d, q⟩ => ⟨p, xs, i, v, a, b, c, d, m _ _ q⟩) s
theorem dx_ixT {α : Type} [TD α] {xs : List α} {i : Int} {x : α} (ha : DX X a ds M (T xs) M1) (hb : DX X b ds M1 (T i) M2) (h : atI xs i = some x) (hs : PlainIx b := by exact plain_any rfl) : DX X (.Subscript a b pos) ds M (T x) M2 :=
  fun Q q => ex_ixL (ha _ (hb _ ⟨_, i, _, isL_T xs, rfl, by rw [atI_map, h]; rfl, q⟩)) hs
theorem dx_ixL {i : Int} (ha : DX X a ds M r1 M1) (hb : DX X b ds M1 (T i) M2) (hl : IsL M2 r1 rs) (h : atI rs i = some r) (hs : PlainIx b := by exact plain_any rfl) : DX X (.Subscript a b pos) ds M r M2 := fun Q q => ex_ixL (ha _ (hb _ ⟨rs, i, _, hl, rfl, h, q⟩)) hs
theorem dx_ixU {i : Int} (ha : DX X a ds M r1 M1) (hb : DX X b ds M1 (T i) M2) (hl : IsT M2 r1 rs) (h : atI rs i = some r) (hs : PlainIx b := by exact plain_any rfl) : DX X (.Subscript a b pos) ds M r M2 := fun Q q => ex_ixT (ha _ (hb _ ⟨rs, i, _, hl, rfl, h, q⟩)) hs
/-! ### slices -/
theorem ox_none {QO : Option Int → Mem → Prop} (q : QO none M) : OX X none ds M QO := fun σ F H s pins sh I => po_none.run pins sh σ H _ I ⟨F, M, q, s.ms, Go.refl⟩
theorem ox_some {QO : Option Int → Mem → Prop} (h : EX X e ds M fun r M1 => ∃ i : Int, r = T i ∧ QO (some i) M1) : OX X (some e) ds M QO := fun σ F H s pins sh I => (po_some (peC e)).run pins sh σ H _ I
  (cE_mono (h σ F H s) fun v H' ⟨F', M', r, w, ⟨i, e, q⟩, m, g⟩ => by subst e; exact ⟨i, rr_int w, F', M', q, m, g⟩)
theorem do_none : DO X none ds M none M := fun Q q => ox_none q
theorem do_some {i : Int} (h : DX X e ds M (T i) M1) : DO X (some e) ds M (some i) M1 := fun Q q => ox_some (h _ ⟨i, rfl, q⟩)
def cut {α : Type} (xs : List α) (lo hi : Option Int) : List α := (xs.drop (HT.sIx xs.length 0 lo)).take (HT.sIx xs.length xs.length hi - HT.sIx xs.length 0 lo)
theorem cut_map {α β : Type} (f : α → β) (xs : List α) (lo hi : Option Int) : cut (xs.map f) lo hi = (cut xs lo hi).map f := by
  unfold cut
  rw [List.length_map, List.map_take, List.map_drop]
theorem rrs_drop {K : PySem.W.Frag} {F : Hp} : ∀ {vs : List V} {rs : List R} (n : Nat), Rrs K F vs rs → Rrs K F (vs.drop n) (rs.drop n)
  | _, _, 0, h => h
  | _, _, n + 1, .nil => .nil
  | _, _, n + 1, .cons _ t => rrs_drop n t
theorem rrs_take {K : PySem.W.Frag} {F : Hp} : ∀ {vs : List V} {rs : List R} (n : Nat), Rrs K F vs rs → Rrs K F (vs.take n) (rs.take n)
  | _, _, 0, h => .nil
  | _, _, n + 1, .nil => .nil
  | _, _, n + 1, .cons a t => .cons a (rrs_take n t)
theorem rrs_cut {K : PySem.W.Frag} {F : Hp} {vs : List V} {rs : List R} (lo hi : Option Int) (h : Rrs K F vs rs) : Rrs K F (cutV vs lo hi) (cut rs lo hi) := by
  unfold cutV cut
  rw [h.length]
  exact rrs_take _ (rrs_drop _ h)
theorem ex_slL {lo hi : Option Expr} {p2 : Pos} (h : EX X e ds M fun r1 M1 => OX X lo ds M1 fun l M2 => OX X hi ds M2 fun u M3 => ∃ (rs : List R), IsL M3 r1 rs ∧ ((∃ ys : List PyData, cut rs l u = ys.map R.d ∧ Q (.d (.list ys)) M3) ∨ ∃ A B, M3 = A ++ B ∧ ∀ q, Q (.v (.ref q)) (A ++ (q, .lst (cut rs l u)) :: B))) : EX X (.Subscript e (.Slice lo hi none p2) pos) ds M Q :=
  ex_pe (pe_slice sl_list (peC e) (poC lo) (poC hi)) fun σ F H s => cE_mono (h σ F H s) fun x H1 ⟨F1, M1, r1, a1, h1, m1, g1⟩ =>
    cO_mono (h1 σ F1 H1 (s.go g1 m1)) fun l H2 ⟨F2, M2, h2, m2, g2⟩ => cO_mono (h2 σ F2 H2 ((s.go g1 m1).go g2 m2)) fun u H3 ⟨F3, M3, ⟨rs, h3, q⟩, m3, g3⟩ => by
      obtain ⟨p, xs, rfl, a, b⟩ := h3.get m3 (a1.up (g2.trans g3).ex)
      refine ⟨p, xs, rfl, a, fun q' nq => Out.trans (g1.trans (g2.trans g3)) ?_⟩
      have w := rrs_cut l u b
      rcases q with ⟨ys, e, q⟩ | ⟨A, B, e, q⟩
      · rw [e] at w
        exact newL m3 w nq q
      · subst e
        exact newLc m3 w nq (q q')
theorem dx_slT {α : Type} [TD α] {xs : List α} {lo hi : Option Expr} {p2 : Pos} {l u : Option Int} (h : DX X e ds M (T xs) M1) (h1 : DO X lo ds M1 l M2) (h2 : DO X hi ds M2 u M3) : DX X (.Subscript e (.Slice lo hi none p2) pos) ds M (T (cut xs l u)) M3 :=
  fun Q q => ex_slL (h _ (h1 _ (h2 _ ⟨_, isL_T xs, .inl ⟨_, by rw [← T_map, cut_map, cut_map], q⟩⟩)))
theorem dx_slS {ns : List Int} {lo hi : Option Expr} {p2 : Pos} {l u : Option Int} (h : DX X e ds M (.s ns) M1) (h1 : DO X lo ds M1 l M2) (h2 : DO X hi ds M2 u M3) : DX X (.Subscript e (.Slice lo hi none p2) pos) ds M (T (cut ns l u)) M3 :=
  fun Q q => ex_slL (h _ (h1 _ (h2 _ ⟨_, .sc ns, .inl ⟨_, by rw [← T_map, cut_map, cut_map], q⟩⟩)))
/-! ### list + list -/
theorem rrs_app {K : PySem.W.Frag} {F : Hp} : ∀ {vs ws : List V} {rs qs : List R}, Rrs K F vs rs → Rrs K F ws qs → Rrs K F (vs ++ ws) (rs ++ qs)
  | _, _, _, _, .nil, h => h
  | _, _, _, _, .cons a t, h => .cons a (rrs_app t h)
theorem ex_cat (h : EX X a ds M fun r1 M1 => EX X b ds M1 fun r2 M2 => ∃ (xs ys : List R), IsM M2 r1 xs ∧ IsM M2 r2 ys ∧ xs.length + ys.length ≤ sizeLine ∧ ((∃ zs : List PyData, xs ++ ys = zs.map R.d ∧ Q (.d (.list zs)) M2) ∨ ∃ A B, M2 = A ++ B ∧ ∀ q, Q (.v (.ref q)) (A ++ (q, .lst (xs ++ ys)) :: B))) : EX X (.BinOp a .Add b pos) ds M Q :=
  ex_op op_cat (fun x y H Q Q' m ⟨l, b, xs, zs, h1, h2, h3, h4, h5, q⟩ => ⟨l, b, xs, zs, h1, h2, h3, h4, h5, fun p np => m _ _ (q p np)⟩) (h.mono fun r1 M1 h => h.mono fun r2 M2 ⟨xs, ys, h1, h2, hl, q⟩ F H x y m w1 w2 => by
    obtain ⟨p, vs, rfl, a, b⟩ := h1.get m w1
    obtain ⟨p', vs', rfl, a', b'⟩ := h2.get m w2
    refine ⟨p, p', vs, vs', rfl, rfl, a, a', by rw [b.length, b'.length]; exact hl, fun z nz => ?_⟩
    have w := rrs_app b b'
    rcases q with ⟨zs, e, q⟩ | ⟨A, B, e, q⟩
    · rw [e] at w
      exact newL m w nz q
    · subst e
      exact newLc m w nz (q z))
theorem dx_catT {α : Type} [TD α] {xs ys : List α} (ha : DX X a ds M (T xs) M1) (hb : DX X b ds M1 (T ys) M2) (hl : xs.length + ys.length ≤ sizeLine) : DX X (.BinOp a .Add b pos) ds M (T (xs ++ ys)) M2 :=
  fun Q q => ex_cat (ha _ (hb _ ⟨_, _, isM_T xs, isM_T ys, by rw [List.length_map, List.length_map]; exact hl, .inl ⟨_, by rw [← T_map, ← T_map, ← List.map_append, ← List.map_append], q⟩⟩))
/-! ### is None -/
def isNo : PyData → Bool
  | .none => true
  | _ => false
theorem dq_non {F : Hp} {v : V} {x : PyData} (h : Dq F v x) : decide (v = .non) = isNo x := by
  cases h <;> rfl
theorem ex_isN {j pos'} (h : EX X a ds M fun r M1 => ∃ x, r = .d x ∧ Q (T (isNo x)) M1) : EX X (.Compare a [.Is] [.Constant .none j pos'] pos) ds M Q := ex_pe (pe_cmp (pc_isN (peC a))) fun σ F H s =>
  cE_mono (h σ F H s) fun v H' ⟨F', M', r, w, ⟨x, e, q⟩, m, g⟩ => by subst e; exact ⟨F', M', _, by rw [dq_non (rr_d.mp w)]; exact rrB, q, m, g⟩
theorem dx_isN {j pos'} {x : PyData} (h : DX X a ds M (.d x) M1) : DX X (.Compare a [.Is] [.Constant .none j pos'] pos) ds M (T (isNo x)) M1 := fun Q q => ex_isN (h _ ⟨x, rfl, q⟩)
theorem dx_notN {j pos'} {x : PyData} (h : DX X a ds M (.d x) M1) : DX X (.Compare a [.IsNot] [.Constant .none j pos'] pos) ds M (T (!isNo x)) M1 := fun Q q => ex_pe (pe_cmp (pc_notN (peC a))) fun σ F H s =>
  cE_mono (h (fun r M' => r = .d x ∧ M' = M1) ⟨rfl, rfl⟩ σ F H s) fun v H' ⟨F', M', r, w, ⟨e1, e2⟩, m, g⟩ => by subst e1 e2; exact ⟨F', _, _, by rw [dq_non (rr_d.mp w)]; exact rrB, q, m, g⟩
/-! ### and, or, not, if else -/
def cW (X : Cx) (e : Expr) : TT := fun σ H Q => ∀ whole pins s, Inv X pins σ H s → wpAny (model X.prog X.w) X.A (isTrue e X.env whole) (TP X pins σ Q) X.xe s
theorem pwC (e : Expr) : PW X e (cW X e) := ⟨fun whole pins s _ _ _ I h => h whole pins s I⟩
def WX (X : Cx) (e : Expr) (ds : List R) (M : Mem) (Q : Bool → Mem → Prop) : Prop := ∀ σ F H, Sta X.K σ ds M F H → cW X e σ H (OutB X.K M F H Q)
def DW (X : Cx) (e : Expr) (ds : List R) (M : Mem) (b : Bool) (M' : Mem) : Prop := ∀ Q : Bool → Mem → Prop, Q b M' → WX X e ds M Q
theorem cW_mono {σ : L2.St} {H : Hp} {Q Q' : Bool → Hp → Prop} (h : cW X e σ H Q) (q : ∀ v H', Q v H' → Q' v H') : cW X e σ H Q' := fun wh pins s I => thn (h wh pins s I) fun _ _ ⟨H', I', z⟩ => ⟨H', I', q _ H' z⟩
theorem tx_w (h : WX X e ds M QB) : TX X e ds M QB := tx_pt (pwC e).pt h
theorem dt_w {k : Bool} (h : DW X e ds M k M1) : DT X e ds M k M1 := fun Q q => tx_w (h Q q)
theorem wx_and1 (h : TX X a ds M QB) : WX X (.BoolOp .And [a] pos) ds M QB := fun σ F H s wh pins sh I => (pw_and1 (ptC a)).run wh pins sh σ H _ I (h σ F H s)
theorem wx_or1 (h : TX X a ds M QB) : WX X (.BoolOp .Or [a] pos) ds M QB := fun σ F H s wh pins sh I => (pw_or1 (ptC a)).run wh pins sh σ H _ I (h σ F H s)
theorem wx_and (h : TX X a ds M fun k M1 => if k = true then WX X (.BoolOp .And (b :: rest) pos) ds M1 QB else QB false M1) : WX X (.BoolOp .And (a :: b :: rest) pos) ds M QB := fun σ F H s wh pins sh I => (pw_and (ptC a) (pwC _)).run wh pins sh σ H _ I
  (cT_mono (h σ F H s) fun k H' ⟨F', M', q, m, g⟩ => by
    cases k with
    | true => exact cW_mono (q σ F' H' (s.go g m)) fun k H' ⟨F', M', q, m, g'⟩ => ⟨F', M', q, m, g.trans g'⟩
    | false => exact ⟨F', M', q, m, g⟩)
theorem wx_or (h : TX X a ds M fun k M1 => if k = true then QB true M1 else WX X (.BoolOp .Or (b :: rest) pos) ds M1 QB) : WX X (.BoolOp .Or (a :: b :: rest) pos) ds M QB := fun σ F H s wh pins sh I => (pw_or (ptC a) (pwC _)).run wh pins sh σ H _ I
  (cT_mono (h σ F H s) fun k H' ⟨F', M', q, m, g⟩ => by
    cases k with
    | false => exact cW_mono (q σ F' H' (s.go g m)) fun k H' ⟨F', M', q, m, g'⟩ => ⟨F', M', q, m, g.trans g'⟩
    | true => exact ⟨F', M', q, m, g⟩)
variable {k1 k2 : Bool}
theorem dw_and1 (h : DT X a ds M k1 M1) : DW X (.BoolOp .And [a] pos) ds M k1 M1 := fun Q q => wx_and1 (h Q q)
theorem dw_or1 (h : DT X a ds M k1 M1) : DW X (.BoolOp .Or [a] pos) ds M k1 M1 := fun Q q => wx_or1 (h Q q)
theorem dw_and (h : DT X a ds M k1 M1) (h2 : k1 = true → DW X (.BoolOp .And (b :: rest) pos) ds M1 k2 M1) : DW X (.BoolOp .And (a :: b :: rest) pos) ds M (k1 && k2) M1 := fun Q q => wx_and (h _ (by
  cases k1 with
  | true => exact h2 rfl Q q
  | false => exact q))
theorem dw_or (h : DT X a ds M k1 M1) (h2 : k1 = false → DW X (.BoolOp .Or (b :: rest) pos) ds M1 k2 M1) : DW X (.BoolOp .Or (a :: b :: rest) pos) ds M (k1 || k2) M1 := fun Q q => wx_or (h _ (by
  cases k1 with
  | false => exact h2 rfl Q q
  | true => exact q))
theorem tx_not (h : TX X a ds M fun k M1 => QB (!k) M1) : TX X (.UnaryOp .Not a pos) ds M QB := tx_pt (pt_not (ptC a)) fun σ F H s => cT_mono (h σ F H s) fun k H' q => q
theorem dt_not (h : DT X a ds M k1 M1) : DT X (.UnaryOp .Not a pos) ds M (!k1) M1 := fun Q q => tx_not (h _ q)
theorem ex_one {op} (h : EX X a ds M Q) : EX X (.BoolOp op [a] pos) ds M Q := ex_pe (pe_one (peC a)) fun σ F H s => h σ F H s
theorem ex_andV (h : EX X a ds M fun r M1 => ∃ k : Bool, r = T k ∧ if k = true then EX X (.BoolOp .And (b :: rest) pos) ds M1 Q else Q (T false) M1) : EX X (.BoolOp .And (a :: b :: rest) pos) ds M Q := ex_pe (pe_and (peC a) (peC _)) fun σ F H s =>
  cE_mono (h σ F H s) fun v H' ⟨F', M', r, w, ⟨k, e, q⟩, m, g⟩ => by
    subst e
    refine ⟨k, rr_bl w, ?_⟩
    cases k with
    | true => exact cE_mono (q σ F' H' (s.go g m)) fun v H' o => Out.trans g o
    | false => exact ⟨F', M', _, rrB, q, m, g⟩
theorem ex_orV (h : EX X a ds M fun r M1 => ∃ k : Bool, r = T k ∧ if k = true then Q (T true) M1 else EX X (.BoolOp .Or (b :: rest) pos) ds M1 Q) : EX X (.BoolOp .Or (a :: b :: rest) pos) ds M Q := ex_pe (pe_or (peC a) (peC _)) fun σ F H s =>
  cE_mono (h σ F H s) fun v H' ⟨F', M', r, w, ⟨k, e, q⟩, m, g⟩ => by
    subst e
    refine ⟨k, rr_bl w, ?_⟩
    cases k with
    | false => exact cE_mono (q σ F' H' (s.go g m)) fun v H' o => Out.trans g o
    | true => exact ⟨F', M', _, rrB, q, m, g⟩
theorem dx_one {op} (h : DX X a ds M r M1) : DX X (.BoolOp op [a] pos) ds M r M1 := fun Q q => ex_one (h Q q)
theorem dx_andV (h : DX X a ds M (T k1) M1) (h2 : k1 = true → DX X (.BoolOp .And (b :: rest) pos) ds M1 (T k2) M1) : DX X (.BoolOp .And (a :: b :: rest) pos) ds M (T (k1 && k2)) M1 := fun Q q => ex_andV (h _ ⟨k1, rfl, by
  cases k1 with
  | true => exact h2 rfl Q q
  | false => exact q⟩)
theorem dx_orV (h : DX X a ds M (T k1) M1) (h2 : k1 = false → DX X (.BoolOp .Or (b :: rest) pos) ds M1 (T k2) M1) : DX X (.BoolOp .Or (a :: b :: rest) pos) ds M (T (k1 || k2)) M1 := fun Q q => ex_orV (h _ ⟨k1, rfl, by
  cases k1 with
  | false => exact h2 rfl Q q
  | true => exact q⟩)
theorem dx_notV (h : DX X a ds M (T k1) M1) : DX X (.UnaryOp .Not a pos) ds M (T (!k1)) M1 := fun Q q => ex_pe (pe_not (peC a)) fun σ F H s =>
  cE_mono (h (fun r M' => r = T k1 ∧ M' = M1) ⟨rfl, rfl⟩ σ F H s) fun v H' ⟨F', M', r, w, ⟨e1, e2⟩, m, g⟩ => by subst e1 e2; exact ⟨k1, rr_bl w, F', _, _, rrB, q, m, g⟩
theorem ex_if (h : TX X c ds M fun k M1 => if k = true then EX X a ds M1 Q else EX X b ds M1 Q) : EX X (.IfExp c a b pos) ds M Q := ex_pe (pe_ifExp (ptC c) (peC a) (peC b)) fun σ F H s =>
  cT_mono (h σ F H s) fun k H' ⟨F', M', q, m, g⟩ => by
    cases k with
    | true => exact cE_mono (q σ F' H' (s.go g m)) fun v H' o => Out.trans g o
    | false => exact cE_mono (q σ F' H' (s.go g m)) fun v H' o => Out.trans g o
theorem dx_ifT {α : Type} [TD α] {x y : α} (h : DT X c ds M k1 M1) (h1 : k1 = true → DX X a ds M1 (T x) M2) (h2 : k1 = false → DX X b ds M1 (T y) M2) : DX X (.IfExp c a b pos) ds M (T (if k1 = true then x else y)) M2 := fun Q q => ex_if (h _ (by
  cases k1 with
  | true => exact h1 rfl Q q
  | false => exact h2 rfl Q q))
end
end Hq
/-! Stmt: statements, loops, comprehensions. -/
namespace Hq
open PySem PySem.Spec PyProof.Rows L2
section
variable {X : Cx} {e a b c : Expr} {es : List Expr} {st : Stmt} {rest A B : List Stmt} {ds ds' : List R} {M M1 M2 M3 : Mem} {pos p : Pos} {D : Po} {r r1 r2 r3 : R} {rs : List R}
/-- what stands behind goes on -/
abbrev Po.then (D : Po) (X : Cx) (rest : List Stmt) : Po := { D with nx := fun ds M => BX X rest ds M D }
theorem outD_then {K : PySem.W.Frag} {F H : Hp} {σ : L2.St} {H' : Hp} {D : Po} (hK : X.K = K) (h : OutS K M F H (fun ds M => BX X rest ds M D) σ H') : cB X rest (OutD K M F H D) σ H' := by
  subst hK
  obtain ⟨F', M', ds', a, b, c, g⟩ := h
  exact cB_mono (b σ F' H' ⟨a, c⟩) (outD_go g)
theorem bx_cons (h : SX X st ds M (D.then X rest)) : BX X (st :: rest) ds M D := bx_pss (pss_cons (psC st) (pbC rest)) fun σ F H s => by
  have q := h σ F H s
  show cS X st { (OutD X.K M F H D) with nx := cB X rest (OutD X.K M F H D) } σ H
  exact cS_mono q ⟨fun σ' H' z => outD_then rfl z, fun _ _ z => z, fun _ _ z => z, fun _ _ z => z⟩
theorem bx_nil (h : D.nx ds M) : BX X [] ds M D := bx_pss pss_nil fun σ F H s => ⟨F, M, ds, s.sl, h, s.ms, Go.refl⟩
/-- the joining of ways behind a statement -/
theorem bx_cut (P : List R → Mem → Prop) (h : SX X st ds M { D with nx := P }) (h2 : ∀ ds M, P ds M → BX X rest ds M D) : BX X (st :: rest) ds M D :=
  bx_cons fun σ F H s => cS_mono (h σ F H s) ⟨fun σ' H' ⟨F', M', ds', a, b, c, g⟩ => ⟨F', M', ds', a, h2 _ _ b, c, g⟩, fun _ _ z => z, fun _ _ z => z, fun _ _ z => z⟩
/-- the state seen otherwise: slots forgotten -/
theorem bx_weak (w : Wk ds ds') (h : BX X A ds' M D) : BX X A ds M D := fun σ F H s => h σ F H ⟨s.sl.weak w, s.ms⟩
/-- cells forgotten -/
theorem bx_drop (w : M1.Sublist M) (h : BX X A ds M1 D) : BX X A ds M D := fun σ F H s => by
  have k := s.ms.drop w
  exact cB_mono (h σ F H ⟨s.sl, k.1⟩) (outD_go k.2)
theorem bx_perm (w : M1.Perm M) (h : BX X A ds M1 D) : BX X A ds M D := fun σ F H s => by
  have k := s.ms.perm w
  exact cB_mono (h σ F H ⟨s.sl, k.1⟩) (outD_go k.2)
/-- a cell of data frozen -/
def Frz (p : Addr) (x : PyData) : List R → List R → Prop
  | [], [] => True
  | a :: as, b :: bs => (a = b ∨ b = .no ∨ (a = .v (.ref p) ∧ b = .d x)) ∧ Frz p x as bs
  | _, _ => False
theorem Frz.spec {p : Addr} {x : PyData} : ∀ {ds ds' : List R}, Frz p x ds ds' → ds.length = ds'.length ∧ ∀ (i : Nat) (r : R), ds'[i]? = some r → r ≠ R.no → ds[i]? = some r ∨ (ds[i]? = some (.v (.ref p)) ∧ r = .d x)
  | [], [], _ => ⟨rfl, fun i r a _ => .inl a⟩
  | a :: as, b :: bs, h => by
    obtain ⟨h1, h2⟩ := h
    obtain ⟨l, s⟩ := Frz.spec h2
    refine ⟨by simp [l], fun i r e n => ?_⟩
    cases i with
    | zero =>
      have e' : b = r := by simpa using e
      subst e'
      rcases h1 with z | z | ⟨z, z2⟩
      · exact .inl (by simp [z])
      · exact absurd z n
      · exact .inr ⟨by simp [z], z2⟩
    | succ i => simpa using s i r (by simpa using e) n
  | [], _ :: _, h => h.elim
  | _ :: _, [], h => h.elim
theorem bx_freeze (U : Mem) {W : Mem} {q : Addr} {xs : List PyData} (hM : M = U ++ (q, .lst (xs.map R.d)) :: W) (w : Frz q (.list xs) ds ds') (h : BX X A ds' (U ++ W) D) : BX X A ds M D := fun σ F H s => by
  subst hM
  obtain ⟨zs, z1, z2⟩ := (s.ms.mem q _ (List.mem_append_right U (List.mem_cons_self))).2
  have k := s.ms.freeze z1
  have dq : Dq (upd F q (.lst zs)) (.ref q) (.list xs) := .lst upd_same (rrs_dqs (z2.up k.2.ex))
  obtain ⟨l, sp⟩ := w.spec
  refine cB_mono (h σ _ H ⟨⟨s.sl.1.trans l, fun i r a n => ?_⟩, k.1⟩) (outD_go k.2)
  rcases sp i r a n with z | ⟨z, e⟩
  · obtain ⟨v, a, b⟩ := s.sl.2 i r z n
    exact ⟨v, a, b.up k.2.ex⟩
  · subst e
    obtain ⟨v, a, b⟩ := s.sl.2 i _ z (by nofun)
    have b := rr_v.mp b
    subst b
    exact ⟨_, a, rr_d.mpr dq⟩
/-! ### small statements -/
theorem sx_ret (h : EX X e ds M D.rt) : SX X (.Return (some e) pos) ds M D := sx_ps (ps_ret (peC e)) fun σ F H s => h σ F H s
theorem bx_ret (h : EX X e ds M D.rt) : BX X (.Return (some e) pos :: rest) ds M D := bx_cons (sx_ret h)
theorem bx_retD (h : DX X e ds M r M1) (q : D.rt r M1) : BX X (.Return (some e) pos :: rest) ds M D := bx_ret (h _ q)
theorem bx_retN (q : D.rt (.d .none) M) : BX X (.Return none pos :: rest) ds M D := bx_cons (sx_ps ps_retN fun σ F H s => Out.mk0 s.ms rrN q)
theorem bx_expr (h : EX X e ds M fun _ M1 => BX X rest ds M1 D) (hs : swapsWith e none pos.line X.env = pure false := by first | exact sw_not rfl | rfl) : BX X (.Expr e pos :: rest) ds M D := bx_cons (sx_ps (ps_expr (peC e) hs) fun σ F H s =>
  cE_mono (h σ F H s) fun v H' ⟨F', M', r, a, b, c, g⟩ => ⟨F', M', ds, s.sl.up g.ex, b, c, g⟩)
theorem bx_pass (h : BX X rest ds M D) : BX X (.Pass pos :: rest) ds M D := bx_cons (sx_ps ps_pass fun σ F H s => ⟨F, M, ds, s.sl, h, s.ms, Go.refl⟩)
theorem bx_break (h : D.bk ds M) : BX X (.Break pos :: rest) ds M D := bx_cons (sx_ps ps_break fun σ F H s => ⟨F, M, ds, s.sl, h, s.ms, Go.refl⟩)
theorem bx_continue (h : D.ct ds M) : BX X (.Continue pos :: rest) ds M D := bx_cons (sx_ps ps_continue fun σ F H s => ⟨F, M, ds, s.sl, h, s.ms, Go.refl⟩)
/-- x = e -/
theorem bx_set (i : Nat) {x : Str} {pos' : Pos} (hN : X.N.Nodup) (h : EX X e ds M fun r M1 => BX X rest (ds.set i r) M1 D) (hi : X.N[i]? = some x := by rfl) (hx : Loc X.env.scope x := by first | exact Or.inl rfl | exact Or.inr rfl) (hs : swapsWith e (some (.Name x pos')) pos.line X.env = pure false := by first | exact sw_not rfl | rfl)
    (hf : X.fn x = true ∨ X.env.scope.names.lookup x = some .local := by first | exact .inl rfl | exact .inr rfl) : BX X (.Assign [.Name x pos'] e pos :: rest) ds M D := bx_cons (sx_ps (ps_set hN hi hx (peC e) hs hf) fun σ F H s =>
  cE_mono (h σ F H s) fun v H' ⟨F', M', r, a, b, c, g⟩ => ⟨F', M', _, (s.sl.up g.ex).set a, b, c, g⟩)
theorem bx_setD (i : Nat) {x : Str} {pos' : Pos} (hN : X.N.Nodup) (h : DX X e ds M r M1) (k : BX X rest (ds.set i r) M1 D) (hi : X.N[i]? = some x := by rfl) (hx : Loc X.env.scope x := by first | exact Or.inl rfl | exact Or.inr rfl) (hs : swapsWith e (some (.Name x pos')) pos.line X.env = pure false := by first | exact sw_not rfl | rfl)
    (hf : X.fn x = true ∨ X.env.scope.names.lookup x = some .local := by first | exact .inl rfl | exact .inr rfl) : BX X (.Assign [.Name x pos'] e pos :: rest) ds M D := bx_set i hN (h _ k) hi hx hs hf
/-- a, b = x, y -/
theorem bx_par (i j : Nat) {x y : Str} {px py pt : Pos} {kt k2 pt2} (hc : X.calm = true) (hN : X.N.Nodup) (h : AX X [a, b] ds M fun rs M1 => ∃ r1 r2, rs = [r1, r2] ∧ BX X rest ((ds.set i r1).set j r2) M1 D) (hi : X.N[i]? = some x := by rfl) (hj : X.N[j]? = some y := by rfl) (hij : i ≠ j := by decide)
    (hx : X.env.scope.names.lookup x = some .local := by rfl) (hy : X.env.scope.names.lookup y = some .local := by rfl) (hw : swappedStores [.Tuple [.Name x px, .Name y py] kt pt] (.Tuple [a, b] k2 pt2) X.env = pure (some [x, y]) := by rfl)
    (hs : swapsWithSole [.Tuple [.Name x px, .Name y py] kt pt] (.Tuple [a, b] k2 pt2) pos.line X.env = pure false := by rfl) : BX X (.Assign [.Tuple [.Name x px, .Name y py] kt pt] (.Tuple [a, b] k2 pt2) pos :: rest) ds M D := bx_cons (sx_ps (ps_par hc hN hi hj hij hx hy (paC _) hw hs) fun σ F H s =>
  cA_mono (h σ F H s) fun vs H' ⟨F', M', rs, a, ⟨r1, r2, e, b⟩, c, g⟩ => by
    subst e
    obtain ⟨v, w, e, w1, w2⟩ := rrs2 a
    exact ⟨v, w, e, F', M', _, ((s.sl.up g.ex).set w1).set w2, b, c, g⟩)
/-- target = e -/
theorem bx_asg {tg : Expr} (h : EX X e ds M fun r M1 => GX X tg r ds M1 fun ds' M2 => BX X rest ds' M2 D) (hs : swapsWithSole [tg] e pos.line X.env = pure false := by first | exact sws_not rfl | rfl) (hw : swappedStores [tg] e X.env = pure none := by rfl)
    (h1 : (assignEach [tg] X.env).map (·.2) = [assign tg X.env] := by exact as_any rfl) : BX X (.Assign [tg] e pos :: rest) ds M D := bx_cons (sx_ps (ps_asg (peC e) (pgC tg) hs hw h1) fun σ F H s =>
  cE_mono (h σ F H s) fun v H' ⟨F', M', r, a, b, c, g⟩ => cG_mono (b σ F' H' v (s.go g c) a) fun σ' H2 ⟨F2, M2, ds', a2, b2, c2, g2⟩ => ⟨F2, M2, ds', a2, b2, c2, g.trans g2⟩)
/-- x += e, x -= e of ints -/
theorem bx_augI (i : Nat) {x : Str} {pos' : Pos} {op : Operator} {f : Int → Int → Int} {n : Int} (ho : PIp X op (ipI f)) (hN : X.N.Nodup) (hv : ds[i]? = some (T n)) (h : EX X e ds M fun r M1 => ∃ m : Int, r = T m ∧ BX X rest (ds.set i (T (f n m))) M1 D) (hi : X.N[i]? = some x := by rfl) (hx : Loc X.env.scope x := by first | exact Or.inl rfl | exact Or.inr rfl)
    (hf : X.fn x = true ∨ X.env.scope.names.lookup x = some .local := by first | exact .inl rfl | exact .inr rfl) : BX X (.AugAssign (.Name x pos') op e pos :: rest) ds M D := bx_cons (sx_ps (ps_aug hN hi hx (peC e) ho hf) fun σ F H s => by
  obtain ⟨v, a, w⟩ := s.sl.2 i _ hv (by nofun)
  refine ⟨v, a, cE_mono (h σ F H s) fun u H' ⟨F', M', r, a, ⟨m, e, b⟩, c, g⟩ => ?_⟩
  subst e
  exact ⟨n, m, rr_int w, rr_int a, F', M', _, (s.sl.up g.ex).set rrI, b, c, g⟩)
/-- if -/
theorem sx_if (h : TX X c ds M fun k M1 => if k = true then BX X A ds M1 D else BX X B ds M1 D) : SX X (.If c A B pos) ds M D := sx_ps (ps_if (ptC c) (pbC A) (pbC B)) fun σ F H s =>
  cT_mono (h σ F H s) fun k H' ⟨F', M', q, m, g⟩ => by
    cases k with
    | true => exact cB_mono (q σ F' H' (s.go g m)) (outD_go g)
    | false => exact cB_mono (q σ F' H' (s.go g m)) (outD_go g)
theorem bx_if (h : TX X c ds M fun k M1 => if k = true then BX X A ds M1 (D.then X rest) else BX X B ds M1 (D.then X rest)) : BX X (.If c A B pos :: rest) ds M D := bx_cons (sx_if h)
theorem bx_ifD {k : Bool} (h : DT X c ds M k M1) (h1 : k = true → BX X A ds M1 (D.then X rest)) (h2 : k = false → BX X B ds M1 (D.then X rest)) : BX X (.If c A B pos :: rest) ds M D := bx_if (h _ (by
  cases k with
  | true => exact h1 rfl
  | false => exact h2 rfl))
/-! ### targets -/
theorem gx_name (i : Nat) {x : Str} {Q : List R → Mem → Prop} (hN : X.N.Nodup) (q : Q (ds.set i r) M) (hi : X.N[i]? = some x := by rfl) (hx : Loc X.env.scope x := by first | exact Or.inl rfl | exact Or.inr rfl) (hf : X.fn x = true ∨ X.env.scope.names.lookup x = some .local := by first | exact .inl rfl | exact .inr rfl) : GX X (.Name x pos) r ds M Q :=
  gx_pg (pg_name hN hi hx hf) fun σ F H v s w => ⟨F, M, _, s.sl.set w, q, s.ms, Go.refl⟩
def cGs (X : Cx) (ts : List Expr) : TGs := fun vs σ H Q => ∀ pins s us, Inv X pins σ H s → Vals vs us → wpAny (model X.prog X.w) X.A (assignInOrder ((assignEach ts X.env).map (·.2)) us) (fun _ s' => ∃ σ' H', Inv X pins σ' H' s' ∧ Q σ' H') X.xe s
theorem pgsC (ts : List Expr) : PGs X ts (cGs X ts) := ⟨fun pins s _ _ _ us _ I r h => h pins s us I r⟩
def GsX (X : Cx) (ts : List Expr) (rs : List R) (ds : List R) (M : Mem) (Q : List R → Mem → Prop) : Prop := ∀ σ F H vs, Sta X.K σ ds M F H → Rrs X.K F vs rs → cGs X ts vs σ H (OutS X.K M F H Q)
theorem gsx_nil {Q : List R → Mem → Prop} (q : Q ds M) : GsX X [] [] ds M Q := fun σ F H vs s w pins sh us I r => by
  cases w
  exact pgs_nil.run pins sh σ H [] us _ I r ⟨rfl, F, M, ds, s.sl, q, s.ms, Go.refl⟩
theorem gsx_cons {tg : Expr} {ts : List Expr} {Q : List R → Mem → Prop} (h : GX X tg r ds M fun ds' M' => GsX X ts rs ds' M' Q) (hs : (assignEach (tg :: ts) X.env).map (·.2) = assign tg X.env :: (assignEach ts X.env).map (·.2) := by exact as_any rfl) : GsX X (tg :: ts) (r :: rs) ds M Q := fun σ F H vs s w pins sh us I rr => by
  cases w with
  | @cons v _ vs' _ w1 w2 =>
    refine (pgs_cons (pgC tg) (pgsC ts) hs).run pins sh σ H (v :: vs') us _ I rr ⟨v, vs', rfl, cG_mono (h σ F H v s w1) fun σ' H' ⟨F', M', ds', a, b, c, g⟩ => ?_⟩
    intro pins sh us I rr
    refine thn (b σ' F' H' vs' ⟨a, c⟩ (Rrs.up g.ex w2) pins sh us I rr) fun _ _ ⟨σ2, H2, I2, F2, M2, ds2, a2, b2, c2, g2⟩ => ⟨σ2, H2, I2, F2, M2, ds2, a2, b2, c2, g.trans g2⟩
theorem gx_tup {k : Nat} {Q : List R → Mem → Prop} (hc : X.calm = true) (ht : IsT M r rs) (h : GsX X es rs ds M Q) (hn : (assignEach es X.env).length = rs.length := by rfl) (hst : (assignEach es X.env).findIdx? (·.1) = none := by rfl) : GX X (.Tuple es k pos) r ds M Q :=
  gx_pg (pg_tup hc (pgsC es) rfl hst) fun σ F H v s w => by
    obtain ⟨p, xs, e, a, b⟩ := ht.get s.ms w
    exact ⟨p, xs, e, SqT.of a, by rw [b.length, hn], h σ F H xs s b⟩
/-- o[i] = .. of a cell -/
theorem gx_subL {o i : Expr} {Q : List R → Mem → Prop} (h : EX X o ds M fun r1 M1 => EX X i ds M1 fun r2 M2 => ∃ (U W : Mem) (q : Addr) (xs : List R) (k : Int) (j : Nat), r1 = .v (.ref q) ∧ r2 = T k ∧ M2 = U ++ (q, .lst xs) :: W ∧ ixN xs.length k = some j ∧ Q ds (U ++ (q, .lst (xs.set j r)) :: W))
    (ha : ∀ v, assign (.Subscript o i pos) X.env v = (do
      let ov ← holding [v] (eval o X.env)
      let iv ← holding [v, ov] (eval i X.env)
      standAt pos
      holding [v, ov, iv] (setItem ov iv v)
      release [v, ov, iv] []) := by intro _; rfl) : GX X (.Subscript o i pos) r ds M Q :=
  gx_pg (pg_sub (peC o) (peC i) set_list ha) fun σ F H v s w => cE_mono (h σ F H s) fun x H1 ⟨F1, M1, r1, a1, h1, m1, g1⟩ =>
    cE_mono (h1 σ F1 H1 (s.go g1 m1)) fun y H2 ⟨F2, M2, r2, a2, ⟨U, W, q, xs, k, j, e1, e2, e3, e4, qq⟩, m2, g2⟩ => by
      subst e1 e2 e3
      obtain ⟨zs, z1, z2⟩ := (m2.mem q _ (List.mem_append_right U (List.mem_cons_self))).2
      have ex := (g1.trans g2).ex
      have kk := m2.write (c' := .lst (xs.set j r)) (o := .lst (zs.set j v)) ⟨_, upd_same, rrs_set j z2 (w.up ex)⟩
      exact ⟨q, zs, k, j, rr_v.mp a1, rr_int a2, z1, by rw [z2.length]; exact e4, F2, _, ds, s.sl.up ex, qq, kk.1, (g1.trans g2).trans kk.2⟩
where rrs_set {K : PySem.W.Frag} {F : Hp} {v : V} {r : R} (j : Nat) : ∀ {vs : List V} {rs : List R}, Rrs K F vs rs → Rr K F v r → Rrs K F (vs.set j v) (rs.set j r) := by
        induction j with
        | zero => intro vs rs h w; cases h with | nil => exact .nil | cons a b => exact .cons w b
        | succ j ih => intro vs rs h w; cases h with | nil => exact .nil | cons a b => exact .cons a (ih b w)
/-! ### what is walked -/
structure Walk (K : PySem.W.Frag) (J : It) (rs : List R) (F0 : Hp) (keep : Mem → Prop) : Prop where
  stop : ∀ M F H, Same F0 F → keep M → Ms K M F H → J.stop rs.length H
  step : ∀ (i : Nat) r M F H, rs[i]? = some r → Same F0 F → keep M → Ms K M F H → J.go i H ∧ ∀ x H', J.yld i H x H' → ∃ F', Rr K F' x r ∧ Ms K M F' H' ∧ Go M F H M F' H'
def OutI (K : PySem.W.Frag) (M : Mem) (F H : Hp) (Q : List R → (Mem → Prop) → Mem → Prop) : It → Hp → Prop := fun J H' => ∃ F' M' rs keep, Walk K J rs F' keep ∧ Q rs keep M' ∧ keep M' ∧ Ms K M' F' H' ∧ Go M F H M' F' H'
def IX (X : Cx) (tg iter : Expr) (ds : List R) (M : Mem) (Q : List R → (Mem → Prop) → Mem → Prop) : Prop := ∀ σ F H, Sta X.K σ ds M F H → cI X tg iter σ H (OutI X.K M F H Q)
theorem ix_pi {tg iter : Expr} {t : TI} {Q : List R → (Mem → Prop) → Mem → Prop} (h : PI X tg iter t) (q : ∀ σ F H, Sta X.K σ ds M F H → t σ H (OutI X.K M F H Q)) : IX X tg iter ds M Q := fun σ F H s pins sh I => h.run pins sh σ H _ I (q σ F H s)
/-- a list: frozen, or the script -/
inductive IsF : R → List R → Prop
  | fz (xs : List PyData) : IsF (.d (.list xs)) (xs.map R.d)
  | sc (ns : List Int) : IsF (.s ns) (ns.map T)
theorem isF_T {α : Type} [TD α] (xs : List α) : IsF (T xs) (xs.map T) := by rw [← T_map]; exact .fz _
theorem IsF.get {K : PySem.W.Frag} {F : Hp} {v : V} {r : R} {rs : List R} (h : IsF r rs) (q : Rr K F v r) : ∃ p xs, v = .ref p ∧ SqL K F p xs ∧ Rrs K F xs rs := by
  cases h with
  | fz xs =>
    have q := rr_d.mp q
    cases q with
    | lst a b => exact ⟨_, _, rfl, SqL.of a, dqs_rrs b⟩
  | sc ns =>
    obtain ⟨a, rfl, c⟩ := rr_s.mp q
    exact ⟨a, _, rfl, c, ints_rrs ns⟩
theorem walk_list {K : PySem.W.Frag} {F0 : Hp} {q : Addr} {xs : List V} {rs : List R} {keep : Mem → Prop} (hs : ∀ M F H, Same F0 F → keep M → Ms K M F H → SqL K H q xs ∧ Rrs K F xs rs) : Walk K (Itl K q) rs F0 keep := by
  refine ⟨fun M F H e k m => ?_, fun i r M F H hi e k m => ?_⟩
  · obtain ⟨h1, h2⟩ := hs M F H e k m
    exact ⟨xs, h1, by rw [h2.length]; exact Nat.le_refl _⟩
  · obtain ⟨h1, h2⟩ := hs M F H e k m
    obtain ⟨v, a, b⟩ := rrs_get h2 hi
    refine ⟨⟨xs, v, h1, a⟩, fun x H' ⟨e1, y⟩ => ?_⟩
    subst e1
    have e2 : x = v := Option.some.inj ((y xs h1).symm.trans a)
    subst e2
    exact ⟨F, b, m, Go.refl⟩
theorem ix_list {tg : Expr} {Q : List R → (Mem → Prop) → Mem → Prop} (h : EX X e ds M fun r M1 => ∃ rs, (IsF r rs ∧ Q rs (fun _ => True) M1) ∨ ∃ q, r = .v (.ref q) ∧ (q, Cell.lst rs) ∈ M1 ∧ Q rs (fun M => (q, Cell.lst rs) ∈ M) M1) : IX X tg e ds M Q := ix_pi (pi_list (peC e)) fun σ F H s =>
  cE_mono (h σ F H s) fun v H' ⟨F', M', r, w, ⟨rs, q⟩, m, g⟩ => by
    rcases q with ⟨hf, q⟩ | ⟨p, e1, hm, q⟩
    · obtain ⟨p, xs, e1, a, b⟩ := hf.get w
      subst e1
      exact ⟨p, rfl, ⟨xs, m.ex.seq a⟩, F', M', rs, _, walk_list fun M F H e _ mm => ⟨mm.ex.seq (e.seq a), b.up e⟩, q, trivial, m, g⟩
    · subst e1
      have e2 := rr_v.mp w
      subst e2
      obtain ⟨xs, a, b⟩ := (m.mem _ _ hm).2
      refine ⟨p, rfl, ⟨xs, SqL.of a⟩, F', M', rs, _, ⟨fun M F H e k mm => ?_, fun i r M F H hi e k mm => ?_⟩, q, hm, m, g⟩
      · obtain ⟨ys, a, b⟩ := (mm.mem _ _ k).2
        exact ⟨ys, SqL.of a, by rw [b.length]; exact Nat.le_refl _⟩
      · obtain ⟨ys, a, b⟩ := (mm.mem _ _ k).2
        obtain ⟨v, a', b'⟩ := rrs_get b hi
        refine ⟨⟨ys, v, SqL.of a, a'⟩, fun x H' ⟨e1, y⟩ => ?_⟩
        subst e1
        have e2 : x = v := Option.some.inj ((y ys (SqL.of a)).symm.trans a')
        subst e2
        exact ⟨F, b', mm, Go.refl⟩
theorem ix_listT {α : Type} [TD α] {xs : List α} {tg : Expr} {Q : List R → (Mem → Prop) → Mem → Prop} (h : DX X e ds M (T xs) M1) (q : Q (xs.map T) (fun _ => True) M1) : IX X tg e ds M Q := ix_list (h _ ⟨_, .inl ⟨isF_T xs, q⟩⟩)
def rgR (n : Nat) : List R := (List.range n).map fun (i : Nat) => T (i : Int)
theorem rgR_get {n i : Nat} {r : R} (h : (rgR n)[i]? = some r) : i < n ∧ r = T (i : Int) := by
  unfold rgR at h
  rw [List.getElem?_map] at h
  by_cases hi : i < n
  · rw [List.getElem?_range hi] at h
    exact ⟨hi, (Option.some.inj h).symm⟩
  · rw [List.getElem?_eq_none (by simpa using hi)] at h; cases h
theorem rgR_len (n : Nat) : (rgR n).length = n := by simp [rgR]
theorem ix_range {tg : Expr} {Q : List R → (Mem → Prop) → Mem → Prop} (hm : X.mg "range" = none) (h : EX X e ds M fun r M1 => ∃ n : Int, r = T n ∧ n < 2 ^ 62 ∧ -(2 ^ 62) ≤ n ∧ Q (rgR n.toNat) (fun _ => True) M1) (hg : Gl X "range" := by rfl) (hs : starEach [e] X.env = [(false, eval e X.env)] := by exact st_any rfl) : IX X tg (.Call (.Name "range" p) [e] [] pos) ds M Q :=
  ix_pi (pi_range1 hg hm (pa_cons (peC e) pa_nil hs) hs) fun σ F H s => cE_mono (h σ F H s) fun v H' ⟨F', M', r, w, ⟨n, e1, l, l2, q⟩, m, g⟩ => by
    subst e1
    refine ⟨n, by rw [rr_int w], l2, l, F', M', rgR n.toNat, _, ⟨fun M F H e k mm => ?_, fun i r M F H hi e k mm => ?_⟩, q, trivial, m, g⟩
    · show n.toNat ≤ (rgR n.toNat).length
      rw [rgR_len]
      exact Nat.le_refl _
    · obtain ⟨hi2, e3⟩ := rgR_get hi
      subst e3
      refine ⟨hi2, fun x H' ⟨e1, y⟩ => ?_⟩
      subst e1 y
      exact ⟨F, by rw [Int.zero_add]; exact rrI, mm, Go.refl⟩
theorem ix_rangeD {tg : Expr} {n : Int} {Q : List R → (Mem → Prop) → Mem → Prop} (hm : X.mg "range" = none) (h : DX X e ds M (T n) M1) (l : n < 2 ^ 62) (l2 : -(2 ^ 62) ≤ n) (q : Q (rgR n.toNat) (fun _ => True) M1) (hg : Gl X "range" := by rfl) (hs : starEach [e] X.env = [(false, eval e X.env)] := by exact st_any rfl) : IX X tg (.Call (.Name "range" p) [e] [] pos) ds M Q :=
  ix_range hm (h _ ⟨n, rfl, l, l2, q⟩) hg hs
/-! ### for -/
theorem bx_for {tg iter : Expr} {body : List Stmt} (hc : X.calm = true) (hp : PassesOwn (model X.prog X.w) X.A X.env X.xe) (h : IX X tg iter ds M fun rs keep M1 => ∃ I : Nat → List R → Mem → Prop, I 0 ds M1 ∧ (∀ i ds M, I i ds M → keep M) ∧
    (∀ i r ds M, rs[i]? = some r → I i ds M → GX X tg r ds M fun ds' M' => BX X body ds' M' { D with nx := I (i + 1), ct := I (i + 1), bk := fun ds M => BX X rest ds M D }) ∧ ∀ ds M, I rs.length ds M → BX X rest ds M D)
    (hs : ∀ x, foldedSetIterable iter X.env x = pure x := by intro _; rfl) : BX X (.For tg iter body [] pos :: rest) ds M D := bx_cons (sx_ps (ps_for hp hc (piC tg iter) (pgC tg) (pbC body) hs) fun σ F H s =>
  cI_mono (h σ F H s) fun J H1 ⟨F1, M1, rs, keep, wk, ⟨I, h0, hk, hb, hd⟩, k1, m1, g1⟩ => by
    refine ⟨fun i m σ' H' => m = rs.length - i ∧ i ≤ rs.length ∧ ∃ F' M' ds', Sta X.K σ' ds' M' F' H' ∧ Go M F H M' F' H' ∧ Same F1 F' ∧ I i ds' M', ⟨rs.length, by simp, Nat.zero_le _, F1, M1, ds, s.go g1 m1, g1, Same.refl _, h0⟩, ?_⟩
    rintro i m σ' H' ⟨rfl, hi, F', M', ds', s', g', e', inv⟩
    by_cases hlt : i < rs.length
    · have hr : rs[i]? = some rs[i] := by simp [hlt]
      obtain ⟨go, st⟩ := wk.step i rs[i] M' F' H' hr e' (hk _ _ _ inv) s'.ms
      refine .inr ⟨go, fun σ2 H2 => ∃ F2 M2 ds2, Sta X.K σ2 ds2 M2 F2 H2 ∧ Go M F H M2 F2 H2 ∧ Same F1 F2 ∧ I (i + 1) ds2 M2, fun σ2 H2 q => ⟨rs.length - (i + 1), by omega, rfl, hlt, q⟩, fun x H2 y => ?_⟩
      obtain ⟨F2, w2, m2, g2⟩ := st x H2 y
      refine cG_mono (hb i rs[i] ds' M' hr inv σ' F2 H2 x (s'.go g2 m2) w2) fun σ3 H3 ⟨F3, M3, ds3, a3, b3, c3, g3⟩ => ?_
      have g4 := (g'.trans g2).trans g3
      have e4 : Same F1 F3 := e'.trans (g2.ex.trans g3.ex)
      refine cB_mono (b3 σ3 F3 H3 ⟨a3, c3⟩) ⟨?_, ?_, ?_, ?_⟩
      · exact fun σ5 H5 ⟨F5, M5, ds5, a5, b5, c5, g5⟩ => ⟨F5, M5, ds5, ⟨a5, c5⟩, g4.trans g5, e4.trans g5.ex, b5⟩
      · exact fun v5 H5 o => Out.trans g4 o
      · exact fun σ5 H5 ⟨F5, M5, ds5, a5, b5, c5, g5⟩ => ⟨F5, M5, ds5, a5, b5, c5, g4.trans g5⟩
      · exact fun σ5 H5 ⟨F5, M5, ds5, a5, b5, c5, g5⟩ => ⟨F5, M5, ds5, ⟨a5, c5⟩, g4.trans g5, e4.trans g5.ex, b5⟩
    · have e5 : i = rs.length := by omega
      subst e5
      exact .inl ⟨wk.stop M' F' H' e' (hk _ _ _ inv) s'.ms, F', M', ds', s'.sl, hd _ _ inv, s'.ms, g'⟩)
/-- while, by an invariant and a measure -/
theorem bx_while {body : List Stmt} (hp : PassesOwn (model X.prog X.w) X.A X.env X.xe) (I : List R → Mem → Nat → Prop) (n : Nat) (h0 : I ds M n) (hb : ∀ ds M n, I ds M n → TX X c ds M fun k M1 => if k = true then BX X body ds M1 { D with nx := fun ds M => ∃ m, m < n ∧ I ds M m, ct := fun ds M => ∃ m, m < n ∧ I ds M m, bk := fun ds M => BX X rest ds M D } else BX X rest ds M1 D) :
    BX X (.While c body [] pos :: rest) ds M D := bx_cons (sx_ps (ps_while hp (ptC c) (pbC body)) fun σ F H s => by
  refine ⟨fun m σ' H' => ∃ F' M' ds', Sta X.K σ' ds' M' F' H' ∧ Go M F H M' F' H' ∧ I ds' M' m, ⟨n, F, M, ds, s, Go.refl, h0⟩, ?_⟩
  rintro m σ' H' ⟨F', M', ds', s', g', inv⟩
  refine cT_mono (hb ds' M' m inv σ' F' H' s') fun k H2 ⟨F2, M2, q, m2, g2⟩ => ?_
  have g3 := g'.trans g2
  cases k with
  | true =>
    refine ⟨fun σ2 H2 => ∃ m', m' < m ∧ ∃ F' M' ds', Sta X.K σ2 ds' M' F' H2 ∧ Go M F H M' F' H2 ∧ I ds' M' m', fun σ2 H2 ⟨m', l, z⟩ => ⟨m', l, z⟩, ?_⟩
    refine cB_mono (q σ' F2 H2 (s'.go g2 m2)) ⟨?_, ?_, ?_, ?_⟩
    · exact fun σ5 H5 ⟨F5, M5, ds5, a5, ⟨m', l, b5⟩, c5, g5⟩ => ⟨m', l, F5, M5, ds5, ⟨a5, c5⟩, g3.trans g5, b5⟩
    · exact fun v5 H5 o => Out.trans g3 o
    · exact fun σ5 H5 ⟨F5, M5, ds5, a5, b5, c5, g5⟩ => ⟨F5, M5, ds5, a5, b5, c5, g3.trans g5⟩
    · exact fun σ5 H5 ⟨F5, M5, ds5, a5, ⟨m', l, b5⟩, c5, g5⟩ => ⟨m', l, F5, M5, ds5, ⟨a5, c5⟩, g3.trans g5, b5⟩
  | false => exact ⟨F2, M2, ds', s'.sl.up g2.ex, q, m2, g3⟩)
/-! ### list comprehensions -/
def wipeR (ds : List R) : List Nat → List R
  | [] => ds
  | v :: vs => (wipeR ds vs).set v .no
theorem wipe_sl {K : PySem.W.Frag} {F : Hp} {σ : L2.St} {ds : List R} (h : Sl K F σ ds) : ∀ vs : List Nat, Sl K F (wipe σ vs) (wipeR ds vs)
  | [] => h
  | v :: vs => by
    have q := wipe_sl h vs
    unfold wipe wipeR
    refine ⟨by simp [q.1], fun i r a n => ?_⟩
    by_cases hj : v = i
    · subst hj
      by_cases hl : v < (wipeR ds vs).length
      · rw [List.getElem?_set_self hl] at a
        cases a
        exact absurd rfl n
      · rw [List.getElem?_eq_none (by simpa using hl)] at a; cases a
    · rw [List.getElem?_set_ne hj] at a ⊢
      exact q.2 i r a n
theorem wipe_set {σ : L2.St} {i : Nat} {x : Option V} : ∀ {vs : List Nat}, i ∈ vs → wipe (σ.set i x) vs = wipe σ vs
  | v :: vs, h => by
    unfold wipe
    by_cases e : i ∈ vs
    · rw [wipe_set e]
    · have e2 : i = v := by
        rcases List.mem_cons.mp h with z | z
        · exact z
        · exact absurd z e
      subst e2
      clear h
      have : ∀ {vs : List Nat}, i ∉ vs → wipe (σ.set i x) vs = (wipe σ vs).set i x := by
        intro vs
        induction vs with
        | nil => intro _; rfl
        | cons w ws ih =>
          intro h
          rw [List.mem_cons, not_or] at h
          unfold wipe
          rw [ih h.2, List.set_comm _ _ h.1]
      rw [this e, List.set_set]
theorem wipe_wipe {σ : L2.St} : ∀ {us vs : List Nat}, (∀ v ∈ us, v ∈ vs) → wipe (wipe σ us) vs = wipe σ vs
  | [], vs, _ => rfl
  | u :: us, vs, h => by
    show wipe ((wipe σ us).set u none) vs = wipe σ vs
    rw [wipe_set (h u (List.mem_cons_self)), wipe_wipe fun v hv => h v (List.mem_cons_of_mem _ hv)]
/-- a comprehension's target: the slots vs alone are set -/
def TgS (K : PySem.W.Frag) (g : TG) (vs : List Nat) (r : R) (ds ds' : List R) : Prop := ∀ x σ F M H (Z : L2.St → Hp → Prop), Sta K σ ds M F H → Rr K F x r → (∀ σ2, Sta K σ2 ds' M F H → wipe σ2 vs = wipe σ vs → Z σ2 H) → g x σ H Z
theorem tgS_name {K : PySem.W.Frag} {i : Nat} {vs : List Nat} (h : i ∈ vs) : TgS K (gName i) vs r ds (ds.set i r) := fun x σ F M H Z s w k => k _ ⟨s.sl.set w, s.ms⟩ (wipe_set h)
theorem tgS_tup2 {K : PySem.W.Frag} {i j : Nat} {vs : List Nat} (ht : ∀ M, IsT M r [r1, r2]) (h : i ∈ vs) (h2 : j ∈ vs) : TgS K (gTup K 2 (gCons (gName i) (gCons (gName j) gNil))) vs r ds ((ds.set i r1).set j r2) := fun x σ F M H Z s w k => by
  obtain ⟨p, xs, e, a, b⟩ := (ht M).get s.ms w
  obtain ⟨v, v', e2, w1, w2⟩ := rrs2 b
  subst e2
  exact ⟨p, _, e, SqT.of a, rfl, v, [v'], rfl, v', [], rfl, rfl, k _ ⟨(s.sl.set w1).set w2, s.ms⟩ (by rw [wipe_set h2, wipe_set h])⟩
/-! an object aside -/
theorem Ms.newX {K : PySem.W.Frag} {F H : Hp} {q : Addr} {o : HO} (m : Ms K M F H) (np : H q = none) : Ms K M F (upd H q o) := by
  have nF : F q = none := m.ex.free np
  refine ⟨fun b u e => by rw [upd_ne (ne_of_none e nF)]; exact m.ex b u e, fun p c h => ⟨(m.mem p c h).1, (m.mem p c h).2.up (Same.refl F) (upd_ne fun e => ?_)⟩, m.nd⟩
  obtain ⟨u, hu⟩ := (m.mem p c h).2.here
  rw [e, np] at hu; cases hu
theorem Ms.writeX {K : PySem.W.Frag} {F H : Hp} {q : Addr} {o : HO} (m : Ms K M F H) (nF : F q = none) (nM : q ∉ ads M) : Ms K M F (upd H q o) :=
  ⟨fun b u e => by rw [upd_ne (ne_of_none e nF)]; exact m.ex b u e, fun p c h => ⟨(m.mem p c h).1, (m.mem p c h).2.up (Same.refl F) (upd_ne fun e => nM (e ▸ List.mem_map.mpr ⟨_, h, rfl⟩))⟩, m.nd⟩
theorem Go.updX {F H F' H' : Hp} {q : Addr} {o : HO} (g : Go M F H M1 F' H') (hq : ∀ u, H q = some u → q ∈ ads M) : Go M F H M1 F' (upd H' q o) :=
  ⟨g.ex, fun p u h n => by rw [upd_ne fun (e : p = q) => n (by rw [e]; exact hq u (by rw [← e]; exact h))]; exact g.fr p u h n, g.nf, g.nw⟩
theorem Ms.freezeX {K : PySem.W.Frag} {F H : Hp} {q : Addr} {o : HO} (m : Ms K M F H) (nF : F q = none) (nM : q ∉ ads M) (h : H q = some o) : Ms K M (upd F q o) H ∧ Same F (upd F q o) := by
  have sF : Same F (upd F q o) := fun b u e => by rw [upd_ne (ne_of_none e nF)]; exact e
  refine ⟨⟨fun b u e => ?_, fun p c hp => ⟨?_, (m.mem p c hp).2.up sF rfl⟩, m.nd⟩, sF⟩
  · by_cases hb : b = q
    · subst hb; rw [upd_same] at e; cases e; exact h
    · rw [upd_ne hb] at e; exact m.ex b u e
  · rw [upd_ne fun (e : p = q) => nM (by rw [← e]; exact List.mem_map.mpr ⟨_, hp, rfl⟩)]
    exact (m.mem p c hp).1
/-- the parts of a comprehension -/
abbrev blkG (X : Cx) (scope : Scope) (P : Cx → Prop) : Prop := ∀ (s : Shared) (H : Hp) (C : Addr) (cl : List (Str × Addr)) (fp : List Addr), P (X.blk s H scope (compEnvC scope cl C X.env) fp)
def LcI (X : Cx) (scope : Scope) (g : TG) (vs : List Nat) (ifs : List Expr) (elt : Expr) (ds : List R) (rs : List R) (I : Nat → List R → Mem → Prop) : Prop :=
  ∀ i r acc M, rs[i]? = some r → I i acc M → ∃ ds', TgS X.K g vs r (wipeR ds vs) ds' ∧ blkG X scope fun Y => TsX Y ifs ds' M fun k M2 => if k = true then blkG X scope fun Y => EX Y elt ds' M2 fun y M3 => I (i + 1) (acc ++ [y]) M3 else I (i + 1) acc M2
theorem tLc_of {tg iter elt : Expr} {ifs : List Expr} {scope : Scope} {g : TG} {vs : List Nat} {Q : R → Mem → Prop}
    (h : IX X tg iter ds M fun rs keep M1 => ∃ I : Nat → List R → Mem → Prop, I 0 [] M1 ∧ (∀ i acc M, I i acc M → keep M ∧ acc.length ≤ i) ∧ rs.length ≤ sizeLine ∧ LcI X scope g vs ifs elt ds rs I ∧
      ∀ acc M, I rs.length acc M → (∃ ys : List PyData, acc = ys.map R.d ∧ Q (.d (.list ys)) M) ∨ ∃ A B, M = A ++ B ∧ ∀ q, Q (.v (.ref q)) (A ++ (q, .lst acc) :: B)) {σ : L2.St} {F H : Hp} (s : Sta X.K σ ds M F H) :
    tLc (cI X tg iter) g (fun σ H Q => blkG X scope fun Y => cTs Y ifs σ H Q) (fun σ H Q => blkG X scope fun Y => cE Y elt σ H Q) vs σ H (Out X.K M F H Q) := by
  refine cI_mono (h σ F H s) fun J H1 ⟨F1, M1, rs, keep, wk, ⟨I, h0, hk, hlen, hb, hd⟩, k1, m1, g1⟩ D nD => ?_
  have hq : ∀ u, H D = some u → D ∈ ads M := fun u z => by
    by_cases n : D ∈ ads M
    · exact n
    · have := g1.fr D u z n
      rw [nD] at this; cases this
  have notM : ∀ {M' : Mem} {F' H' : Hp}, Ms X.K M' F' H' → H' D = none → D ∉ ads M' := fun m z hm => by
    obtain ⟨⟨q, c⟩, h1, h2⟩ := List.mem_map.mp hm
    obtain ⟨u, hu⟩ := (m.mem q c h1).2.here
    have h2 : q = D := h2
    rw [h2, z] at hu; cases hu
  refine ⟨fun i m H' => m = rs.length - i ∧ i ≤ rs.length ∧ ∃ F' M' acc zs, Ms X.K M' F' H' ∧ Go M F H M' F' H' ∧ Same F1 F' ∧ I i acc M' ∧ H' D = some (.lst zs) ∧ Rrs X.K F' zs acc ∧ F' D = none ∧ D ∉ ads M',
    ⟨rs.length, by simp, Nat.zero_le _, F1, M1, [], [], m1.newX nD, g1.updX hq, Same.refl _, h0, upd_same, .nil, m1.ex.free nD, notM m1 nD⟩, ?_⟩
  rintro i m H' ⟨rfl, hi, F', M', acc, zs, m', g', e', inv, hD, hz, nF, nM⟩
  obtain ⟨hkeep, hacc⟩ := hk _ _ _ inv
  by_cases hlt : i < rs.length
  · have hr : rs[i]? = some rs[i] := by simp [hlt]
    obtain ⟨go, st⟩ := wk.step i rs[i] M' F' H' hr e' hkeep m'
    refine .inr ⟨go, fun H2 => ∃ F' M' acc zs, Ms X.K M' F' H2 ∧ Go M F H M' F' H2 ∧ Same F1 F' ∧ I (i + 1) acc M' ∧ H2 D = some (.lst zs) ∧ Rrs X.K F' zs acc ∧ F' D = none ∧ D ∉ ads M', fun H2 q => ⟨rs.length - (i + 1), by omega, rfl, hlt, q⟩, fun x H2 y => ?_⟩
    obtain ⟨F2, w2, m2, g2⟩ := st x H2 y
    have keepD : ∀ {Ma Mb : Mem} {Fa Fb Ha Hb : Hp}, Go Ma Fa Ha Mb Fb Hb → Ha D = some (.lst zs) → Fa D = none → D ∉ ads Ma → Hb D = some (.lst zs) ∧ Fb D = none ∧ D ∉ ads Mb := fun g a b c =>
      ⟨g.fr D _ a c, g.nf D _ a b c, fun z => (g.nw D z).elim c fun q => by rw [a] at q; cases q⟩
    obtain ⟨ds', tgt, body⟩ := hb i rs[i] acc M' hr inv
    obtain ⟨d2, f2, n2⟩ := keepD g2 hD nF nM
    have sl2 : Sl X.K F2 (wipe σ vs) (wipeR ds vs) := wipe_sl (s.sl.up (g'.ex.trans g2.ex)) vs
    refine tgt x _ F2 M' H2 _ ⟨sl2, m2⟩ w2 fun σ2 s2 ew => ⟨by rw [ew, wipe_wipe fun v hv => hv], fun sh H0 C cl fp => ?_⟩
    refine cTs_mono (body sh H0 C cl fp σ2 F2 H2 s2) fun k H3 ⟨F3, M3, q3, m3, g3⟩ => ?_
    obtain ⟨d3, f3, n3⟩ := keepD g3 d2 f2 n2
    have g23 := (g'.trans g2).trans g3
    have e23 : Same F1 F3 := e'.trans (g2.ex.trans g3.ex)
    cases k with
    | false =>
      rw [if_neg Bool.false_ne_true] at q3 ⊢
      exact ⟨F3, M3, acc, zs, m3, g23, e23, q3, d3, Rrs.up (g2.ex.trans g3.ex) hz, f3, n3⟩
    | true =>
      rw [if_pos rfl] at q3 ⊢
      intro sh H0 C cl fp
      refine cE_mono (q3 sh H0 C cl fp σ2 F3 H3 (s2.go g3 m3)) fun yv H4 ⟨F4, M4, ry, a4, q4, m4, g4⟩ => ?_
      obtain ⟨d4, f4, n4⟩ := keepD g4 d3 f3 n3
      have e4 := (g2.ex.trans g3.ex).trans g4.ex
      refine ⟨zs, d4, ?_, F4, M4, acc ++ [ry], zs ++ [yv], m4.writeX f4 n4, (g23.trans g4).updX hq, e'.trans e4, q4, upd_same, rrs_app (Rrs.up e4 hz) (.cons a4 .nil), f4, n4⟩
      rw [hz.length]
      omega
  · have e5 : i = rs.length := by omega
    subst e5
    refine .inl ⟨wk.stop M' F' H' e' hkeep m', ?_⟩
    rcases hd _ _ inv with ⟨ys, ea, q⟩ | ⟨A, B, ea, q⟩
    · subst ea
      obtain ⟨fz, sF⟩ := m'.freezeX nF nM hD
      refine ⟨_, M', _, rr_d.mpr (.lst upd_same (rrs_dqs (Rrs.up sF hz))), q, fz, ⟨g'.ex.trans sF, g'.fr, fun p u hp hf n => ?_, g'.nw⟩⟩
      rw [upd_ne fun (e : p = D) => n (by rw [e]; exact hq u (by rw [← e]; exact hp))]
      exact g'.nf p u hp hf n
    · subst ea
      refine ⟨F', _, _, rr_v.mpr rfl, q D, ⟨m'.ex, fun p c hp => ?_, ?_⟩, ⟨g'.ex, g'.fr, g'.nf, fun p hp => ?_⟩⟩
      · rcases List.mem_append.mp hp with z | z
        · exact m'.mem p c (List.mem_append_left _ z)
        · rcases List.mem_cons.mp z with z | z
          · cases z; exact ⟨nF, zs, hD, hz⟩
          · exact m'.mem p c (List.mem_append_right _ z)
      · have nd := m'.nd
        simp only [ads, List.map_append, List.map_cons] at nd nM ⊢
        rw [List.nodup_append] at nd ⊢
        obtain ⟨n1, n2, n3⟩ := nd
        rw [List.mem_append, not_or] at nM
        refine ⟨n1, List.nodup_cons.mpr ⟨nM.2, n2⟩, fun a ha b hb => ?_⟩
        rcases List.mem_cons.mp hb with z | z
        · subst z; exact fun e => nM.1 (e ▸ ha)
        · exact n3 a ha b z
      · simp only [ads, List.map_append, List.map_cons, List.mem_append, List.mem_cons] at hp
        have old := fun z => g'.nw p (show p ∈ ads (A ++ B) by simp only [ads, List.map_append, List.mem_append]; exact z)
        rcases hp with z | z | z
        · exact old (.inl z)
        · subst z
          cases hH : H p with
          | none => exact .inr rfl
          | some u => exact .inl (hq u hH)
        · exact old (.inr z)
theorem ex_lc {tg iter elt : Expr} {ifs : List Expr} {scope : Scope} {g : TG} {own : List (Str × Nat)} {Q : R → Mem → Prop} (hc : X.calm = true) (hN : X.N.Nodup) (ok : BlkOk X.N X.env.scope scope own) (hg : blkG X scope fun Y => PG Y tg g)
    (h : IX X tg iter ds M fun rs keep M1 => ∃ I : Nat → List R → Mem → Prop, I 0 [] M1 ∧ (∀ i acc M, I i acc M → keep M ∧ acc.length ≤ i) ∧ rs.length ≤ sizeLine ∧ LcI X scope g (own.map (·.2)) ifs elt ds rs I ∧
      ∀ acc M, I rs.length acc M → (∃ ys : List PyData, acc = ys.map R.d ∧ Q (.d (.list ys)) M) ∨ ∃ A B, M = A ++ B ∧ ∀ q, Q (.v (.ref q)) (A ++ (q, .lst acc) :: B)) (hs : ∀ x, foldedSetIterable iter X.env x = pure x := by intro _; rfl) : EX X (.ListComp elt [⟨tg, iter, ifs, 0⟩] scope pos) ds M Q :=
  ex_pe (pe_lc (tt := fun σ H Q => blkG X scope fun Y => cTs Y ifs σ H Q) (te := fun σ H Q => blkG X scope fun Y => cE Y elt σ H Q) hc hN (piC tg iter) ok hg (fun s H C cl fp => ⟨fun pins sh σ H Q I z => (ptsC ifs).run pins sh σ H Q I (z s _ C cl fp)⟩) (fun s H C cl fp => ⟨fun pins sh σ H Q I z => (peC elt).run pins sh σ H Q I (z s _ C cl fp)⟩) hs) fun σ F H s => tLc_of h s
theorem bx_setLc (i : Nat) {y : Str} {py : Pos} {spos : Pos} {tg iter elt : Expr} {ifs : List Expr} {scope : Scope} {g : TG} {own : List (Str × Nat)} (hc : X.calm = true) (hN : X.N.Nodup) (ok : BlkOk X.N X.env.scope scope own) (hg : blkG X scope fun Y => PG Y tg g)
    (h : IX X tg iter ds M fun rs keep M1 => ∃ I : Nat → List R → Mem → Prop, I 0 [] M1 ∧ (∀ i acc M, I i acc M → keep M ∧ acc.length ≤ i) ∧ rs.length ≤ sizeLine ∧ LcI X scope g (own.map (·.2)) ifs elt ds rs I ∧
      ∀ acc M, I rs.length acc M → (∃ ys : List PyData, acc = ys.map R.d ∧ BX X rest (ds.set i (.d (.list ys))) M D) ∨ ∃ A B, M = A ++ B ∧ ∀ q, BX X rest (ds.set i (.v (.ref q))) (A ++ (q, .lst acc) :: B) D)
    (hy : X.N[i]? = some y := by rfl) (hyl : X.env.scope.names.lookup y = some .local := by rfl) (hsw : swapsWith (.ListComp elt [⟨tg, iter, ifs, 0⟩] scope pos) (some (.Name y py)) spos.line X.env = pure true := by exact sw_true rfl rfl rfl (by decide +kernel))
    (hs : ∀ x, foldedSetIterable iter X.env x = pure x := by intro _; rfl) : BX X (.Assign [.Name y py] (.ListComp elt [⟨tg, iter, ifs, 0⟩] scope pos) spos :: rest) ds M D := bx_cons (sx_ps (ps_setLc (tt := fun σ H Q => blkG X scope fun Y => cTs Y ifs σ H Q) (te := fun σ H Q => blkG X scope fun Y => cE Y elt σ H Q) hc hN hy hyl hsw (piC tg iter) ok hg (fun s H C cl fp => ⟨fun pins sh σ H Q I z => (ptsC ifs).run pins sh σ H Q I (z s _ C cl fp)⟩) (fun s H C cl fp => ⟨fun pins sh σ H Q I z => (peC elt).run pins sh σ H Q I (z s _ C cl fp)⟩) hs) fun σ F H s => by
  have q := tLc_of (Q := fun r M => BX X rest (ds.set i r) M D) h s
  have mono : ∀ (Q Q' : VK), (∀ v H', Q v H' → Q' v H') → ∀ {wi g tt te vs σ H}, (∀ σ H (R R' : It → Hp → Prop), (∀ J H', R J H' → R' J H') → wi σ H R → wi σ H R') → tLc wi g tt te vs σ H Q → tLc wi g tt te vs σ H Q' := by
    intro Q Q' hQ wi g tt te vs σ H hw z
    refine hw _ _ _ _ (fun J H' k D nD => ?_) z
    obtain ⟨W, w0, w⟩ := k D nD
    refine ⟨W, w0, fun i m H hW => ?_⟩
    rcases w i m H hW with ⟨a, b⟩ | b
    · exact .inl ⟨a, hQ _ _ b⟩
    · exact .inr b
  exact mono _ _ (fun v H' ⟨F', M', r, a, b, c, g⟩ => ⟨F', M', _, (s.sl.up g.ex).set a, b, c, g⟩) (fun σ H R R' z w => cI_mono w z) q)
end
end Hq
/-! Fn: defs and their calls where no repr is under way; the law's entry. -/
namespace Hq
open PySem PySem.Spec PyProof.Rows L2
/-- a def keeps its promise wherever no repr is under way -/
structure FnG (P : Program) (w : World) (K : PySem.W.Frag) (mg : Str → Option Value) (base : Heap) (CX : CXT) (k : Nat) (f : Addr) (fd : FuncData) (ps : List Str) (sp : Sp) : Prop where
  len : ∀ xs G R Z, sp xs G R Z → xs.length = ps.length
  go : ∀ (A : Around) (fr : List Env) (s : Shared) (G : Hp) (ar : Args) (us : List Value) (xs : List V) (R : VK) (Z : XK), A.guards = some [] → Room k A → Env0 P w K mg base A fr s G → BindsTo s fd ar (ps.zip us) → Vals xs us → sp xs G R Z →
    codeAny (model P w) A (.call (.ref f) ar) (CR CX fr P w G s R Z) s
theorem FnG.mono {P : Program} {w : World} {K : PySem.W.Frag} {mg : Str → Option Value} {base : Heap} {CX : CXT} {j k : Nat} {f : Addr} {fd : FuncData} {ps : List Str} {sp : Sp} (G : FnG P w K mg base CX j f fd ps sp) (h : j ≤ k) : FnG P w K mg base CX k f fd ps sp :=
  ⟨G.len, fun A fr s H ar us xs R Z g hr => G.go A fr s H ar us xs R Z g (hr.mono h)⟩
theorem deeper_guards (A : Around) (env : Env) (h : A.guards = some []) : (A.deeper env).guards = some [] := h
section
variable {P : Program} {w : World} {K : PySem.W.Frag} {mg : Str → Option Value} {base : Heap}
theorem fnG_of {CX : CXT} {k : Nat} {x qual : Str} {st : Stmt} {f : Addr} {fd : FuncData} {N ps : List Str} {sp : Sp} (D : Fun K x qual st f fd) (S : FnScope N ps (defScope st)) (len : ∀ xs G R Z, sp xs G R Z → xs.length = ps.length)
    (body : ∀ (cd : Value) (A : Around) (fr : List Env) (s : Shared) (G : Hp) (xs : List V) (R : VK) (Z : XK), A.guards = some [] → Room k (A.deeper (envOfC qual (defScope st) s.heap.objs.size f cd)) → sp xs G R Z →
      cB (cxOf CX P w K mg base N qual (defScope st) f cd A fr s G Z) (defBody st) { nx := fun _ G' => R .non G', rt := R } (start N xs) G) : FnG P w K mg base CX (k + 1) f fd ps sp := by
  obtain ⟨oc, od, kV, doc, pm, an, cd, ct, osl, rfl, lk, hcd⟩ := D.ex
  refine ⟨len, fun A fr s G ar us xs R Z hg hr e0 hb r hsp => ?_⟩
  have KX : K.In s.heap := e0.mod.kin.keeps fun b o e => (e0.bs b o e).1
  have kinds : ∀ y ∈ ps.zip us, (defScope st).names.lookup y.1 = some .local ∨ ((defScope st).names.lookup y.1 = some .cell ∧ ((cellsFrom (s.heap.objs.size + 1) (defScope st).names []).lookup y.1).isSome = true) := by
    rintro ⟨n, v⟩ hy
    exact (S.par n (List.of_mem_zip hy).1).imp id fun q => ⟨q, PySem.W.cellsFrom_some _ _ _ (.inl q)⟩
  refine codeAny_call_function hr.depth (KX _ _ lk) rfl S.co S.gen rfl (PySem.W.codeRec_of KX hcd) (hb _ _ _ _ ?_)
  refine wpAny_newFunctionEnv_cells S.kind kinds fun env he s1 x1 => ?_
  subst he
  refine ⟨(e0.mod.nolimit.keeps fun b o e => (e0.bs b o e).1).keeps x1.toInCall.keep, codeAny_func ?_⟩
  have J : Inv (cxOf CX P w K mg base N qual (defScope st) f cd A fr s G Z) [] (start N xs) G s1 := inv_start S hr.hd e0 (len _ _ _ _ hsp) r x1
  refine wpAny_mono (body cd A fr s G xs R Z hg (hr.deeper _) hsp [] s1 J) (fun fl s' h => ?_) fun _ _ h => h
  cases fl with
  | ret u =>
    obtain ⟨v, σ', G', J', rv, q⟩ := h
    exact ⟨v, G', J'.os, J'.bare, J'.base, J'.hok, rv, q⟩
  | next =>
    obtain ⟨σ', G', J', q⟩ := h
    exact ⟨.non, G', J'.os, J'.bare, J'.base, J'.hok, rfl, q⟩
  | brk => obtain ⟨_, _, _, q⟩ := h; exact q.elim
  | cont => obtain ⟨_, _, _, q⟩ := h; exact q.elim
end
/-! ### promises by abstract states -/
abbrev Wp := List R → Mem → (R → Mem → Prop) → Prop
def spW (K : PySem.W.Frag) (W : Wp) : Sp := fun vs H Qv _ => ∃ rs M F Q, Rrs K F vs rs ∧ Ms K M F H ∧ W rs M Q ∧ ∀ v H', Out K M F H Q v H' → Qv v H'
/-- a def of the text that keeps W, k levels deep -/
structure Fx (P : Program) (w : World) (K : PySem.W.Frag) (mg : Str → Option Value) (base : Heap) (k : Nat) (x : Str) (st : Stmt) (ps : List Str) (W : Wp) : Prop where
  ex : ∃ f fd, mg x = some (.ref f) ∧ Fun K x x st f fd ∧ Binds K fd ps [] ∧ FnG P w K mg base CX0 k f fd ps (spW K W)
theorem Fx.mono {P : Program} {w : World} {K : PySem.W.Frag} {mg : Str → Option Value} {base : Heap} {j k : Nat} {x : Str} {st : Stmt} {ps : List Str} {W : Wp} (h : Fx P w K mg base j x st ps W) (l : j ≤ k) : Fx P w K mg base k x st ps W := by
  obtain ⟨f, fd, a, b, c, d⟩ := h.ex
  exact ⟨f, fd, a, b, c, d.mono l⟩
/-- where a def stands -/
structure At (K : PySem.W.Frag) (mg : Str → Option Value) (x : Str) (st : Stmt) : Prop where
  ex : ∃ f fd, mg x = some (.ref f) ∧ Fun K x x st f fd
abbrev bX (P : Program) (w : World) (K : PySem.W.Frag) (mg : Str → Option Value) (base : Heap) (N : List Str) (x : Str) (st : Stmt) (f : Addr) (cd : Value) (A : Around) (fr : List Env) (s : Shared) (G : Hp) (Z : XK) : Cx := (cxOf CX0 P w K mg base N x (defScope st) f cd A fr s G Z).nox
theorem fx_of {P : Program} {w : World} {K : PySem.W.Frag} {mg : Str → Option Value} {base : Heap} {k : Nat} {x : Str} {st : Stmt} {N ps : List Str} {W : Wp} (a : At K mg x st) (S : FnScope N ps (defScope st)) (len : ∀ rs M Q, W rs M Q → rs.length = ps.length)
    (hb : ∀ (kV doc pm : Value) (an : Option Addr) (cdv ct : Value) (us : List Value), us.length = ps.length → bindArgs (PySem.W.fnOf x x (defArgs st) (defBody st) (defScope st) .none kV doc pm an cdv ct) ⟨us, []⟩ = pure (ps.zip us))
    (body : ∀ (f : Addr) (cd : Value) (A : Around) (fr : List Env) (s : Shared) (G : Hp) (Z : XK) (rs : List R) (M : Mem) (Q : R → Mem → Prop), (bX P w K mg base N x st f cd A fr s G Z).A.guards = some [] → Room k (bX P w K mg base N x st f cd A fr s G Z).A → W rs M Q →
      BX (bX P w K mg base N x st f cd A fr s G Z) (defBody st) (rs ++ List.replicate (N.length - ps.length) .no) M { nx := fun _ M' => Q (.d .none) M', rt := Q }) : Fx P w K mg base (k + 1) x st ps W := by
  obtain ⟨f, fd, hm, D⟩ := a.ex
  refine ⟨f, fd, hm, D, D.binds hb, fnG_of D S (fun xs G R Z h => ?_) (fun cd A fr s G xs R Z hg hr h => ?_)⟩
  · obtain ⟨rs, M, F, Q, a, b, c, d⟩ := h
    rw [a.length]
    exact len _ _ _ c
  · obtain ⟨rs, M, F, Q, a, b, c, d⟩ := h
    have hl := len _ _ _ c
    have hx : xs.length = ps.length := a.length.trans hl
    have sl : Sl K F (start N xs) (rs ++ List.replicate (N.length - ps.length) .no) := by
      refine ⟨by simp [L2.start, a.length, hl], fun i r hi n => ?_⟩
      unfold L2.start
      by_cases h1 : i < rs.length
      · rw [List.getElem?_append_left h1] at hi
        obtain ⟨v, e1, e2⟩ := rrs_get a hi
        refine ⟨v, ?_, e2⟩
        rw [List.getElem?_append_left (by simpa [a.length] using h1), List.getElem?_map, e1]
        rfl
      · rw [List.getElem?_append_right (by omega), List.getElem?_replicate] at hi
        split at hi
        · cases hi; exact absurd rfl n
        · cases hi
    have q := body f cd A fr s G Z rs M Q hg hr c (start N xs) F G ⟨sl, b⟩
    intro pins sh I
    refine wpAny_mono (q pins sh (I.wish _)) (fun fl s' h => ?_) fun _ _ z => False.elim z
    have h := h.unwish
    refine sp_mono h ⟨fun σ' H' ⟨F', M', ds', a', b', c', g'⟩ => d _ _ ⟨F', M', _, rrN, b', c', g'⟩, fun v H' o => d v H' o, fun _ _ ⟨_, _, _, _, z, _⟩ => z.elim, fun _ _ ⟨_, _, _, _, z, _⟩ => z.elim⟩
/-! ### calls -/
section
variable {X : Cx} {e : Expr} {es : List Expr} {kws : List Keyword} {ds : List R} {M M1 : Mem} {pos p kpos : Pos} {Q : R → Mem → Prop} {k : Nat} {x : Str} {st : Stmt} {ps ks : List Str} {W : Wp}
theorem runG {CX : CXT} {f : Addr} {fd : FuncData} {sp : Sp} {Z : XK} {pins : List (Addr × Obj)} {σ : L2.St} {H : Hp} {s : Shared} {R : VK} {us : List Value} {ar : Args} {xs : List V} (G : FnG X.prog X.w X.K X.mg X.base CX k f fd ps sp) (hg : X.A.guards = some []) (hr : Room k X.A) (hb : BindsTo s fd ar (ps.zip us)) (hx : Passes CX X Z)
    (I : Inv X pins σ H s) (r : Vals xs us) (h : sp xs H R Z) : codeAny (model X.prog X.w) X.A (.call (.ref f) ar) (fun r s' => match r with | .ok (.ret u) => EP X pins σ R u s' | .ok _ => False | .error e => X.xe e s') s :=
  codeAny_mono (G.go X.A X.stack s H ar us xs R Z hg hr I.env0 hb r h) fun r s' q => by
    cases r with
    | error e => exact hx pins σ H s e s' I q
    | ok fl =>
      cases fl with
      | ret u => exact I.after q
      | next => exact q.elim
      | brk => exact q.elim
      | cont => exact q.elim
theorem spW_out {F H H1 F1 : Hp} {vs : List V} {rs : List R} {Z : XK} (g : Go M F H M1 F1 H1) (a : Rrs X.K F1 vs rs) (m : Ms X.K M1 F1 H1) (h : W rs M1 Q) : spW X.K W vs H1 (Out X.K M F H Q) Z := ⟨rs, M1, F1, Q, a, m, h, fun v H' o => Out.trans g o⟩
theorem call_thn {f : Value} {us : List Value} {kw : List (Str × Value)} {pins : List (Addr × Obj)} {σ : L2.St} {R : VK} {s : Shared} (h : codeAny (model X.prog X.w) X.A (.call f ⟨us, kw⟩) (fun r s' => match r with | .ok (.ret u) => EP X pins σ R u s' | .ok _ => False | .error e => X.xe e s') s) :
    wpAny (model X.prog X.w) X.A (call f us kw) (EP X pins σ R) X.xe s := wpAny_call (codeAny_mono h fun r s' q => by
  cases r with
  | error e => exact q
  | ok fl =>
    cases fl with
    | ret u => exact q
    | next => exact q.elim
    | brk => exact q.elim
    | cont => exact q.elim)
/-- f(e, ..) -/
theorem ex_call (G : Fx X.prog X.w X.K X.mg X.base k x st ps W) (hg : X.A.guards = some []) (hr : Room k X.A) (h : AX X (e :: es) ds M fun rs M1 => W rs M1 Q) (gl : Gl X x := by rfl) (hdb : (x == ("__debug__" : Str)) = false := by decide) (he : starEach (e :: es) X.env = (false, eval e X.env) :: starEach es X.env := by exact st_any rfl)
    (hpl : (backTo pos (starEach es X.env)).any (·.1) = false := by rfl) : EX X (.Call (.Name x p) (e :: es) [] pos) ds M Q := fun σ F H s pins sh I => by
  obtain ⟨f, fd, hm, D, hb, G⟩ := G.ex
  refine wpAny_Call_Name_kw (ld_glob I gl hm ?_ hdb)
  refine PySem.W.callWith_K (h₀ := X.base) I.ok.mod.kin D.kp (thn (h σ F H s pos pins sh I) fun us s1 ⟨vs, H1, I1, r, F1, M1, rs, a, w, m, g⟩ => ⟨I1.kIn, ?_⟩) he hpl
  have sp := spW_out (Z := E0) g a m w
  have hl := G.len _ _ _ _ sp
  have hb1 := hb s1 us I1.kIn (by rw [List.append_nil, ← r.length]; exact hl)
  rw [List.append_nil] at hb1
  exact call_thn (runG G hg hr hb1 pass0 I1 r sp)
/-- f() -/
theorem ex_call0 (G : Fx X.prog X.w X.K X.mg X.base k x st ps W) (hg : X.A.guards = some []) (hr : Room k X.A) (h : W [] M Q) (gl : Gl X x := by rfl) (hdb : (x == ("__debug__" : Str)) = false := by decide) : EX X (.Call (.Name x p) [] [] pos) ds M Q := fun σ F H s pins sh I => by
  obtain ⟨f, fd, hm, D, hb, G⟩ := G.ex
  refine wpAny_Call_Name_kw (ld_glob I gl hm ?_ hdb)
  have sp := spW_out (Z := E0) (X := X) (vs := []) Go.refl .nil s.ms h
  have hl := G.len _ _ _ _ sp
  have hb1 := hb sh [] I.kIn hl
  exact PySem.W.callWith_K0 I.kIn D.kp (call_thn (runG G hg hr hb1 pass0 I .nil sp))
theorem kx_nil {QA : List R → Mem → Prop} (q : QA [] M) : KX X [] ds M QA := fun σ F H s pos pins sh I => pk_nil.run pos pins sh σ H _ I ⟨F, M, [], .nil, q, s.ms, Go.refl⟩
theorem kx_cons {nm : Option Str} {QA : List R → Mem → Prop} (h : EX X e ds M fun r M1 => KX X kws ds M1 fun rs M2 => QA (r :: rs) M2) : KX X (⟨nm, e, kpos⟩ :: kws) ds M QA := fun σ F H s pos pins sh I => (pk_cons (peC e) (pkC kws)).run pos pins sh σ H _ I
  (cE_mono (h σ F H s) fun x H1 ⟨F1, M1, r1, a1, h1, m1, g1⟩ => cK_mono (h1 σ F1 H1 (s.go g1 m1)) fun xs H2 ⟨F2, M2, rs, a2, h2, m2, g2⟩ => ⟨F2, M2, r1 :: rs, .cons (a1.up g2.ex) a2, h2, m2, g1.trans g2⟩)
theorem rrs_perm {K : PySem.W.Frag} {F : Hp} {vs : List V} {rs : List R} {us : List Value} (a : Rrs K F vs rs) (r : Vals vs us) (ix : List Nat) (h : ∀ i ∈ ix, i < rs.length) : ∃ vs', Rrs K F vs' (ix.map fun i => rs.getD i .no) ∧ Vals vs' (ix.map fun i => us.getD i .none) := by
  induction ix with
  | nil => exact ⟨[], .nil, .nil⟩
  | cons i ix ih =>
    obtain ⟨vs', h1, h2⟩ := ih fun j hj => h j (List.mem_cons_of_mem _ hj)
    have hi := h i List.mem_cons_self
    obtain ⟨v, e1, e2⟩ := rrs_get a (show rs[i]? = some rs[i] by simp [hi])
    obtain ⟨u, e3, e4⟩ := r.get e1
    refine ⟨v :: vs', .cons ?_ h1, .cons ?_ h2⟩
    · show Rr K F v (rs.getD i .no)
      rw [List.getD_eq_getElem?_getD, show rs[i]? = some rs[i] by simp [hi]]; exact e2
    · show L2.RelV v (us.getD i .none)
      rw [List.getD_eq_getElem?_getD, e3]; exact e4
/-- f(a = .., b = ..): all by name; ix: where each parameter stands among the names given -/
theorem ex_callKw (ix : List Nat) (ks : List Str) (G : Fx X.prog X.w X.K X.mg X.base k x st ps W) (hg : X.A.guards = some []) (hr : Room k X.A) (h : KX X kws ds M fun rs M1 => rs.length = ks.length ∧ W (ix.map fun i => rs.getD i .no) M1 Q)
    (hix : ∀ i ∈ ix, i < ks.length) (hb : ∀ (kV doc pm : Value) (an : Option Addr) (cdv ct : Value) (ws : List Value), ws.length = ks.length → bindArgs (PySem.W.fnOf x x (defArgs st) (defBody st) (defScope st) .none kV doc pm an cdv ct) ⟨[], ks.zip ws⟩ = pure (ps.zip (ix.map fun i => ws.getD i .none)))
    (gl : Gl X x := by rfl) (hall : (backToKw pos (keywordEach kws X.env)).all (·.1.isSome) = true := by rfl) (hks : (backToKw pos (keywordEach kws X.env)).filterMap (·.1) = ks := by rfl) (hdb : (x == ("__debug__" : Str)) = false := by decide)
    (hpl : ((backTo pos (starEach [] X.env)).any (·.1) || (backToKw pos (keywordEach kws X.env)).any (·.1.isNone)) = false := by rfl) : EX X (.Call (.Name x p) [] kws pos) ds M Q := fun σ F H s pins sh I => by
  obtain ⟨f, fd, hm, D, _, G⟩ := G.ex
  refine wpAny_Call_Name_kw (ld_glob I gl hm ?_ hdb)
  refine PySem.W.callWith_KW0 (h₀ := X.base) I.ok.mod.kin D.kp hall (thn (h σ F H s pos pins sh I) fun us s1 ⟨vs, H1, I1, r, F1, M1, rs, a, ⟨hl, w⟩, m, g⟩ => ⟨I1.kIn, ?_⟩) hpl
  rw [hks]
  obtain ⟨vs', w1, w2⟩ := rrs_perm a r ix fun i hi => by rw [hl]; exact hix i hi
  have sp := spW_out (Z := E0) g w1 m w
  obtain ⟨oc, od, kV, doc, pm, an, cd, ct, osl, rfl, lk, hcd⟩ := D.ex
  exact call_thn (runG G hg hr (.of_eq (hb kV doc pm an cd ct us (by rw [← r.length, a.length]; exact hl))) pass0 I1 w2 sp)
end
/-! ### the law's entry -/
theorem enterG {P : Program} {w : World} {K : PySem.W.Frag} {mg mb : Str → Option Value} {k : Nat} {fa a : Addr} {x : Str} {st : Stmt} {W : Wp} {s1 : Shared} {vs : List Value} {ns : List Int} (kx : K.In s1.heap) (hn : s1.heap.Ns mainGlobals mg) (hb : s1.heap.Ns builtinsNs mb)
    (hbb : ∀ x : Str, x ≠ "__name__" → mb x = bootBuiltins x) (lim : s1.heap.NoLimit) (hg : s1.gens = #[]) (ha : s1.heap.get? a = some { cls := .type "list", data := .seq vs.toArray }) (hi : IntsAre vs ns) (hl : ns.length ≤ sizeLine) (hr : Room k callerA) (hmg : mg "law" = some (.ref fa))
    (G : ∀ base : Heap, K.In base → base.Ns mainGlobals mg → Fx P w K mg base k "law" st [x] W) (hW : W [.s ns] [] fun r _ => r = T true) :
    codeAny (model P w) callerA (.call (.ref fa) ⟨[.ref a], []⟩) (fun r s' => r = .ok (.ret (.bool true)) ∧ OldK s1.heap s'.heap ∧ s'.os = s1.os ∧ AllBare s'.gens) s1 := by
  have vv := vals_ints hi
  -- H: the script alone may be tracked
  have main : ∀ H : Hp, Only H → SqL K H a (ns.map V.int) → HOk P w H s1.heap → (∀ b, H b ≠ none → b = a) → (H a ≠ none → K.lookup a = none) →
      codeAny (model P w) callerA (.call (.ref fa) ⟨[.ref a], []⟩) (fun r s' => r = .ok (.ret (.bool true)) ∧ OldK s1.heap s'.heap ∧ s'.os = s1.os ∧ AllBare s'.gens) s1 := by
    intro H only sq ok one apart
    have noDict : ∀ {b : Addr} {o : Obj} {es : Array DictEntry} {ep : Nat}, s1.heap.get? b = some o → o.data = .dict es ep → H b = none := by
      intro b o es ep e d
      cases q : H b with
      | none => rfl
      | some u =>
        obtain rfl := one b (by simp [q])
        obtain rfl := Option.some.inj (ha.symm.trans e)
        cases (show Data.seq vs.toArray _ = Data.dict es ep from d)
    have ns1 : ∀ {b : Addr} {m : Str → Option Value}, s1.heap.Ns b m → (hidT s1.heap H).Ns b m := fun ⟨o, es, ep, e, d, r⟩ => ⟨o, es, ep, hidT_get e (noDict e d), d, r⟩
    have kin : K.In (hidT s1.heap H) := fun b o e => hidT_get (kx b o e) (by
      cases q : H b with
      | none => rfl
      | some u =>
        obtain rfl := one b (by simp [q])
        have z := apart (by simp [q])
        rw [z] at e; cases e)
    have md : Mod K mg (hidT s1.heap H) := ⟨kin, ns1 hn, ⟨mb, ns1 hb, hbb⟩, let ⟨mc, h1, h2⟩ := lim; ⟨mc, ns1 h1, h2⟩⟩
    have e0 : Env0 P w K mg (hidT s1.heap H) callerA [] s1 H := ⟨rfl, md, fun _ _ e => of_hidT e, Nat.le_of_eq (hidT_size _ _), trivial, (fun b hb => by cases hb), ok, .of_eq hg⟩
    obtain ⟨f, fd, hm, D, hbind, g⟩ := (G _ kin (ns1 hn)).ex
    obtain rfl : f = fa := by rw [hmg] at hm; cases hm; rfl
    have sp : spW K W [.ref a] H (fun v _ => v = .bl true) E0 := ⟨[.s ns], [], H, _, .cons (rr_s.mpr ⟨a, rfl, sq⟩) .nil, ⟨Same.refl H, (fun _ _ h => by cases h), List.nodup_nil⟩, hW, fun v H' ⟨F', M', r, q1, q2, _⟩ => by subst q2; exact rr_bl q1⟩
    have bd := hbind s1 [.ref a] kx rfl
    refine codeAny_mono (g.go callerA [] s1 H ⟨[.ref a], []⟩ [.ref a] [.ref a] _ _ rfl hr e0 bd (.cons rfl .nil) sp) fun r s' h => ?_
    cases r with
    | error e => exact h.elim
    | ok fl =>
      cases fl with
      | next => exact h.elim
      | brk => exact h.elim
      | cont => exact h.elim
      | ret u =>
        obtain ⟨v, H', os, bare, un, ok', r', q⟩ := h
        obtain rfl : v = .bl true := q
        obtain rfl : u = Value.bool true := r'
        refine ⟨rfl, OldK.of_keep fun b o e => ?_, os, bare⟩
        cases q : H b with
        | none => exact un.keep b o e q (fun z => by cases z) (fun z => by cases z)
        | some u =>
          rcases only b with z | ⟨ob, xs, z⟩
          · rw [q] at z; cases z
          · have l1 := (ok b _ z).1
            have l2 := (ok' b _ (un.frzs b ob _ z)).1
            exact (Option.some.inj (l1.symm.trans e)) ▸ l2
  cases hk : K.lookup a with
  | some o =>
    obtain rfl := Option.some.inj (ha.symm.trans (kx a o hk))
    exact main (fun _ => none) (fun _ => .inl rfl) (.inr ⟨_, vs.toArray, _, hk, rfl, rfl, rfl, by rw [List.size_toArray, hi.length]; exact hl, by simpa using vv⟩) (fun b u z => by cases z) (fun b z => (z rfl).elim) fun z => (z rfl).elim
  | none =>
    refine main (upd (fun _ => none) a (.frz { cls := .type "list", data := .seq vs.toArray } (.lst (ns.map V.int)))) (fun b => ?_) (.inl (.inr ⟨_, upd_same⟩)) (fun b u z => ?_) (fun b z => ?_) fun _ => hk
    · by_cases e : b = a
      · subst e; exact .inr ⟨_, _, upd_same⟩
      · exact .inl (upd_ne e)
    · by_cases e : b = a
      · subst e
        rw [upd_same] at z; cases z
        exact ⟨ha, by rw [List.length_map]; exact hl, vs, _, vv, ha⟩
      · rw [upd_ne e] at z; cases z
    · by_cases e : b = a
      · exact e
      · exact absurd (upd_ne e) z
/-- the goal that k_head leaves -/
theorem walkG {l : PySem.W.OpenLaw} {n k : Nat} {q : Program} {loose : List Str} {XP : (Str → Option Value) → Heap → Prop} {YP : World → Heap → Prop} {d : DefRec} {K : Params → PySem.W.Frag} {x : Str} {st : Stmt} {W : Wp} (hn : l.most = some n) (hn2 : n ≤ sizeLine) (hdf : d.params.defaults = []) (hr : Room k callerA) (hdn : d.name = "law")
    (hY : ∀ (w : World) (h : Heap), YP w h → (K w.params).In h) (G : ∀ (w : World) (mg : Str → Option Value) (h : Heap), (K w.params).In h → h.Ns mainGlobals mg → ∀ base : Heap, (K w.params).In base → base.Ns mainGlobals mg → Fx l.prog w (K w.params) mg base k "law" st [x] W)
    (hW : ∀ ns : List Int, ns.length ≤ n → W [.s ns] [] fun r _ => r = T true) : PySem.W.WalkO q loose XP YP l.row.toRowW d [] (fun f vs => PySem.call f vs) := by
  refine Att.attach_call hn hdf fun w s₀ s1 mg mb fa o pm cd doc a vs ns g Y ho hd hcd hmg hobj hints hlen hg => ?_
  rw [hdn] at hmg
  exact enterG (hY w _ Y) g.T.g g.T.b g.T.builtins g.T.nolimit hg hobj hints (Nat.le_trans hlen hn2) hr hmg (G w mg _ (hY w _ Y) g.T.g) (hW ns hlen)
end Hq
/-! Expr3: equality, in, repr, isinstance, list(), methods of lists, zip, enumerate, all, a look at cells as data. -/
namespace Hq
open PySem PySem.Spec PyProof.Rows L2
/-! ### what data are as a whole -/
inductive IsD (M : Mem) : R → PyData → Prop
  | d (x : PyData) : IsD M (.d x) x
  | cl {p : Addr} {xs : List PyData} : (p, Cell.lst (xs.map R.d)) ∈ M → IsD M (.v (.ref p)) (.list xs)
theorem IsD.get {K : PySem.W.Frag} {M : Mem} {F H : Hp} {v : V} {r : R} {x : PyData} (h : IsD M r x) (m : Ms K M F H) (q : Rr K F v r) : Dq H v x := by
  cases h with
  | d => exact dq_up m.ex _ _ (rr_d.mp q)
  | cl h =>
    have q := rr_v.mp q
    subst q
    obtain ⟨xs, a, b⟩ := (m.mem _ _ h).2
    exact .lst a (dqs_up m.ex _ _ (rrs_dqs b))
theorem isD_T {α : Type} [TD α] {M : Mem} (x : α) : IsD M (T x) (td x) := .d _
/-- typed data whose == is equality -/
class TQ (α : Type) [TD α] [DecidableEq α] where
  dep : Nat
  lay : ∀ x : α, (td x).canLay0 = true
  dle : ∀ x : α, (td x).depth ≤ dep
  eqv : ∀ x y : α, PyData.eqv (td x) (td y) = decide (x = y)
instance : TQ Int := ⟨0, fun _ => rfl, fun _ => Nat.le_refl _, fun x y => by show (x == y) = _; exact Bool.beq_eq_decide_eq ..⟩
instance : TQ Bool := ⟨0, fun _ => rfl, fun _ => Nat.le_refl _, fun x y => by show (x == y) = _; exact Bool.beq_eq_decide_eq ..⟩
theorem lay_map {α : Type} [TD α] (h : ∀ x : α, (td x).canLay0 = true) : ∀ xs : List α, PyData.canLayAll0 (xs.map td) = true
  | [] => rfl
  | x :: xs => by
    show (PyData.canLay0 (td x) && PyData.canLayAll0 (xs.map td)) = true
    rw [h x, lay_map h xs]; rfl
theorem dep_map {α : Type} [TD α] {n : Nat} (h : ∀ x : α, (td x).depth ≤ n) : ∀ xs : List α, PyData.depthAll (xs.map td) ≤ n
  | [] => Nat.zero_le _
  | x :: xs => Nat.max_le.mpr ⟨h x, dep_map h xs⟩
theorem eqv_map {α : Type} [TD α] [DecidableEq α] (h : ∀ x y : α, PyData.eqv (td x) (td y) = decide (x = y)) : ∀ xs ys : List α, PyData.eqvAll (xs.map td) (ys.map td) = decide (xs = ys)
  | [], [] => rfl
  | [], _ :: _ => rfl
  | _ :: _, [] => rfl
  | x :: xs, y :: ys => by
    show (PyData.eqv (td x) (td y) && PyData.eqvAll (xs.map td) (ys.map td)) = _
    rw [h, eqv_map h xs ys]
    by_cases e : x = y <;> by_cases e2 : xs = ys <;> simp [e, e2]
instance {α : Type} [TD α] [DecidableEq α] [TQ α] : TQ (List α) := ⟨TQ.dep α + 1, fun xs => lay_map TQ.lay xs, fun xs => Nat.succ_le_succ (dep_map TQ.dle xs), fun xs ys => eqv_map TQ.eqv xs ys⟩
instance {α β : Type} [TD α] [DecidableEq α] [TQ α] [TD β] [DecidableEq β] [TQ β] : TQ (α × β) :=
  ⟨max (TQ.dep α) (TQ.dep β) + 1, fun p => by
    show (PyData.canLay0 (td p.1) && (PyData.canLay0 (td p.2) && true)) = true
    rw [TQ.lay, TQ.lay]; rfl, fun p => Nat.succ_le_succ (Nat.max_le.mpr ⟨Nat.le_trans (TQ.dle p.1) (Nat.le_max_left ..), Nat.max_le.mpr ⟨Nat.le_trans (TQ.dle p.2) (Nat.le_max_right ..), Nat.zero_le _⟩⟩), fun p q => by
    show (PyData.eqv (td p.1) (td q.1) && (PyData.eqv (td p.2) (td q.2) && true)) = _
    rw [TQ.eqv, TQ.eqv]
    obtain ⟨a, b⟩ := p
    obtain ⟨c, d⟩ := q
    by_cases e : a = c <;> by_cases e2 : b = d <;> simp [e, e2]⟩
theorem shaped_T {α : Type} [TD α] [DecidableEq α] [TQ α] (x : α) (h : TQ.dep α ≤ 64) : SeqAt.shaped (td x) = true := by
  unfold SeqAt.shaped
  rw [TQ.lay, Bool.true_and, decide_eq_true_eq]
  exact Nat.le_trans (TQ.dle x) h
section
variable {X : Cx} {e a b c : Expr} {es rest : List Expr} {ds : List R} {M M1 M2 M3 : Mem} {pos p : Pos} {Q : R → Mem → Prop} {QB : Bool → Mem → Prop} {r r1 r2 r3 : R} {rs : List R} {k : Nat}
theorem mo_eqD {K : PySem.W.Frag} : Mo2 (rEqD K) := fun x y H Q Q' m ⟨d, e, a, b, c, f, q⟩ => ⟨d, e, a, b, c, f, m _ _ q⟩
theorem mo_neD {K : PySem.W.Frag} : Mo2 (rNeD K) := fun x y H Q Q' m ⟨d, e, a, b, c, f, q⟩ => ⟨d, e, a, b, c, f, m _ _ q⟩
theorem ow_eq {x y : PyData} (h1 : IsD M r1 x) (h2 : IsD M r2 y) (s1 : SeqAt.shaped x = true) (s2 : SeqAt.shaped y = true) (q : Q (T (PyData.eqv x y)) M) : OpW X.K (rEqD X.K) r1 r2 M Q := fun F H u v m w1 w2 => ⟨x, y, dq_dp _ _ (h1.get m w1), dq_dp _ _ (h2.get m w2), s1, s2, Out.mk0 m rrB q⟩
theorem ow_ne {x y : PyData} (h1 : IsD M r1 x) (h2 : IsD M r2 y) (s1 : SeqAt.shaped x = true) (s2 : SeqAt.shaped y = true) (q : Q (T (!PyData.eqv x y)) M) : OpW X.K (rNeD X.K) r1 r2 M Q := fun F H u v m w1 w2 => ⟨x, y, dq_dp _ _ (h1.get m w1), dq_dp _ _ (h2.get m w2), s1, s2, Out.mk0 m rrB q⟩
variable {α : Type} [TD α] [DecidableEq α] [TQ α] {x y : α}
theorem dx_eq (hr : Room k X.A) (ha : DX X a ds M r1 M1) (hb : DX X b ds M1 r2 M2) (h1 : IsD M2 r1 (td x)) (h2 : IsD M2 r2 (td y)) (hd : TQ.dep α ≤ 64 := by decide) : DX X (.Compare a [.Eq] [b] pos) ds M (T (decide (x = y))) M2 :=
  dx_cmp (op_eqD hr.units) mo_eqD (nobehind _ (by decide) (by decide)) ha hb fun Q q => ow_eq h1 h2 (shaped_T x hd) (shaped_T y hd) (by rw [TQ.eqv]; exact q)
theorem dx_ne (hr : Room k X.A) (ha : DX X a ds M r1 M1) (hb : DX X b ds M1 r2 M2) (h1 : IsD M2 r1 (td x)) (h2 : IsD M2 r2 (td y)) (hd : TQ.dep α ≤ 64 := by decide) : DX X (.Compare a [.NotEq] [b] pos) ds M (T (!decide (x = y))) M2 :=
  dx_cmp (op_neD hr.units) mo_neD (nobehind _ (by decide) (by decide)) ha hb fun Q q => ow_ne h1 h2 (shaped_T x hd) (shaped_T y hd) (by rw [TQ.eqv]; exact q)
theorem dt_eq (hr : Room k X.A) (ha : DX X a ds M r1 M1) (hb : DX X b ds M1 r2 M2) (h1 : IsD M2 r1 (td x)) (h2 : IsD M2 r2 (td y)) (hd : TQ.dep α ≤ 64 := by decide) : DT X (.Compare a [.Eq] [b] pos) ds M (decide (x = y)) M2 :=
  dt_cmp (op_eqD hr.units) mo_eqD (nobehind _ (by decide) (by decide)) ha hb fun Q q => ow_eq h1 h2 (shaped_T x hd) (shaped_T y hd) (by rw [TQ.eqv]; exact q)
theorem dt_ne (hr : Room k X.A) (ha : DX X a ds M r1 M1) (hb : DX X b ds M1 r2 M2) (h1 : IsD M2 r1 (td x)) (h2 : IsD M2 r2 (td y)) (hd : TQ.dep α ≤ 64 := by decide) : DT X (.Compare a [.NotEq] [b] pos) ds M (!decide (x = y)) M2 :=
  dt_cmp (op_neD hr.units) mo_neD (nobehind _ (by decide) (by decide)) ha hb fun Q q => ow_ne h1 h2 (shaped_T x hd) (shaped_T y hd) (by rw [TQ.eqv]; exact q)
/-- data in general -/
theorem dx_eqv {u v : PyData} (hr : Room k X.A) (ha : DX X a ds M r1 M1) (hb : DX X b ds M1 r2 M2) (h1 : IsD M2 r1 u) (h2 : IsD M2 r2 v) (s1 : SeqAt.shaped u = true) (s2 : SeqAt.shaped v = true) : DX X (.Compare a [.Eq] [b] pos) ds M (T (PyData.eqv u v)) M2 :=
  dx_cmp (op_eqD hr.units) mo_eqD (nobehind _ (by decide) (by decide)) ha hb fun Q q => ow_eq h1 h2 s1 s2 q
theorem dt_neqv {u v : PyData} (hr : Room k X.A) (ha : DX X a ds M r1 M1) (hb : DX X b ds M1 r2 M2) (h1 : IsD M2 r1 u) (h2 : IsD M2 r2 v) (s1 : SeqAt.shaped u = true) (s2 : SeqAt.shaped v = true) : DT X (.Compare a [.NotEq] [b] pos) ds M (!PyData.eqv u v) M2 :=
  dt_cmp (op_neD hr.units) mo_neD (nobehind _ (by decide) (by decide)) ha hb fun Q q => ow_ne h1 h2 s1 s2 q
/-- texts -/
theorem mo_scE : Mo2 rEq := fun x y H Q Q' m ⟨a, q⟩ => ⟨a, m _ _ q⟩
theorem mo_scN : Mo2 rNe := fun x y H Q Q' m ⟨a, q⟩ => ⟨a, m _ _ q⟩
theorem ow_eqS {u v : Str} (q : Q (T (decide (u = v))) M) : OpW X.K rEq (T u) (T v) M Q := fun F H x y m w1 w2 => by
  rw [rr_str w1, rr_str w2]
  refine ⟨rfl, Out.mk0 m ?_ q⟩
  rw [show decide (V.str u = V.str v) = decide (u = v) by by_cases e : u = v <;> simp [e]]
  exact rrB
theorem ow_neS {u v : Str} (q : Q (T (!decide (u = v))) M) : OpW X.K rNe (T u) (T v) M Q := fun F H x y m w1 w2 => by
  rw [rr_str w1, rr_str w2]
  refine ⟨rfl, Out.mk0 m ?_ q⟩
  rw [show decide (V.str u = V.str v) = decide (u = v) by by_cases e : u = v <;> simp [e]]
  exact rrB
theorem dx_eqS {u v : Str} (ha : DX X a ds M (T u) M1) (hb : DX X b ds M1 (T v) M2) : DX X (.Compare a [.Eq] [b] pos) ds M (T (decide (u = v))) M2 := dx_cmp op_eq mo_scE (nobehind _ (by decide) (by decide)) ha hb fun Q q => ow_eqS q
theorem dt_eqS {u v : Str} (ha : DX X a ds M (T u) M1) (hb : DX X b ds M1 (T v) M2) : DT X (.Compare a [.Eq] [b] pos) ds M (decide (u = v)) M2 := dt_cmp op_eq mo_scE (nobehind _ (by decide) (by decide)) ha hb fun Q q => ow_eqS q
theorem dx_neS {u v : Str} (ha : DX X a ds M (T u) M1) (hb : DX X b ds M1 (T v) M2) : DX X (.Compare a [.NotEq] [b] pos) ds M (T (!decide (u = v))) M2 := dx_cmp op_ne mo_scN (nobehind _ (by decide) (by decide)) ha hb fun Q q => ow_neS q
theorem dt_neS {u v : Str} (ha : DX X a ds M (T u) M1) (hb : DX X b ds M1 (T v) M2) : DT X (.Compare a [.NotEq] [b] pos) ds M (!decide (u = v)) M2 := dt_cmp op_ne mo_scN (nobehind _ (by decide) (by decide)) ha hb fun Q q => ow_neS q
/-! ### x in a list of ints, of texts -/
theorem inV_ints (i : Int) (ns : List Int) : inV (.int i) (ns.map V.int) = decide (i ∈ ns) := by
  unfold inV
  induction ns with
  | nil => rfl
  | cons n ns ih =>
    rw [List.map_cons, List.any_cons, ih]
    show ((n == i) || _) = _
    by_cases e : i = n
    · subst e; simp
    · simp [e, Ne.symm e]
theorem inV_strs (i : Str) (ns : List Str) : inV (.str i) (ns.map V.str) = decide (i ∈ ns) := by
  unfold inV
  induction ns with
  | nil => rfl
  | cons n ns ih =>
    rw [List.map_cons, List.any_cons, ih]
    show ((n == i) || _) = _
    by_cases e : i = n
    · subst e; simp
    · simp [e, Ne.symm e]
theorem all_flat {β : Type} (f : β → V) (h : ∀ b, flatV (f b) = true) (ns : List β) : (ns.map f).all flatV = true := by
  rw [List.all_eq_true]
  intro v hv
  obtain ⟨b, _, rfl⟩ := List.mem_map.mp hv
  exact h b
theorem mo_in {K : PySem.W.Frag} {neg : Bool} : Mo2 (rIn K neg) := fun x y H Q Q' m ⟨p, xs, a, b, c, d, q⟩ => ⟨p, xs, a, b, c, d, m _ _ q⟩
theorem ow_inI {i : Int} {ns : List Int} {neg : Bool} (hl : IsL M r2 (ns.map T) ∨ IsT M r2 (ns.map T)) (q : Q (T (if neg = true then !decide (i ∈ ns) else decide (i ∈ ns))) M) : OpW X.K (rIn X.K neg) (T i) r2 M Q := fun F H u v m w1 w2 => by
  rw [rr_int w1]
  rcases hl with hl | hl
  · obtain ⟨p, xs, rfl, a, b⟩ := hl.get m w2
    obtain rfl := rrs_ints b
    exact ⟨p, _, rfl, .inl a, rfl, all_flat _ (fun _ => rfl) _, Out.mk0 m (by rw [inV_ints]; exact rrB) q⟩
  · obtain ⟨p, xs, rfl, a, b⟩ := hl.get m w2
    obtain rfl := rrs_ints b
    exact ⟨p, _, rfl, .inr (SqT.of a), rfl, all_flat _ (fun _ => rfl) _, Out.mk0 m (by rw [inV_ints]; exact rrB) q⟩
theorem dx_inI {i : Int} {ns : List Int} (ha : DX X a ds M (T i) M1) (hb : DX X b ds M1 r2 M2) (hl : IsL M2 r2 (ns.map T)) (hm : behindInMarks .In b = false := by rfl) : DX X (.Compare a [.In] [b] pos) ds M (T (decide (i ∈ ns))) M2 := dx_cmp op_in_seq mo_in hm ha hb fun Q q => ow_inI (.inl hl) q
theorem dx_niI {i : Int} {ns : List Int} (ha : DX X a ds M (T i) M1) (hb : DX X b ds M1 r2 M2) (hl : IsL M2 r2 (ns.map T)) (hm : behindInMarks .NotIn b = false := by rfl) : DX X (.Compare a [.NotIn] [b] pos) ds M (T (!decide (i ∈ ns))) M2 := dx_cmp op_notIn_seq mo_in hm ha hb fun Q q => ow_inI (.inl hl) q
theorem dt_inI {i : Int} {ns : List Int} (ha : DX X a ds M (T i) M1) (hb : DX X b ds M1 r2 M2) (hl : IsL M2 r2 (ns.map T)) (hm : behindInMarks .In b = false := by rfl) : DT X (.Compare a [.In] [b] pos) ds M (decide (i ∈ ns)) M2 := dt_cmp op_in_seq mo_in hm ha hb fun Q q => ow_inI (.inl hl) q
theorem dt_niI {i : Int} {ns : List Int} (ha : DX X a ds M (T i) M1) (hb : DX X b ds M1 r2 M2) (hl : IsL M2 r2 (ns.map T)) (hm : behindInMarks .NotIn b = false := by rfl) : DT X (.Compare a [.NotIn] [b] pos) ds M (!decide (i ∈ ns)) M2 := dt_cmp op_notIn_seq mo_in hm ha hb fun Q q => ow_inI (.inl hl) q
theorem ow_inS {i : Str} {ns : List Str} {neg : Bool} (hl : IsL M r2 (ns.map T) ∨ IsT M r2 (ns.map T)) (q : Q (T (if neg = true then !decide (i ∈ ns) else decide (i ∈ ns))) M) : OpW X.K (rIn X.K neg) (T i) r2 M Q := fun F H u v m w1 w2 => by
  rw [rr_str w1]
  rcases hl with hl | hl
  · obtain ⟨p, xs, rfl, a, b⟩ := hl.get m w2
    obtain rfl := rrs_strs b
    exact ⟨p, _, rfl, .inl a, rfl, all_flat _ (fun _ => rfl) _, Out.mk0 m (by rw [inV_strs]; exact rrB) q⟩
  · obtain ⟨p, xs, rfl, a, b⟩ := hl.get m w2
    obtain rfl := rrs_strs b
    exact ⟨p, _, rfl, .inr (SqT.of a), rfl, all_flat _ (fun _ => rfl) _, Out.mk0 m (by rw [inV_strs]; exact rrB) q⟩
/-! ### repr -/
def rRepr (K : PySem.W.Frag) : List V → Hp → VK → Prop := fun xs H Q => ∃ (p : Addr) (d : PyData), xs = [.ref p] ∧ Dp K H (.ref p) d ∧ d.showable = true ∧ d.hasDict = false ∧ d.depth ≤ 100 ∧ d.shown.length ≤ sizeLine ∧ Q (.str d.shown) H
theorem call_reprD {k : Nat} (hg : X.A.guards = some []) (hr : Room k X.A) : CallR X (.builtin "repr") (rRepr X.K) := by
  intro pins s σ H xs us Q I rv h
  obtain ⟨p, d, e, hd, h1, h2, h3, h4, q⟩ := h
  subst e
  obtain ⟨u, e, ru⟩ := vals1 rv
  subst e
  obtain ⟨as, rd⟩ := Dp.reads I d _ u hd ru
  obtain rfl : u = Value.ref p := ru
  refine PySem.repr_of_reads' rd h1 (PySem.PyData.noDict_hsm h2) hg (by have := hr.un; omega) (fun b o e => e) (fun h' u tk hk => ?_) h4
  exact ⟨.str d.shown, H, I.kept hk, ⟨u, rfl⟩, q⟩
theorem ex_repr (hg : X.A.guards = some []) (hr : Room k X.A) (hm : X.mg "repr" = none) (h : EX X e ds M fun r M1 => ∃ xs : List PyData, IsD M1 r (.list xs) ∧ PyData.showable (.list xs) = true ∧ PyData.hasDict (.list xs) = false ∧ PyData.depth (.list xs) ≤ 100 ∧ (PyData.shown (.list xs)).length ≤ sizeLine ∧ Q (T (PyData.shown (.list xs))) M1) (gl : Gl X "repr" := by rfl) (he : starEach [e] X.env = (false, eval e X.env) :: starEach [] X.env := by exact st_any rfl) : EX X (.Call (.Name "repr" p) [e] [] pos) ds M Q :=
  ex_callB (call_reprD hg hr) (fun x H Q Q' m ⟨p, d, a, b, c, e, f, g, q⟩ => ⟨p, d, a, b, c, e, f, g, m _ _ q⟩) hm (by decide +kernel) (ax_cons (h.mono fun r M1 ⟨xs, h1, h2, h3, h4, h5, q⟩ => ax_nil fun F H vs m w => by
    obtain ⟨v, ev, w1⟩ := rrs1 w
    subst ev
    have dq := h1.get m w1
    have dp : Dp X.K H v (.list xs) := dq_dp _ _ dq
    cases dq with
    | lst a b => exact ⟨_, _, rfl, dp, h2, h3, h4, h5, Out.mk0 m rrS q⟩) he) gl (he := he)
/-! ### isinstance -/
def tyN : PyData → String
  | .none => "NoneType"
  | .bool _ => "bool"
  | .int _ => "int"
  | .str _ => "str"
  | .list _ => "list"
  | .tuple _ => "tuple"
  | .dict _ => "dict"
theorem tyx_d {K : PySem.W.Frag} {H : Hp} {v : V} {d : PyData} (h : Dq H v d) : TyX K H v (.type (tyN d)) := by
  cases h with
  | non => exact .base .non
  | bl b => exact .base (.bl b)
  | int i => exact .base (.int i)
  | str x => exact .base (.str x)
  | lst a b => exact .base (.lst a)
  | tup a b => exact .base (.tup a)
def isK (c : String) (d : PyData) : Bool := (kitB (tyN d) c).getD false
def kitsAll (c : String) : Bool := ["NoneType", "bool", "int", "str", "list", "tuple"].all fun n => (kitB n c).isSome
theorem kit_d {K : PySem.W.Frag} {H : Hp} {c : String} (hc : kitsAll c = true) {v : V} {d : PyData} (h : Dq H v d) : PySem.W.kitOne K (.type (tyN d)) (.type c) = some (isK c d) := by
  refine kit_ty ?_
  have hs : (kitB (tyN d) c).isSome = true := by
    unfold kitsAll at hc
    rw [List.all_eq_true] at hc
    refine hc (tyN d) ?_
    cases h <;> simp [tyN]
  unfold isK
  obtain ⟨b, e⟩ := Option.isSome_iff_exists.mp hs
  rw [e]; rfl
theorem ex_isi {c : Str} {cn : String} {p2 : Pos} (hk : kitsAll cn = true) (hv : bootBuiltins c = some (.type cn)) (hm : X.mg "isinstance" = none) (hm2 : X.mg c = none) (h : EX X e ds M fun r M1 => ∃ d, IsD M1 r d ∧ Q (T (isK cn d)) M1) (gl : Gl X "isinstance" := by rfl) (gl2 : Gl X c := by rfl)
    (he : starEach [e, .Name c p2] X.env = (false, eval e X.env) :: starEach [.Name c p2] X.env := by exact st_any rfl) (he2 : starEach [.Name c p2] X.env = (false, eval (.Name c p2) X.env) :: starEach [] X.env := by exact st_any rfl) (hpl : (backTo pos (starEach [.Name c p2] X.env)).any (·.1) = false := by rfl) (hn : c ≠ "__name__" := by decide) (hd : (c == ("__debug__" : Str)) = false := by decide) : EX X (.Call (.Name "isinstance" p) [e, .Name c p2] [] pos) ds M Q :=
  ex_pe (pe_callB call_isi gl hm (by decide +kernel) (pa_cons (peC e) (pa_cons (pe_bltn gl2 hm2 hv (v := .ty cn) rfl hn hd) pa_nil he2) he) (he := he) (hpl := hpl)) fun σ F H s =>
    cE_mono (h σ F H s) fun v H1 ⟨F1, M1, r, w, ⟨d, hD, q⟩, m, g⟩ => ⟨v, .ty cn, _, _, _, rfl, .ty cn, tyx_d (hD.get m w), kit_d hk (hD.get m w), F1, M1, _, rrB, q, m, g⟩
/-- isinstance(x, (list, tuple)) -/
def isSeq : PyData → Bool
  | .list _ => true
  | .tuple _ => true
  | _ => false
theorem ex_isLT {p1 p2 pt : Pos} {kk} (hm : X.mg "isinstance" = none) (hm1 : X.mg "list" = none) (hm2 : X.mg "tuple" = none) (h : EX X e ds M fun r M1 => ∃ d, IsD M1 r d ∧ Q (T (isSeq d)) M1) (gl : Gl X "isinstance" := by rfl) (gl1 : Gl X "list" := by rfl) (gl2 : Gl X "tuple" := by rfl)
    (he : starEach [e, .Tuple [.Name "list" p1, .Name "tuple" p2] kk pt] X.env = (false, eval e X.env) :: starEach [.Tuple [.Name "list" p1, .Name "tuple" p2] kk pt] X.env := by exact st_any rfl) (he2 : starEach [.Tuple [.Name "list" p1, .Name "tuple" p2] kk pt] X.env = (false, eval (.Tuple [.Name "list" p1, .Name "tuple" p2] kk pt) X.env) :: starEach [] X.env := by exact st_any rfl)
    (he3 : starEach [.Name "list" p1, .Name "tuple" p2] X.env = (false, eval (.Name "list" p1) X.env) :: starEach [.Name "tuple" p2] X.env := by exact st_any rfl) (he4 : starEach [.Name "tuple" p2] X.env = (false, eval (.Name "tuple" p2) X.env) :: starEach [] X.env := by exact st_any rfl)
    (hpl : (backTo pos (starEach [.Tuple [.Name "list" p1, .Name "tuple" p2] kk pt] X.env)).any (·.1) = false := by rfl) : EX X (.Call (.Name "isinstance" p) [e, .Tuple [.Name "list" p1, .Name "tuple" p2] kk pt] [] pos) ds M Q :=
  ex_pe (pe_callB call_isiT gl hm (by decide +kernel) (pa_cons (peC e) (pa_cons (pe_tup (pa_cons (pe_bltn gl1 hm1 (by decide +kernel) (v := .ty "list") rfl) (pa_cons (pe_bltn gl2 hm2 (by decide +kernel) (v := .ty "tuple") rfl) pa_nil he4) he3)) pa_nil he2) he) (he := he) (hpl := hpl)) fun σ F H s =>
    cE_mono (h σ F H s) fun v H1 ⟨F1, M1, r, w, ⟨d, hD, q⟩, m, g⟩ => ⟨small64 (show 2 < 64 by decide), fun tp np => by
      have k := m.newF (o := .tup [.ty "list", .ty "tuple"]) np
      have hD2 := dq_up (fun b o e => by rw [upd_ne (ne_of_none e np)]; exact e : Same H1 (upd H1 tp (.tup [.ty "list", .ty "tuple"]))) d v (hD.get m w)
      refine ⟨v, tp, [.ty "list", .ty "tuple"], .type (tyN d), [.type "list", .type "tuple"], isSeq d, rfl, upd_same, .cons (.ty _) (.cons (.ty _) .nil), tyx_d hD2, ?_, Out.trans g (Out.mk k rrB q)⟩
      have h2 : ∀ n : String, kitB n "list" = some false → kitB n "tuple" = some false → PySem.W.kitAny X.K (.type n) [.type "list", .type "tuple"] = some false := fun n a b => kitAny_cons (b := false) (kit_ty a) (fun _ => kitAny_cons (b := false) (kit_ty b) (fun _ => rfl) nofun) nofun
      cases hD2 with
      | non => exact h2 "NoneType" (by decide +kernel) (by decide +kernel)
      | bl b => exact h2 "bool" (by decide +kernel) (by decide +kernel)
      | int i => exact h2 "int" (by decide +kernel) (by decide +kernel)
      | str x => exact h2 "str" (by decide +kernel) (by decide +kernel)
      | lst a b => exact kitAny_cons (b := true) (kit_ty (show kitB "list" "list" = some true by decide +kernel)) nofun fun _ => rfl
      | tup a b => exact kitAny_cons (b := false) (kit_ty (show kitB "tuple" "list" = some false by decide +kernel)) (fun _ => kitAny_cons (b := true) (kit_ty (show kitB "tuple" "tuple" = some true by decide +kernel)) nofun fun _ => rfl) nofun⟩
/-! ### list(x), all, methods -/
theorem ex_list (hm : X.mg "list" = none) (h : EX X e ds M fun r M1 => ∃ rs, IsL M1 r rs ∧ ((∃ ys : List PyData, rs = ys.map R.d ∧ Q (.d (.list ys)) M1) ∨ ∃ A B, M1 = A ++ B ∧ ∀ q, Q (.v (.ref q)) (A ++ (q, .lst rs) :: B))) (gl : Gl X "list" := by rfl) (he : starEach [e] X.env = (false, eval e X.env) :: starEach [] X.env := by exact st_any rfl) : EX X (.Call (.Name "list" p) [e] [] pos) ds M Q :=
  ex_callTy call_list_of (fun x H Q Q' m ⟨p, ys, a, b, q⟩ => ⟨p, ys, a, b, fun l nl => m _ _ (q l nl)⟩) hm (by decide +kernel) (ax_cons (h.mono fun r M1 ⟨rs, h1, q⟩ => ax_nil fun F H vs m w => by
    obtain ⟨v, ev, w1⟩ := rrs1 w
    subst ev
    obtain ⟨p, xs, rfl, a, b⟩ := h1.get m w1
    refine ⟨p, xs, rfl, .inl a, fun l nl => ?_⟩
    rcases q with ⟨ys, e, q⟩ | ⟨A, B, e, q⟩
    · subst e; exact newL m b nl q
    · subst e; exact newLc m b nl (q l)) he) gl (he := he)
theorem dx_listT {β : Type} [TD β] {xs : List β} (hm : X.mg "list" = none) (h : DX X e ds M (T xs) M1) (gl : Gl X "list" := by rfl) (he : starEach [e] X.env = (false, eval e X.env) :: starEach [] X.env := by exact st_any rfl) : DX X (.Call (.Name "list" p) [e] [] pos) ds M (T xs) M1 := fun Q q => ex_list hm (h _ ⟨_, isL_T xs, .inl ⟨xs.map td, by rw [T_map], q⟩⟩) gl he
theorem ex_all (hc : CallR X (.builtin "all") (rAll X.K)) (hm : X.mg "all" = none) (h : EX X e ds M fun r M1 => ∃ bs : List Bool, IsL M1 r (bs.map T) ∧ Q (T (bs.all id)) M1) (gl : Gl X "all" := by rfl) (he : starEach [e] X.env = (false, eval e X.env) :: starEach [] X.env := by exact st_any rfl) : EX X (.Call (.Name "all" p) [e] [] pos) ds M Q :=
  ex_callB hc (fun x H Q Q' m ⟨p, ys, a, b, q⟩ => ⟨p, ys, a, b, m _ _ q⟩) hm (by decide +kernel) (ax_cons (h.mono fun r M1 ⟨bs, h1, q⟩ => ax_nil fun F H vs m w => by
    obtain ⟨v, ev, w1⟩ := rrs1 w
    subst ev
    obtain ⟨p, xs, rfl, a, b⟩ := h1.get m w1
    obtain rfl := rrs_bls b
    exact ⟨p, bs, rfl, a, Out.mk0 m rrB q⟩) he) gl (he := he)
/-- x.append(e), x a cell -/
theorem ex_append {o : Expr} {apos : Pos} (h : EX X o ds M fun r1 M1 => ∃ q, r1 = .v (.ref q) ∧ (∃ ys, (q, Cell.lst ys) ∈ M1) ∧ EX X e ds M1 fun y M2 => ∃ U W xs, M2 = U ++ (q, .lst xs) :: W ∧ xs.length < sizeLine ∧ Q (.d .none) (U ++ (q, .lst (xs ++ [y])) :: W))
    (hb : ∀ {to : TE} {t : TA} {r}, MtR X "list.append" r → PE X o to → PA X [e] t → PE X (.Call (.Attribute o "append" apos) [e] [] pos) (tBM X.K "list" r to t) := by intro _ _ _ h1 h2 h3; exact pe_bm PySem.F.plainAttrs_list PySem.F.slot_list_append PySem.F.type_list_append h1 h2 h3)
    (he : starEach [e] X.env = (false, eval e X.env) :: starEach [] X.env := by exact st_any rfl) : EX X (.Call (.Attribute o "append" apos) [e] [] pos) ds M Q :=
  ex_pe (hb mt_append (peC o) (pa_cons (peC e) pa_nil he)) fun σ F H s => cE_mono (h σ F H s) fun x H1 ⟨F1, M1, r1, w1, ⟨q, e1, ⟨ys, hy⟩, h1⟩, m1, g1⟩ => by
    subst e1
    obtain rfl := rr_v.mp w1
    obtain ⟨zs, z1, z2⟩ := (m1.mem _ _ hy).2
    refine ⟨.inl ⟨rfl, _, SqL.of z1⟩, cE_mono (h1 σ F1 H1 (s.go g1 m1)) fun yv H2 ⟨F2, M2, y, w2, ⟨U, W, xs, e2, l, qq⟩, m2, g2⟩ => ?_⟩
    subst e2
    obtain ⟨zs, z1, z2⟩ := (m2.mem q _ (List.mem_append_right U List.mem_cons_self)).2
    have kk := m2.write (c' := .lst (xs ++ [y])) (o := .lst (zs ++ [yv])) ⟨_, upd_same, rrs_app z2 (.cons w2 .nil)⟩
    exact ⟨q, zs, yv, rfl, rfl, z1, by rw [z2.length]; exact l, F2, _, _, rrN, qq, kk.1, (g1.trans g2).trans kk.2⟩
/-- x.pop(e), x a cell -/
theorem ex_popAt {o : Expr} {apos : Pos} (h : EX X o ds M fun r1 M1 => ∃ q, r1 = .v (.ref q) ∧ (∃ ys, (q, Cell.lst ys) ∈ M1) ∧ EX X e ds M1 fun r2 M2 => ∃ (U W : Mem) (xs : List R) (i : Int) (j : Nat) (y : R), r2 = T i ∧ M2 = U ++ (q, .lst xs) :: W ∧ ixN xs.length i = some j ∧ xs.length ≤ sizeLine ∧ xs[j]? = some y ∧ Q y (U ++ (q, .lst (xs.eraseIdx j)) :: W))
    (hb : ∀ {to : TE} {t : TA} {r}, MtR X "list.pop" r → PE X o to → PA X [e] t → PE X (.Call (.Attribute o "pop" apos) [e] [] pos) (tBM X.K "list" r to t) := by intro _ _ _ h1 h2 h3; exact pe_bm PySem.F.plainAttrs_list PySem.F.slot_list_pop PySem.F.type_list_pop h1 h2 h3)
    (he : starEach [e] X.env = (false, eval e X.env) :: starEach [] X.env := by exact st_any rfl) : EX X (.Call (.Attribute o "pop" apos) [e] [] pos) ds M Q :=
  ex_pe (hb mt_popAt (peC o) (pa_cons (peC e) pa_nil he)) fun σ F H s => cE_mono (h σ F H s) fun x H1 ⟨F1, M1, r1, w1, ⟨q, e1, ⟨ys, hy⟩, h1⟩, m1, g1⟩ => by
    subst e1
    obtain rfl := rr_v.mp w1
    obtain ⟨zs, z1, z2⟩ := (m1.mem _ _ hy).2
    refine ⟨.inl ⟨rfl, _, SqL.of z1⟩, cE_mono (h1 σ F1 H1 (s.go g1 m1)) fun yv H2 ⟨F2, M2, r2, w2, ⟨U, W, xs, i, j, y, e3, e2, hi, hlen, hy, qq⟩, m2, g2⟩ => ?_⟩
    subst e2 e3
    obtain ⟨zs, z1, z2⟩ := (m2.mem q _ (List.mem_append_right U List.mem_cons_self)).2
    obtain ⟨yy, a1, a2⟩ := rrs_get z2 hy
    have kk := m2.write (c' := .lst (xs.eraseIdx j)) (o := .lst (zs.eraseIdx j)) ⟨_, upd_same, rrs_erase j z2⟩
    obtain ⟨b1, b2, b3, b4⟩ := ixN_seq hi
    have hz : (sizeLine : Nat) < 2 ^ 63 := by decide
    exact ⟨q, zs, i, j, yy, rfl, by rw [rr_int w2], z1, by omega, by omega, by rw [z2.length]; exact b1, a1, F2, _, _, a2, qq, kk.1, (g1.trans g2).trans kk.2⟩
where rrs_erase {K : PySem.W.Frag} {F : Hp} : ∀ {vs : List V} {rs : List R} (j : Nat), Rrs K F vs rs → Rrs K F (vs.eraseIdx j) (rs.eraseIdx j)
  | _, _, 0, .nil => .nil
  | _, _, 0, .cons _ t => t
  | _, _, _ + 1, .nil => .nil
  | _, _, j + 1, .cons a t => .cons a (rrs_erase j t)
/-! ### zip, enumerate -/
theorem ix_enum {elts : List Expr} {kk : Nat} {tpos : Pos} {QI : List R → (Mem → Prop) → Mem → Prop} (hm : X.mg "enumerate" = none) (h : EX X e ds M fun r M1 => ∃ rs, IsF r rs ∧ QI ((List.range rs.length).map fun (i : Nat) => .t [T (i : Int), rs.getD i .no]) (fun _ => True) M1) (gl : Gl X "enumerate" := by rfl)
    (he : starEach [e] X.env = [(false, eval e X.env)] := by exact st_any rfl) : IX X (.Tuple elts kk tpos) (.Call (.Name "enumerate" p) [e] [] pos) ds M QI := ix_pi (pi_enum gl hm (pa_cons (peC e) pa_nil he) he) fun σ F H s =>
  cE_mono (h σ F H s) fun v H' ⟨F', M', r, w, ⟨rs, hf, q⟩, m, g⟩ => by
    obtain ⟨q0, xs, rfl, a, b⟩ := hf.get w
    refine ⟨q0, xs, rfl, m.ex.seq a, F', M', _, _, ⟨fun M F H e _ mm => ?_, fun i r M F H hi e _ mm => ?_⟩, q, trivial, m, g⟩
    · exact ⟨xs, mm.ex.seq (e.seq a), by rw [b.length]; simp⟩
    · rw [List.getElem?_map] at hi
      by_cases hl : i < rs.length
      · rw [List.getElem?_range hl] at hi
        obtain rfl := Option.some.inj hi
        obtain ⟨y, c1, c2⟩ := rrs_get b (show rs[i]? = some rs[i] by simp [hl])
        refine ⟨⟨xs, y, mm.ex.seq (e.seq a), c1⟩, fun x H' ⟨t, z, e1, nt, e2, hz⟩ => ?_⟩
        subst e1 e2
        obtain rfl : z = y := Option.some.inj ((hz xs (mm.ex.seq (e.seq a))).symm.trans c1)
        have k := mm.newF (o := .tup [.int (i : Nat), z]) nt
        refine ⟨_, rr_t.mpr ⟨t, _, rfl, upd_same, .cons rrI (.cons ?_ .nil)⟩, k.1, k.2⟩
        have e3 : rs.getD i R.no = rs[i] := by rw [List.getD_eq_getElem?_getD, show rs[i]? = some rs[i] by simp [hl]]; rfl
        show Rr X.K _ z (rs.getD i .no)
        rw [e3]
        exact c2.up (e.trans k.2.ex)
      · rw [List.getElem?_eq_none (by simpa using hl)] at hi; cases hi
theorem walk_zip {K : PySem.W.Frag} {F0 : Hp} {xs ys : List V} {rs qs : List R} {J : It} (hl : rs.length = qs.length) (b1 : Rrs K F0 xs rs) (b2 : Rrs K F0 ys qs)
    (go : ∀ i H x y, (∃ F, Same F0 F ∧ Same F H) → xs[i]? = some x → ys[i]? = some y → J.go i H ∧ ∀ v H', J.yld i H v H' → ∃ t, v = .ref t ∧ H t = none ∧ H' = upd H t (.tup [x, y])) (stop : ∀ H, (∃ F, Same F0 F ∧ Same F H) → J.stop rs.length H) : Walk K J ((List.range rs.length).map fun i => .t [rs.getD i .no, qs.getD i .no]) F0 fun _ => True := by
  refine ⟨fun M F H e _ m => by rw [List.length_map, List.length_range]; exact stop H ⟨F, e, m.ex⟩, fun i r M F H hi e _ mm => ?_⟩
  rw [List.getElem?_map] at hi
  by_cases hlt : i < rs.length
  · rw [List.getElem?_range hlt] at hi
    obtain rfl := Option.some.inj hi
    have hlt2 : i < qs.length := by omega
    obtain ⟨x, c1, c2⟩ := rrs_get b1 (show rs[i]? = some rs[i] by simp [hlt])
    obtain ⟨y, c3, c4⟩ := rrs_get b2 (show qs[i]? = some qs[i] by simp [hlt2])
    obtain ⟨g1, g2⟩ := go i H x y ⟨F, e, mm.ex⟩ c1 c3
    refine ⟨g1, fun v H' yl => ?_⟩
    obtain ⟨t, e1, nt, e2⟩ := g2 v H' yl
    subst e1 e2
    have k := mm.newF (o := .tup [x, y]) nt
    have e3 : rs.getD i R.no = rs[i] := by rw [List.getD_eq_getElem?_getD, show rs[i]? = some rs[i] by simp [hlt]]; rfl
    have e4 : qs.getD i R.no = qs[i] := by rw [List.getD_eq_getElem?_getD, show qs[i]? = some qs[i] by simp [hlt2]]; rfl
    refine ⟨_, rr_t.mpr ⟨t, _, rfl, upd_same, .cons ?_ (.cons ?_ .nil)⟩, k.1, k.2⟩
    · rw [e3]; exact c2.up (e.trans k.2.ex)
    · rw [e4]; exact c4.up (e.trans k.2.ex)
  · rw [List.getElem?_eq_none (by simpa using hlt)] at hi; cases hi
/-- both lists, or both tuples, of one length -/
theorem ix_zip {elts : List Expr} {kk : Nat} {tpos : Pos} {QI : List R → (Mem → Prop) → Mem → Prop} (hm : X.mg "zip" = none) (h : EX X a ds M fun r1 M1 => EX X b ds M1 fun r2 M2 => ∃ rs qs, ((IsF r1 rs ∧ IsF r2 qs) ∨ ((∀ M, IsT M r1 rs) ∧ ∀ M, IsT M r2 qs)) ∧ rs.length = qs.length ∧ QI ((List.range rs.length).map fun i => .t [rs.getD i .no, qs.getD i .no]) (fun _ => True) M2) (gl : Gl X "zip" := by rfl)
    (hp : ∀ {ta : TA}, X.mg "zip" = none → PA X [a, b] ta → PI X (.Tuple elts kk tpos) (.Call (.Name "zip" p) [a, b] [] pos) (RZ.iZipA X.K ta) := by intro _ hm h; exact RZ.pi_zipA rfl hm h)
    (he : starEach [a, b] X.env = (false, eval a X.env) :: starEach [b] X.env := by exact st_any rfl) (he2 : starEach [b] X.env = (false, eval b X.env) :: starEach [] X.env := by exact st_any rfl) : IX X (.Tuple elts kk tpos) (.Call (.Name "zip" p) [a, b] [] pos) ds M QI := ix_pi (hp hm (pa_cons (peC a) (pa_cons (peC b) pa_nil he2) he)) fun σ F H s =>
  cE_mono (h σ F H s) fun v H1 ⟨F1, M1, r1, w1, h1, m1, g1⟩ => cE_mono (h1 σ F1 H1 (s.go g1 m1)) fun u H2 ⟨F2, M2, r2, w2, ⟨rs, qs, hf, hl, q⟩, m2, g2⟩ => by
    have w1 := w1.up g2.ex
    rcases hf with ⟨f1, f2⟩ | ⟨f1, f2⟩
    · obtain ⟨q1, xs, rfl, a1, b1⟩ := f1.get w1
      obtain ⟨q2, ys, rfl, a2, b2⟩ := f2.get w2
      refine ⟨q1, q2, xs, ys, rfl, .inl ⟨m2.ex.seq a1, m2.ex.seq a2, F2, M2, _, _, walk_zip hl b1 b2 (fun i H x y ⟨F, e1, e2⟩ c1 c2 => ?_) (fun H ⟨F, e1, e2⟩ => ?_), q, trivial, m2, g1.trans g2⟩⟩
      · have s1 := (e1.trans e2).seq a1
        have s2 := (e1.trans e2).seq a2
        exact ⟨⟨xs, ys, x, y, s1, s2, c1, c2⟩, fun v H' ⟨t, x', y', e1, nt, e2, z1, z2⟩ => ⟨t, e1, nt, by rw [e2, Option.some.inj ((z1 xs s1).symm.trans c1), Option.some.inj ((z2 ys s2).symm.trans c2)]⟩⟩
      · exact ⟨xs, ys, (e1.trans e2).seq a1, (e1.trans e2).seq a2, .inl (by rw [b1.length]; exact Nat.le_refl _)⟩
    · have fz : ∀ {r : R} {rs : List R} {v : V}, (∀ M, IsT M r rs) → Rr X.K F2 v r → ∃ p xs, v = .ref p ∧ SqT X.K F2 p xs ∧ Rrs X.K F2 xs rs := fun {r rs v} h w => by
        cases h [] with
        | fz xs => have w := rr_d.mp w; cases w with | tup a b => exact ⟨_, _, rfl, SqT.of a, dqs_rrs b⟩
        | pt rs => obtain ⟨a, xs, b, c, d⟩ := rr_t.mp w; exact ⟨a, xs, b, SqT.of c, d⟩
      obtain ⟨q1, xs, rfl, a1, b1⟩ := fz f1 w1
      obtain ⟨q2, ys, rfl, a2, b2⟩ := fz f2 w2
      refine ⟨q1, q2, xs, ys, rfl, .inr ⟨sameT m2.ex a1, sameT m2.ex a2, F2, M2, _, _, walk_zip hl b1 b2 (fun i H x y ⟨F, e1, e2⟩ c1 c2 => ?_) (fun H ⟨F, e1, e2⟩ => ?_), q, trivial, m2, g1.trans g2⟩⟩
      · have s1 := sameT (e1.trans e2) a1
        have s2 := sameT (e1.trans e2) a2
        exact ⟨⟨xs, ys, x, y, s1, s2, c1, c2⟩, fun v H' ⟨t, x', y', e1, nt, e2, z1, z2⟩ => ⟨t, e1, nt, by rw [e2, Option.some.inj ((z1 xs s1).symm.trans c1), Option.some.inj ((z2 ys s2).symm.trans c2)]⟩⟩
      · exact ⟨xs, ys, sameT (e1.trans e2) a1, sameT (e1.trans e2) a2, .inl (by rw [b1.length]; exact Nat.le_refl _)⟩
end
end Hq
/-! Lc: comprehensions and loops in their usual forms. -/
namespace Hq
open PySem PySem.Spec PyProof.Rows L2
theorem blkOk_in {X : Cx} {s : Shared} {H : Hp} {C : Addr} {cl : List (Str × Addr)} {fp : List Addr} {scope1 scope : Scope} {own : List (Str × Nat)} (N : List Str) (sc : Scope) (hN : X.N = N := by rfl) (hs : X.env.scope = sc := by rfl) (h : blkC N (relS scope1 sc) scope own = true := by decide +kernel) :
    BlkOk (X.blk s H scope1 (compEnvC scope1 cl C X.env) fp).N (X.blk s H scope1 (compEnvC scope1 cl C X.env) fp).env.scope scope own := by subst hN hs; exact blkOk_by h
theorem eraseIdx_map {α β : Type} (f : α → β) : ∀ (xs : List α) (i : Nat), (xs.map f).eraseIdx i = (xs.eraseIdx i).map f
  | [], _ => rfl
  | _ :: _, 0 => rfl
  | x :: xs, i + 1 => by simp [eraseIdx_map f xs i]
theorem perm_erase {α : Type} : ∀ {xs : List α} {i : Nat} (h : i < xs.length), ([xs[i]] ++ xs.eraseIdx i).Perm xs
  | x :: xs, 0, _ => .refl _
  | x :: xs, i + 1, h => by
    have ih := perm_erase (xs := xs) (i := i) (by simpa using h)
    simp only [List.getElem_cons_succ, List.eraseIdx_cons_succ]
    exact .trans (.swap ..) (.cons x ih)
/-- a new list comes: frozen, or a cell (as the asker wishes) -/
def NewT {α : Type} [TD α] (xs : List α) (M : Mem) (Q : R → Mem → Prop) : Prop := Q (T xs) M ∨ ∃ A B, M = A ++ B ∧ ∀ q, Q (.v (.ref q)) (A ++ (q, .lst (xs.map T)) :: B)
theorem NewT.out {α : Type} [TD α] {xs : List α} {M : Mem} {Q : R → Mem → Prop} (h : NewT xs M Q) : (∃ ys : List PyData, xs.map T = ys.map R.d ∧ Q (.d (.list ys)) M) ∨ ∃ A B, M = A ++ B ∧ ∀ q, Q (.v (.ref q)) (A ++ (q, .lst (xs.map T)) :: B) := by
  rcases h with h | h
  · exact .inl ⟨xs.map td, (T_map xs).symm, h⟩
  · exact .inr h
theorem NewT.mono {α : Type} [TD α] {xs : List α} {M : Mem} {Q Q' : R → Mem → Prop} (h : NewT xs M Q) (k : ∀ r M', Q r M' → Q' r M') : NewT xs M Q' := by
  rcases h with h | ⟨A, B, e, h⟩
  · exact .inl (k _ _ h)
  · exact .inr ⟨A, B, e, fun q => k _ _ (h q)⟩
section
variable {X : Cx} {tg iter elt c : Expr} {scope : Scope} {g : TG} {own : List (Str × Nat)} {ds : List R} {M : Mem} {pos : Pos} {Q : R → Mem → Prop}
theorem tsx_nil {QB : Bool → Mem → Prop} (q : QB true M) : TsX X [] ds M QB := fun σ F H s pins sh I => pts_nil.run pins sh σ H _ I ⟨F, M, q, s.ms, Go.refl⟩
theorem tsx_one {QB : Bool → Mem → Prop} (h : TX X c ds M QB) : TsX X [c] ds M QB := fun σ F H s pins sh I => (pts_one (ptC c)).run pins sh σ H _ I (h σ F H s)
/-- what a comprehension of pure elements asks -/
abbrev LcM {γ β : Type} [TD β] (X : Cx) (tg iter elt : Expr) (scope : Scope) (g : TG) (vs : List Nat) (ds : List R) (M : Mem) (xs : List γ) (φ : γ → R) (f : γ → β) (Q : List β → Mem → Prop) : Prop :=
  IX X tg iter ds M fun rs keep M1 => rs = xs.map φ ∧ keep M1 ∧ xs.length ≤ sizeLine ∧ (∀ x ∈ xs, ∃ ds', TgS X.K g vs (φ x) (wipeR ds vs) ds' ∧ blkG X scope fun Y => DX Y elt ds' M1 (T (f x)) M1) ∧ Q (xs.map f) M1
abbrev LcF {γ β : Type} [TD β] (X : Cx) (tg iter c elt : Expr) (scope : Scope) (g : TG) (vs : List Nat) (ds : List R) (M : Mem) (xs : List γ) (φ : γ → R) (p : γ → Bool) (f : γ → β) (Q : List β → Mem → Prop) : Prop :=
  IX X tg iter ds M fun rs keep M1 => rs = xs.map φ ∧ keep M1 ∧ xs.length ≤ sizeLine ∧ (∀ x ∈ xs, ∃ ds', TgS X.K g vs (φ x) (wipeR ds vs) ds' ∧ (blkG X scope fun Y => DT Y c ds' M1 (p x) M1) ∧ (p x = true → blkG X scope fun Y => DX Y elt ds' M1 (T (f x)) M1)) ∧ Q ((xs.filter p).map f) M1
abbrev LcR {γ β : Type} [TD β] (X : Cx) (tg iter elt : Expr) (scope : Scope) (g : TG) (vs : List Nat) (ds : List R) (M : Mem) (xs : List γ) (φ : γ → R) (J : Nat → List β → Mem → Prop) (Q : List β → Mem → Prop) : Prop :=
  IX X tg iter ds M fun rs keep M1 => rs = xs.map φ ∧ (∀ i ys M, J i ys M → keep M) ∧ xs.length ≤ sizeLine ∧ J 0 [] M1 ∧ (∀ (i : Nat) x ys M, xs[i]? = some x → ys.length = i → J i ys M → ∃ ds', TgS X.K g vs (φ x) (wipeR ds vs) ds' ∧ blkG X scope fun Y => EX Y elt ds' M fun r M' => ∃ y : β, r = T y ∧ J (i + 1) (ys ++ [y]) M') ∧ ∀ ys M, ys.length = xs.length → J xs.length ys M → Q ys M
theorem map_get {γ δ : Type} {xs : List γ} {φ : γ → δ} {i : Nat} {r : δ} (h : (xs.map φ)[i]? = some r) : ∃ x, xs[i]? = some x ∧ φ x = r := by
  rw [List.getElem?_map] at h
  cases e : xs[i]? with
  | none => rw [e] at h; cases h
  | some x => rw [e] at h; exact ⟨x, rfl, Option.some.inj h⟩
theorem take_succ' {γ : Type} {xs : List γ} {i : Nat} {x : γ} (h : xs[i]? = some x) : xs.take (i + 1) = xs.take i ++ [x] := by
  rw [List.take_add_one, h]; rfl
theorem lcM_core {γ β : Type} [TD β] {xs : List γ} {φ : γ → R} {f : γ → β} {Q : List β → Mem → Prop} {Z : List R → Mem → Prop} {vs : List Nat} (hz : ∀ M, Q (xs.map f) M → Z ((xs.map f).map T) M) (h : LcM X tg iter elt scope g vs ds M xs φ f Q) :
    IX X tg iter ds M fun rs keep M1 => ∃ I : Nat → List R → Mem → Prop, I 0 [] M1 ∧ (∀ i acc M, I i acc M → keep M ∧ acc.length ≤ i) ∧ rs.length ≤ sizeLine ∧ LcI X scope g vs [] elt ds rs I ∧ ∀ acc M, I rs.length acc M → Z acc M := fun σ F H s => cI_mono (h σ F H s) fun J H1 ⟨F1, M1, rs, keep, wk, ⟨e, k, l, hb, q⟩, k1, m1, g1⟩ => by
  subst e
  refine ⟨F1, M1, _, keep, wk, ⟨fun i acc M' => acc = ((xs.take i).map f).map T ∧ M' = M1, ⟨rfl, rfl⟩, fun i acc M' ⟨e1, e2⟩ => ⟨by rw [e2]; exact k, by rw [e1]; simp; omega⟩, by rw [List.length_map]; exact l, fun i r acc M' hr ⟨e1, e2⟩ => ?_, fun acc M' ⟨e1, e2⟩ => ?_⟩, k1, m1, g1⟩
  · obtain ⟨x, hx, rfl⟩ := map_get hr
    obtain ⟨ds', t, b⟩ := hb x (List.mem_of_getElem? hx)
    refine ⟨ds', t, fun s H C cl fp => tsx_nil ?_⟩
    rw [if_pos rfl]
    intro s H C cl fp
    subst e1 e2
    exact b s H C cl fp _ ⟨by rw [take_succ' hx, List.map_append, List.map_append]; rfl, rfl⟩
  · subst e1 e2
    have e3 : xs.take ((xs.map φ).length) = xs := by rw [List.length_map]; exact List.take_length
    rw [e3]
    exact hz _ q
theorem lcF_core {γ β : Type} [TD β] {xs : List γ} {φ : γ → R} {p : γ → Bool} {f : γ → β} {Q : List β → Mem → Prop} {Z : List R → Mem → Prop} {vs : List Nat} (hz : ∀ M, Q ((xs.filter p).map f) M → Z (((xs.filter p).map f).map T) M) (h : LcF X tg iter c elt scope g vs ds M xs φ p f Q) :
    IX X tg iter ds M fun rs keep M1 => ∃ I : Nat → List R → Mem → Prop, I 0 [] M1 ∧ (∀ i acc M, I i acc M → keep M ∧ acc.length ≤ i) ∧ rs.length ≤ sizeLine ∧ LcI X scope g vs [c] elt ds rs I ∧ ∀ acc M, I rs.length acc M → Z acc M := fun σ F H s => cI_mono (h σ F H s) fun J H1 ⟨F1, M1, rs, keep, wk, ⟨e, k, l, hb, q⟩, k1, m1, g1⟩ => by
  subst e
  refine ⟨F1, M1, _, keep, wk, ⟨fun i acc M' => acc = (((xs.take i).filter p).map f).map T ∧ M' = M1, ⟨rfl, rfl⟩, fun i acc M' ⟨e1, e2⟩ => ⟨by rw [e2]; exact k, by rw [e1, List.length_map, List.length_map]; exact Nat.le_trans (List.length_filter_le ..) (by rw [List.length_take]; omega)⟩, by rw [List.length_map]; exact l, fun i r acc M' hr ⟨e1, e2⟩ => ?_, fun acc M' ⟨e1, e2⟩ => ?_⟩, k1, m1, g1⟩
  · obtain ⟨x, hx, rfl⟩ := map_get hr
    obtain ⟨ds', t, b, b2⟩ := hb x (List.mem_of_getElem? hx)
    subst e1 e2
    refine ⟨ds', t, fun s H C cl fp => tsx_one (b s H C cl fp _ ?_)⟩
    cases hp : p x with
    | true =>
      rw [if_pos rfl]
      intro s H C cl fp
      exact b2 hp s H C cl fp _ ⟨by rw [take_succ' hx, List.filter_append, List.filter_cons_of_pos hp, List.filter_nil, List.map_append, List.map_append]; rfl, rfl⟩
    | false =>
      rw [if_neg Bool.false_ne_true]
      exact ⟨by rw [take_succ' hx, List.filter_append, List.filter_cons_of_neg (by rw [hp]; exact Bool.false_ne_true), List.filter_nil, List.append_nil], rfl⟩
  · subst e1 e2
    have e3 : xs.take ((xs.map φ).length) = xs := by rw [List.length_map]; exact List.take_length
    rw [e3]
    exact hz _ q
theorem lcR_core {γ β : Type} [TD β] {xs : List γ} {φ : γ → R} {J : Nat → List β → Mem → Prop} {Q : List β → Mem → Prop} {Z : List R → Mem → Prop} {vs : List Nat} (hz : ∀ ys M, Q ys M → Z (ys.map T) M) (h : LcR X tg iter elt scope g vs ds M xs φ J Q) :
    IX X tg iter ds M fun rs keep M1 => ∃ I : Nat → List R → Mem → Prop, I 0 [] M1 ∧ (∀ i acc M, I i acc M → keep M ∧ acc.length ≤ i) ∧ rs.length ≤ sizeLine ∧ LcI X scope g vs [] elt ds rs I ∧ ∀ acc M, I rs.length acc M → Z acc M := fun σ F H s => cI_mono (h σ F H s) fun J' H1 ⟨F1, M1, rs, keep, wk, ⟨e, k, l, j0, hb, q⟩, k1, m1, g1⟩ => by
  subst e
  refine ⟨F1, M1, _, keep, wk, ⟨fun i acc M' => ∃ ys : List β, acc = ys.map T ∧ ys.length = i ∧ J i ys M', ⟨[], rfl, rfl, j0⟩, fun i acc M' ⟨ys, e1, e2, j⟩ => ⟨k _ _ _ j, by rw [e1, List.length_map, e2]; exact Nat.le_refl _⟩, by rw [List.length_map]; exact l, fun i r acc M' hr ⟨ys, e1, e2, j⟩ => ?_, fun acc M' ⟨ys, e1, e2, j⟩ => ?_⟩, k1, m1, g1⟩
  · obtain ⟨x, hx, rfl⟩ := map_get hr
    subst e1
    obtain ⟨ds', t, b⟩ := hb i x ys M' hx e2 j
    refine ⟨ds', t, fun s H C cl fp => tsx_nil ?_⟩
    rw [if_pos rfl]
    intro s H C cl fp
    refine (b s H C cl fp).mono fun r M'' ⟨y, e3, j2⟩ => ?_
    subst e3
    exact ⟨ys ++ [y], by rw [List.map_append]; rfl, by simp [e2], j2⟩
  · subst e1
    rw [List.length_map] at e2 j
    exact hz _ _ (q ys M' e2 j)
theorem ex_lcM {γ β : Type} [TD β] {xs : List γ} {φ : γ → R} {f : γ → β} (hc : X.calm = true) (hN : X.N.Nodup) (ok : BlkOk X.N X.env.scope scope own) (hg : blkG X scope fun Y => PG Y tg g) (h : LcM X tg iter elt scope g (own.map (·.2)) ds M xs φ f fun ys M1 => NewT ys M1 Q)
    (hs : ∀ x, foldedSetIterable iter X.env x = pure x := by intro _; rfl) : EX X (.ListComp elt [⟨tg, iter, [], 0⟩] scope pos) ds M Q := ex_lc hc hN ok hg (lcM_core (Z := fun acc M => (∃ ys : List PyData, acc = ys.map R.d ∧ Q (.d (.list ys)) M) ∨ ∃ A B, M = A ++ B ∧ ∀ q, Q (.v (.ref q)) (A ++ (q, .lst acc) :: B)) (fun M q => q.out) h) hs
theorem ex_lcF {γ β : Type} [TD β] {xs : List γ} {φ : γ → R} {p : γ → Bool} {f : γ → β} (hc : X.calm = true) (hN : X.N.Nodup) (ok : BlkOk X.N X.env.scope scope own) (hg : blkG X scope fun Y => PG Y tg g) (h : LcF X tg iter c elt scope g (own.map (·.2)) ds M xs φ p f fun ys M1 => NewT ys M1 Q)
    (hs : ∀ x, foldedSetIterable iter X.env x = pure x := by intro _; rfl) : EX X (.ListComp elt [⟨tg, iter, [c], 0⟩] scope pos) ds M Q := ex_lc hc hN ok hg (lcF_core (Z := fun acc M => (∃ ys : List PyData, acc = ys.map R.d ∧ Q (.d (.list ys)) M) ∨ ∃ A B, M = A ++ B ∧ ∀ q, Q (.v (.ref q)) (A ++ (q, .lst acc) :: B)) (fun M q => q.out) h) hs
theorem ex_lcR {γ β : Type} [TD β] {xs : List γ} {φ : γ → R} {J : Nat → List β → Mem → Prop} (hc : X.calm = true) (hN : X.N.Nodup) (ok : BlkOk X.N X.env.scope scope own) (hg : blkG X scope fun Y => PG Y tg g) (h : LcR X tg iter elt scope g (own.map (·.2)) ds M xs φ J fun ys M1 => NewT ys M1 Q)
    (hs : ∀ x, foldedSetIterable iter X.env x = pure x := by intro _; rfl) : EX X (.ListComp elt [⟨tg, iter, [], 0⟩] scope pos) ds M Q := ex_lc hc hN ok hg (lcR_core (Z := fun acc M => (∃ ys : List PyData, acc = ys.map R.d ∧ Q (.d (.list ys)) M) ∨ ∃ A B, M = A ++ B ∧ ∀ q, Q (.v (.ref q)) (A ++ (q, .lst acc) :: B)) (fun _ M q => q.out) h) hs
variable {rest : List Stmt} {D : Po} {spos py : Pos} {y : Str}
theorem bx_setLcM (i : Nat) {γ β : Type} [TD β] {xs : List γ} {φ : γ → R} {f : γ → β} (hc : X.calm = true) (hN : X.N.Nodup) (ok : BlkOk X.N X.env.scope scope own) (hg : blkG X scope fun Y => PG Y tg g) (h : LcM X tg iter elt scope g (own.map (·.2)) ds M xs φ f fun ys M1 => NewT ys M1 fun r M2 => BX X rest (ds.set i r) M2 D)
    (hy : X.N[i]? = some y := by rfl) (hyl : X.env.scope.names.lookup y = some .local := by rfl) (hsw : swapsWith (.ListComp elt [⟨tg, iter, [], 0⟩] scope pos) (some (.Name y py)) spos.line X.env = pure true := by exact sw_true rfl rfl rfl (by decide +kernel))
    (hs : ∀ x, foldedSetIterable iter X.env x = pure x := by intro _; rfl) : BX X (.Assign [.Name y py] (.ListComp elt [⟨tg, iter, [], 0⟩] scope pos) spos :: rest) ds M D := bx_setLc i hc hN ok hg (lcM_core (Z := fun acc M => (∃ ys : List PyData, acc = ys.map R.d ∧ BX X rest (ds.set i (.d (.list ys))) M D) ∨ ∃ A B, M = A ++ B ∧ ∀ q, BX X rest (ds.set i (.v (.ref q))) (A ++ (q, .lst acc) :: B) D) (fun M q => q.out) h) hy hyl hsw hs
theorem bx_setLcF (i : Nat) {γ β : Type} [TD β] {xs : List γ} {φ : γ → R} {p : γ → Bool} {f : γ → β} (hc : X.calm = true) (hN : X.N.Nodup) (ok : BlkOk X.N X.env.scope scope own) (hg : blkG X scope fun Y => PG Y tg g) (h : LcF X tg iter c elt scope g (own.map (·.2)) ds M xs φ p f fun ys M1 => NewT ys M1 fun r M2 => BX X rest (ds.set i r) M2 D)
    (hy : X.N[i]? = some y := by rfl) (hyl : X.env.scope.names.lookup y = some .local := by rfl) (hsw : swapsWith (.ListComp elt [⟨tg, iter, [c], 0⟩] scope pos) (some (.Name y py)) spos.line X.env = pure true := by exact sw_true rfl rfl rfl (by decide +kernel))
    (hs : ∀ x, foldedSetIterable iter X.env x = pure x := by intro _; rfl) : BX X (.Assign [.Name y py] (.ListComp elt [⟨tg, iter, [c], 0⟩] scope pos) spos :: rest) ds M D := bx_setLc i hc hN ok hg (lcF_core (Z := fun acc M => (∃ ys : List PyData, acc = ys.map R.d ∧ BX X rest (ds.set i (.d (.list ys))) M D) ∨ ∃ A B, M = A ++ B ∧ ∀ q, BX X rest (ds.set i (.v (.ref q))) (A ++ (q, .lst acc) :: B) D) (fun M q => q.out) h) hy hyl hsw hs
theorem bx_setLcR (i : Nat) {γ β : Type} [TD β] {xs : List γ} {φ : γ → R} {J : Nat → List β → Mem → Prop} (hc : X.calm = true) (hN : X.N.Nodup) (ok : BlkOk X.N X.env.scope scope own) (hg : blkG X scope fun Y => PG Y tg g) (h : LcR X tg iter elt scope g (own.map (·.2)) ds M xs φ J fun ys M1 => NewT ys M1 fun r M2 => BX X rest (ds.set i r) M2 D)
    (hy : X.N[i]? = some y := by rfl) (hyl : X.env.scope.names.lookup y = some .local := by rfl) (hsw : swapsWith (.ListComp elt [⟨tg, iter, [], 0⟩] scope pos) (some (.Name y py)) spos.line X.env = pure true := by exact sw_true rfl rfl rfl (by decide +kernel))
    (hs : ∀ x, foldedSetIterable iter X.env x = pure x := by intro _; rfl) : BX X (.Assign [.Name y py] (.ListComp elt [⟨tg, iter, [], 0⟩] scope pos) spos :: rest) ds M D := bx_setLc i hc hN ok hg (lcR_core (Z := fun acc M => (∃ ys : List PyData, acc = ys.map R.d ∧ BX X rest (ds.set i (.d (.list ys))) M D) ∨ ∃ A B, M = A ++ B ∧ ∀ q, BX X rest (ds.set i (.v (.ref q))) (A ++ (q, .lst acc) :: B) D) (fun _ M q => q.out) h) hy hyl hsw hs
end
end Hq
/-! Lp: loops by typed states, the built-ins' names, small helps. -/
namespace Hq
open PySem PySem.Spec PyProof.Rows L2
/-- no name of these is the module's own -/
structure Bt (mg : Str → Option Value) : Prop where
  len : mg "len" = none
  range : mg "range" = none
  sum : mg "sum" = none
  abs : mg "abs" = none
  list : mg "list" = none
  tuple : mg "tuple" = none
  zip : mg "zip" = none
  enumerate : mg "enumerate" = none
  all : mg "all" = none
  isinstance : mg "isinstance" = none
  int : mg "int" = none
  bool : mg "bool" = none
  str : mg "str" = none
  repr : mg "repr" = none
  min : mg "min" = none
  max : mg "max" = none
  sorted : mg "sorted" = none
  set : mg "set" = none
theorem IsD.clT {M : Mem} {α : Type} [TD α] {p : Addr} {xs : List α} (h : (p, Cell.lst (xs.map T)) ∈ M) : IsD M (.v (.ref p)) (td xs) := .cl (by rw [T_map]; exact h)
section
variable {X : Cx} {e a b c tg iter : Expr} {ds ds' : List R} {M M1 M2 : Mem} {pos p p2 : Pos} {D : Po} {r r1 : R} {body rest : List Stmt} {k : Nat}
theorem dt_neNil {xs : List PyData} (hr : Room k X.A) (ha : DX X a ds M r1 M1) (h : IsD M1 r1 (.list xs)) (hs : SeqAt.shaped (.list xs) = true) : DT X (.Compare a [.NotEq] [.List [] p2] pos) ds M (!xs.isEmpty) M1 := fun Q q => dt_neqv hr ha (dx_lst da_nil) h (.d (.list [])) hs rfl Q (by
  rw [show PyData.eqv (.list xs) (.list []) = xs.isEmpty by cases xs <;> rfl]; exact q)
theorem dx_eqNil {xs : List PyData} (hr : Room k X.A) (ha : DX X a ds M r1 M1) (h : IsD M1 r1 (.list xs)) (hs : SeqAt.shaped (.list xs) = true) : DX X (.Compare a [.Eq] [.List [] p2] pos) ds M (T xs.isEmpty) M1 := fun Q q => dx_eqv hr ha (dx_lst da_nil) h (.d (.list [])) hs rfl Q (by
  rw [show PyData.eqv (.list xs) (.list []) = xs.isEmpty by cases xs <;> rfl]; exact q)
/-- for, by a typed state s whose slots are st s -/
theorem bx_forT {γ S : Type} (xs : List γ) (φ : γ → R) (st : S → List R) (J : Nat → S → Mem → Prop) (hc : X.calm = true) (hp : PassesOwn (model X.prog X.w) X.A X.env X.xe) (h : IX X tg iter ds M fun rs keep M1 => rs = xs.map φ ∧ (∀ i s M, J i s M → keep M) ∧ (∃ s, Wk ds (st s) ∧ J 0 s M1) ∧
    (∀ i x s M, xs[i]? = some x → J i s M → GX X tg (φ x) (st s) M fun ds' M' => BX X body ds' M' { D with nx := fun ds M => ∃ s, Wk ds (st s) ∧ J (i + 1) s M, ct := fun ds M => ∃ s, Wk ds (st s) ∧ J (i + 1) s M, bk := fun ds M => BX X rest ds M D }) ∧
    ∀ s M, J xs.length s M → BX X rest (st s) M D) (hs : ∀ x, foldedSetIterable iter X.env x = pure x := by intro _; rfl) : BX X (.For tg iter body [] pos :: rest) ds M D :=
  bx_for hc hp (fun σ F H s => cI_mono (h σ F H s) fun J' H1 ⟨F1, M1, rs, keep, wk, ⟨e, hk, ⟨s0, w0, j0⟩, hb, hd⟩, k1, m1, g1⟩ => by
    subst e
    refine ⟨F1, M1, _, keep, wk, ⟨fun i ds M => ∃ s, Wk ds (st s) ∧ J i s M, ⟨s0, w0, j0⟩, fun i ds M ⟨s, _, j⟩ => hk _ _ _ j, fun i r ds M hr ⟨s, w, j⟩ => ?_, fun ds M ⟨s, w, j⟩ => bx_weak w (hd s M (by rw [List.length_map] at j; exact j))⟩, k1, m1, g1⟩
    obtain ⟨x, hx, rfl⟩ := map_get hr
    intro σ F H v ss wv
    exact hb i x s M hx j σ F H v ⟨ss.sl.weak w, ss.ms⟩ wv) hs
/-- while, by a typed state and a measure -/
theorem bx_whileT {S : Type} (st : S → List R) (J : S → Mem → Prop) (μ : S → Nat) (s0 : S) (hp : PassesOwn (model X.prog X.w) X.A X.env X.xe) (w0 : Wk ds (st s0)) (j0 : J s0 M)
    (hb : ∀ s M, J s M → TX X c (st s) M fun k M1 => if k = true then BX X body (st s) M1 { D with nx := fun ds M => ∃ s', Wk ds (st s') ∧ μ s' < μ s ∧ J s' M, ct := fun ds M => ∃ s', Wk ds (st s') ∧ μ s' < μ s ∧ J s' M, bk := fun ds M => BX X rest ds M D } else BX X rest (st s) M1 D) : BX X (.While c body [] pos :: rest) ds M D :=
  bx_weak w0 (bx_while hp (fun ds M n => ∃ s, ds = st s ∧ n = μ s ∧ J s M) (μ s0) ⟨s0, rfl, rfl, j0⟩ fun ds M n ⟨s, e1, e2, j⟩ => by
    subst e1 e2
    refine (hb s M j).mono fun k M1 q => ?_
    cases k with
    | true =>
      rw [if_pos rfl] at q ⊢
      -- the ends are to be exact: weaken at the end
      intro σ F H ss
      refine cB_mono (q σ F H ss) ⟨?_, fun _ _ z => z, fun _ _ z => z, ?_⟩
      · exact fun σ' H' ⟨F', M', ds', a, ⟨s', w, l, j⟩, c, g⟩ => ⟨F', M', _, a.weak w, ⟨μ s', l, s', rfl, rfl, j⟩, c, g⟩
      · exact fun σ' H' ⟨F', M', ds', a, ⟨s', w, l, j⟩, c, g⟩ => ⟨F', M', _, a.weak w, ⟨μ s', l, s', rfl, rfl, j⟩, c, g⟩
    | false => exact q)
/-- the joining of ways, by a typed state -/
theorem bx_cutT {S : Type} {st : Stmt} (sl : S → List R) (J : S → Mem → Prop) (h : SX X st ds M { D with nx := fun ds M => ∃ s, Wk ds (sl s) ∧ J s M }) (h2 : ∀ s M, J s M → BX X rest (sl s) M D) : BX X (st :: rest) ds M D := bx_cut _ h fun ds M ⟨s, w, j⟩ => bx_weak w (h2 s M j)
theorem sx_ifD {A B : List Stmt} {k : Bool} (h : DT X c ds M k M1) (h1 : k = true → BX X A ds M1 D) (h2 : k = false → BX X B ds M1 D) : SX X (.If c A B pos) ds M D := sx_if (h _ (by
  cases k with
  | true => exact h1 rfl
  | false => exact h2 rfl))
end
/-! cells looked at as data for one expression whose value is a truth -/
mutual
inductive Vw (M : Mem) : R → PyData → Prop
  | d (x : PyData) : Vw M (.d x) x
  | l {p : Addr} {rs : List R} {xs : List PyData} : (p, Cell.lst rs) ∈ M → VwL M rs xs → Vw M (.v (.ref p)) (.list xs)
  | t {rs : List R} {xs : List PyData} : VwL M rs xs → Vw M (.t rs) (.tuple xs)
inductive VwL (M : Mem) : List R → List PyData → Prop
  | nil : VwL M [] []
  | cons {r : R} {rs : List R} {x : PyData} {xs : List PyData} : Vw M r x → VwL M rs xs → VwL M (r :: rs) (x :: xs)
end
theorem vwL_map {M : Mem} : ∀ xs : List PyData, VwL M (xs.map R.d) xs
  | [] => .nil
  | x :: xs => .cons (.d x) (vwL_map xs)
theorem vwL_T {α : Type} [TD α] {M : Mem} (xs : List α) : VwL M (xs.map T) (xs.map td) := by rw [← T_map]; exact vwL_map _
theorem vwL_app {M : Mem} : ∀ {rs qs : List R} {xs ys : List PyData}, VwL M rs xs → VwL M qs ys → VwL M (rs ++ qs) (xs ++ ys)
  | _, _, _, _, .nil, h => h
  | _, _, _, _, .cons a t, h => .cons a (vwL_app t h)
def Vws (M : Mem) : List R → List R → Prop
  | [], [] => True
  | a :: as, b :: bs => (a = b ∨ b = .no ∨ ∃ x, Vw M a x ∧ b = .d x) ∧ Vws M as bs
  | _, _ => False
section
variable {K : PySem.W.Frag} {M : Mem} {F F2 H : Hp}
mutual
theorem vw_dq (m : Ms K M F H) (s1 : Same F F2) (s2 : ∀ p c, (p, c) ∈ M → F2 p = H p) : ∀ (x : PyData) (r : R) (v : V), Vw M r x → Rr K F v r → Dq F2 v x
  | x, .d y, v, h, w => by
    cases h with
    | d => exact dq_up s1 _ _ (rr_d.mp w)
  | .list xs, .v _, v, h, w => by
    cases h with
    | l h1 h2 =>
      have w := rr_v.mp w
      subst w
      obtain ⟨zs, a, b⟩ := (m.mem _ _ h1).2
      exact .lst ((s2 _ _ h1).trans a) (vw_dqs m s1 s2 xs _ zs h2 b)
  | .tuple xs, .t rs, v, h, w => by
    cases h with
    | t h2 =>
      obtain ⟨a, zs, rfl, c, d⟩ := rr_t.mp w
      exact .tup (s1 _ _ c) (vw_dqs m s1 s2 xs _ zs h2 d)
  | _, .no, _, h, _ => by cases h
  | _, .s _, _, h, _ => by cases h
  | .none, .v _, _, h, _ => by cases h
  | .bool _, .v _, _, h, _ => by cases h
  | .int _, .v _, _, h, _ => by cases h
  | .str _, .v _, _, h, _ => by cases h
  | .tuple _, .v _, _, h, _ => by cases h
  | .dict _, .v _, _, h, _ => by cases h
  | .none, .t _, _, h, _ => by cases h
  | .bool _, .t _, _, h, _ => by cases h
  | .int _, .t _, _, h, _ => by cases h
  | .str _, .t _, _, h, _ => by cases h
  | .list _, .t _, _, h, _ => by cases h
  | .dict _, .t _, _, h, _ => by cases h
theorem vw_dqs (m : Ms K M F H) (s1 : Same F F2) (s2 : ∀ p c, (p, c) ∈ M → F2 p = H p) : ∀ (xs : List PyData) (rs : List R) (vs : List V), VwL M rs xs → Rrs K F vs rs → Dqs F2 vs xs
  | [], _, _, h, w => by cases h; cases w; exact .nil
  | x :: xs, _, _, h, w => by
    cases h with
    | cons h1 h2 =>
      cases w with
      | cons w1 w2 => exact .cons (vw_dq m s1 s2 x _ _ h1 w1) (vw_dqs m s1 s2 xs _ _ h2 w2)
end
theorem Vws.spec : ∀ {ds ds' : List R}, Vws M ds ds' → ds.length = ds'.length ∧ ∀ (i : Nat) (r : R), ds'[i]? = some r → r ≠ R.no → ds[i]? = some r ∨ ∃ r0 x, ds[i]? = some r0 ∧ Vw M r0 x ∧ r = .d x
  | [], [], _ => ⟨rfl, fun i r a _ => .inl a⟩
  | a :: as, b :: bs, h => by
    obtain ⟨h1, h2⟩ := h
    obtain ⟨l, s⟩ := Vws.spec h2
    refine ⟨by simp [l], fun i r e n => ?_⟩
    cases i with
    | zero =>
      have e' : b = r := by simpa using e
      subst e'
      rcases h1 with z | z | ⟨x, z, z2⟩
      · exact .inl (by simp [z])
      · exact absurd z n
      · exact .inr ⟨a, x, by simp, z, z2⟩
    | succ i => simpa using s i r (by simpa using e) n
  | [], _ :: _, h => h.elim
  | _ :: _, [], h => h.elim
end
theorem dx_look {X : Cx} {e : Expr} {ds ds' : List R} {M : Mem} {b : Bool} (hv : Vws M ds ds') (h : DX X e ds' [] (T b) []) : DX X e ds M (T b) M := fun Q q σ F H s => by
  let F2 : Hp := fun p => if p ∈ ads M then H p else F p
  have out : ∀ p o, F p = some o → p ∉ ads M := fun p o e z => by
    obtain ⟨⟨a, c⟩, h1, h2⟩ := List.mem_map.mp z
    have h2 : a = p := h2
    subst h2
    rw [(s.ms.mem a c h1).1] at e; cases e
  have s1 : Same F F2 := fun p o e => by show (if p ∈ ads M then H p else F p) = _; rw [if_neg (out p o e)]; exact e
  have s2 : ∀ p c, (p, c) ∈ M → F2 p = H p := fun p c hm => if_pos (List.mem_map.mpr ⟨_, hm, rfl⟩)
  have m2 : Ms X.K [] F2 H := ⟨fun p o e => by
    by_cases z : p ∈ ads M
    · have e : (if p ∈ ads M then H p else F p) = some o := e
      rw [if_pos z] at e; exact e
    · have e : (if p ∈ ads M then H p else F p) = some o := e
      rw [if_neg z] at e; exact s.ms.ex p o e, fun _ _ z => (nomatch z), List.nodup_nil⟩
  obtain ⟨l, sp⟩ := hv.spec
  have sl2 : Sl X.K F2 σ ds' := ⟨s.sl.1.trans l, fun i r a n => by
    rcases sp i r a n with z | ⟨r0, x, z, hx, e⟩
    · obtain ⟨v, c, d⟩ := s.sl.2 i r z n
      exact ⟨v, c, d.up s1⟩
    · subst e
      obtain ⟨v, c, d⟩ := s.sl.2 i r0 z (by cases hx <;> nofun)
      exact ⟨v, c, rr_d.mpr (vw_dq s.ms s1 s2 x r0 v hx d)⟩⟩
  refine cE_mono (h (fun r M' => r = T b ∧ M' = []) ⟨rfl, rfl⟩ σ F2 H ⟨sl2, m2⟩) fun v H' ⟨F3, M3, r, w, ⟨e1, e2⟩, m3, g3⟩ => ?_
  subst e1 e2
  have hv := rr_bl w
  subst hv
  have s3 : Same F (fun p => if p ∈ ads M then none else F3 p) := fun p o e => by
    show (if p ∈ ads M then none else F3 p) = _
    rw [if_neg (out p o e)]
    exact g3.ex p o (s1 p o e)
  refine ⟨fun p => if p ∈ ads M then none else F3 p, M, _, rrB, q, ⟨fun p o e => ?_, fun p c hm => ⟨if_pos (List.mem_map.mpr ⟨_, hm, rfl⟩), ?_⟩, s.ms.nd⟩, ⟨s3, fun p o e _ => g3.fr p o e (by simp [ads]), fun p o e f n => ?_, fun p z => .inl z⟩⟩
  · have e : (if p ∈ ads M then none else F3 p) = some o := e
    by_cases z : p ∈ ads M
    · rw [if_pos z] at e; cases e
    · rw [if_neg z] at e; exact m3.ex p o e
  · obtain ⟨o, ho⟩ := (s.ms.mem p c hm).2.here
    exact (s.ms.mem p c hm).2.up s3 ((g3.fr p o ho (by simp [ads])).trans ho.symm)
  · show (if p ∈ ads M then none else F3 p) = none
    rw [if_neg n]
    refine g3.nf p o e ?_ (by simp [ads])
    show (if p ∈ ads M then H p else F p) = none
    rw [if_neg n]
    exact f
/-! ### xs[::-1] -/
theorem ex_revL {X : Cx} {e : Expr} {ds : List R} {M : Mem} {k : Nat} {p1 p2 p3 pos : Pos} {Q : R → Mem → Prop} (h : EX X e ds M fun r M1 => ∃ ys : List PyData, IsL M1 r (ys.map R.d) ∧ Q (.d (.list ys.reverse)) M1) : EX X (.Subscript e (.Slice none none (some (.UnaryOp .USub (.Constant (.int 1) k p1) p2)) p3) pos) ds M Q :=
  ex_pe (pe_revL (peC e)) fun σ F H s => cE_mono (h σ F H s) fun v H' ⟨F', M', r, w, ⟨ys, hl, q⟩, m, g⟩ => by
    obtain ⟨p, xs, rfl, a, b⟩ := hl.get m w
    refine ⟨p, xs, rfl, a, fun z nz => Out.trans g (newL m ?_ nz q)⟩
    rw [List.map_reverse]
    exact rrs_rev b
where rrs_rev {K : PySem.W.Frag} {F : Hp} : ∀ {vs : List V} {rs : List R}, Rrs K F vs rs → Rrs K F vs.reverse rs.reverse
  | _, _, .nil => .nil
  | _, _, .cons a t => by rw [List.reverse_cons, List.reverse_cons]; exact rrs_app (rrs_rev t) (.cons a .nil)
theorem dx_revT {X : Cx} {e : Expr} {ds : List R} {M M1 : Mem} {k : Nat} {p1 p2 p3 pos : Pos} {α : Type} [TD α] {xs : List α} (h : DX X e ds M (T xs) M1) : DX X (.Subscript e (.Slice none none (some (.UnaryOp .USub (.Constant (.int 1) k p1) p2)) p3) pos) ds M (T xs.reverse) M1 :=
  fun Q q => ex_revL (h _ ⟨xs.map td, by rw [T_map]; exact isL_T xs, by rw [← List.map_reverse]; exact q⟩)
/-! ### how long a repr is -/
mutual
def cost : PyData → Nat
  | .none => 4
  | .bool _ => 5
  | .int _ => 1922
  | .str x => (reprText x).length
  | .list xs => 2 + costs xs
  | .tuple xs => 3 + costs xs
  | .dict _ => 0
def costs : List PyData → Nat
  | [] => 0
  | x :: xs => cost x + 2 + costs xs
end
theorem len_app (x y : Str) : (x ++ y).length = x.length + y.length := strLen_append x y
theorem ofS_len (s : String) : (Str.ofString s).length = s.length := PySem.ofString_length s
def lens (ts : List Str) : Nat := (ts.map fun t => t.length + 2).sum
theorem lens_cons (t : Str) (ts : List Str) : lens (t :: ts) = t.length + 2 + lens ts := by simp [lens]
theorem textFrom_le : ∀ (ts : List Str) (k : Nat) (acc : Str), (textFrom k acc ts).length ≤ acc.length + lens ts
  | [], k, acc => Nat.le_add_right _ _
  | t :: ts, k, acc => by
    have h := textFrom_le ts (k + 1) (acc ++ (if k > 0 then ", " else "" : String) ++ t)
    have e : (acc ++ ((if k > 0 then ", " else "" : String) : Str) ++ t).length ≤ acc.length + 2 + t.length := by
      rw [len_app, len_app]
      have : ((if k > 0 then ", " else "" : String) : Str).length ≤ 2 := by split <;> decide
      omega
    rw [lens_cons]
    refine Nat.le_trans (show (textFrom k acc (t :: ts)).length ≤ _ from h) ?_
    omega
theorem piled_le : ∀ ts : List Str, (Str.join ", " ts).length ≤ lens ts
  | [] => by show (0 : Nat) ≤ 0; omega
  | t :: ts => by
    have h := join_length_add (t :: ts) (by simp)
    have e : ∀ us : List Str, piled us = lens us := by
      intro us
      induction us with
      | nil => rfl
      | cons u us ih => rw [lens_cons, ← ih]; simp [piled]
    rw [e] at h
    omega
mutual
theorem shown_le : ∀ d : PyData, d.showable = true → d.hasDict = false → d.shown.length ≤ cost d
  | .none, _, _ => by simp only [PyData.shown, cost]; decide
  | .bool b, _, _ => by cases b <;> simp only [PyData.shown, cost] <;> decide
  | .int i, h, _ => by
    simp only [PyData.showable, decide_eq_true_eq] at h
    simp only [PyData.shown, cost]
    have e := int_text_length_le (a := i) (k := 1920) (by decide) h
    rw [ofS_len]
    omega
  | .str x, _, _ => by simp only [PyData.shown, cost]; exact Nat.le_refl _
  | .list xs, h, h2 => by
    simp only [PyData.showable] at h
    simp only [PyData.hasDict] at h2
    simp only [PyData.shown, cost]
    have e := shownAll_le xs h h2
    unfold listText
    rw [len_app]
    have e2 := textFrom_le (PyData.shownAll xs) 0 "["
    have e3 : (("[" : String) : Str).length = 1 := by decide
    have e4 : (("]" : String) : Str).length = 1 := by decide
    rw [e4]
    omega
  | .tuple xs, h, h2 => by
    simp only [PyData.showable] at h
    simp only [PyData.hasDict] at h2
    simp only [PyData.shown, cost]
    have e := shownAll_le xs h h2
    unfold tupleText
    rw [len_app, len_app]
    have e2 := piled_le (PyData.shownAll xs)
    have e3 : (("(" : String) : Str).length = 1 := by decide
    have e4 : ((if (PyData.shownAll xs).length == 1 then ",)" else ")" : String) : Str).length ≤ 2 := by split <;> decide
    omega
  | .dict _, _, h => by simp [PyData.hasDict] at h
theorem shownAll_le : ∀ ds : List PyData, PyData.showableAll ds = true → PyData.hasDictAll ds = false → lens (PyData.shownAll ds) ≤ costs ds
  | [], _, _ => Nat.le_refl _
  | d :: ds, h, h2 => by
    simp only [PyData.showableAll, Bool.and_eq_true] at h
    simp only [PyData.hasDictAll, Bool.or_eq_false_iff] at h2
    simp only [PyData.shownAll, costs]
    rw [lens_cons]
    have a := shown_le d h.1 h2.1
    have b := shownAll_le ds h.2 h2.2
    omega
end
/-- fit to be shown -/
structure Sho (c n : Nat) (d : PyData) : Prop where
  s : d.showable = true
  h : d.hasDict = false
  dep : d.depth ≤ n
  le : cost d ≤ c
theorem Sho.mono {c c' n n' : Nat} {d : PyData} (h : Sho c n d) (h1 : c ≤ c') (h2 : n ≤ n') : Sho c' n' d := ⟨h.s, h.h, Nat.le_trans h.dep h2, Nat.le_trans h.le h1⟩
theorem Sho.int {i : Int} (h : i.natAbs < 2 ^ 1919) : Sho 1922 0 (.int i) := ⟨by
  simp only [PyData.showable, decide_eq_true_eq]
  rcases Nat.eq_zero_or_pos i.natAbs with h0 | hp
  · rw [h0]; decide
  · exact Nat.lt_succ_of_lt ((Nat.log2_lt (by omega)).mpr h), rfl, Nat.le_refl _, by simp only [cost]; exact Nat.le_refl _⟩
theorem Sho.alls {c n : Nat} : ∀ {ds : List PyData}, (∀ d ∈ ds, Sho c n d) → PyData.showableAll ds = true ∧ PyData.hasDictAll ds = false ∧ PyData.depthAll ds ≤ n ∧ costs ds ≤ ds.length * (c + 2)
  | [], _ => ⟨rfl, rfl, Nat.zero_le _, Nat.zero_le _⟩
  | d :: ds, h => by
    obtain ⟨a1, a2, a3, a4⟩ := h d List.mem_cons_self
    obtain ⟨b1, b2, b3, b4⟩ := Sho.alls fun x hx => h x (List.mem_cons_of_mem _ hx)
    refine ⟨by simp [PyData.showableAll, a1, b1], by simp [PyData.hasDictAll, a2, b2], Nat.max_le.mpr ⟨a3, b3⟩, ?_⟩
    simp only [costs, List.length_cons, Nat.add_mul, Nat.one_mul]
    omega
theorem Sho.list {c n k : Nat} {ds : List PyData} (h : ∀ d ∈ ds, Sho c n d) (l : ds.length ≤ k) : Sho (2 + k * (c + 2)) (n + 1) (.list ds) := by
  obtain ⟨a, b, d, e⟩ := Sho.alls h
  exact ⟨by simpa only [PyData.showable] using a, by simpa only [PyData.hasDict] using b, Nat.succ_le_succ d, by simp only [cost]; have := Nat.mul_le_mul_right (c + 2) l; omega⟩
theorem Sho.tuple {c n k : Nat} {ds : List PyData} (h : ∀ d ∈ ds, Sho c n d) (l : ds.length ≤ k) : Sho (3 + k * (c + 2)) (n + 1) (.tuple ds) := by
  obtain ⟨a, b, d, e⟩ := Sho.alls h
  exact ⟨by simpa only [PyData.showable] using a, by simpa only [PyData.hasDict] using b, Nat.succ_le_succ d, by simp only [cost]; have := Nat.mul_le_mul_right (c + 2) l; omega⟩
theorem Sho.listT {α : Type} [TD α] {c n k : Nat} {xs : List α} (h : ∀ x ∈ xs, Sho c n (td x)) (l : xs.length ≤ k) : Sho (2 + k * (c + 2)) (n + 1) (td xs) := Sho.list (fun d hd => by obtain ⟨x, hx, rfl⟩ := List.mem_map.mp hd; exact h x hx) (by rw [List.length_map]; exact l)
theorem dx_repr {X : Cx} {e : Expr} {ds : List R} {M M1 : Mem} {r : R} {xs : List PyData} {pos p : Pos} {k c n : Nat} (hg : X.A.guards = some []) (hr : Room k X.A) (hm : X.mg "repr" = none) (h : DX X e ds M r M1) (hd : IsD M1 r (.list xs)) (s : Sho c n (.list xs)) (hc : c ≤ 16000000) (hn : n ≤ 100) (gl : Gl X "repr" := by rfl) (he : starEach [e] X.env = (false, eval e X.env) :: starEach [] X.env := by exact st_any rfl) : DX X (.Call (.Name "repr" p) [e] [] pos) ds M (T (PyData.shown (.list xs))) M1 :=
  fun Q q => ex_repr hg hr hm (h _ ⟨xs, hd, s.s, s.h, Nat.le_trans s.dep hn, Nat.le_trans (shown_le _ s.s s.h) (Nat.le_trans s.le (Nat.le_trans hc (by rw [sizeLine_eq]; decide))), q⟩) gl he
/-- cells of the answer forgotten -/
theorem ex_drop {X : Cx} {e : Expr} {ds : List R} {M : Mem} {Q : R → Mem → Prop} (h : EX X e ds M fun r M1 => ∃ M2, M2.Sublist M1 ∧ Q r M2) : EX X e ds M Q := fun σ F H s =>
  cE_mono (h σ F H s) fun v H' ⟨F', M1, r, a, ⟨M2, w, q⟩, m, g⟩ => ⟨F', M2, r, a, q, (m.drop w).1, g.trans (m.drop w).2⟩
end Hq
/-! Lq: enumerate of a cell; comprehensions whose elements are not data. -/
namespace Hq
open PySem PySem.Spec PyProof.Rows L2
section
variable {X : Cx} {e tg iter elt c : Expr} {scope : Scope} {g : TG} {own : List (Str × Nat)} {ds : List R} {M : Mem} {pos p : Pos} {Q : R → Mem → Prop} {rest : List Stmt} {D : Po} {y : Str} {py spos : Pos}
theorem ix_enumC {elts : List Expr} {kk : Nat} {tpos : Pos} {QI : List R → (Mem → Prop) → Mem → Prop} (hm : X.mg "enumerate" = none) (h : EX X e ds M fun r M1 => ∃ q rs, r = .v (.ref q) ∧ (q, Cell.lst rs) ∈ M1 ∧ QI ((List.range rs.length).map fun (i : Nat) => .t [T (i : Int), rs.getD i .no]) (fun M => (q, Cell.lst rs) ∈ M) M1) (gl : Gl X "enumerate" := by rfl)
    (he : starEach [e] X.env = [(false, eval e X.env)] := by exact st_any rfl) : IX X (.Tuple elts kk tpos) (.Call (.Name "enumerate" p) [e] [] pos) ds M QI := ix_pi (pi_enum gl hm (pa_cons (peC e) pa_nil he) he) fun σ F H s =>
  cE_mono (h σ F H s) fun v H' ⟨F', M', r, w, ⟨q0, rs, e1, hq, q⟩, m, g⟩ => by
    subst e1
    have e2 := rr_v.mp w
    subst e2
    obtain ⟨xs, a, b⟩ := (m.mem _ _ hq).2
    refine ⟨q0, xs, rfl, SqL.of a, F', M', _, _, ⟨fun M F H e k mm => ?_, fun i r M F H hi e k mm => ?_⟩, q, hq, m, g⟩
    · obtain ⟨ys, a, b⟩ := (mm.mem _ _ k).2
      exact ⟨ys, SqL.of a, by rw [b.length]; simp⟩
    · obtain ⟨ys, a, b⟩ := (mm.mem _ _ k).2
      rw [List.getElem?_map] at hi
      by_cases hl : i < rs.length
      · rw [List.getElem?_range hl] at hi
        obtain rfl := Option.some.inj hi
        obtain ⟨y, c1, c2⟩ := rrs_get b (show rs[i]? = some rs[i] by simp [hl])
        refine ⟨⟨ys, y, SqL.of a, c1⟩, fun x H' ⟨t, z, e1, nt, e2, hz⟩ => ?_⟩
        subst e1 e2
        obtain rfl : z = y := Option.some.inj ((hz ys (SqL.of a)).symm.trans c1)
        have k := mm.newF (o := .tup [.int (i : Nat), z]) nt
        refine ⟨_, rr_t.mpr ⟨t, _, rfl, upd_same, .cons rrI (.cons ?_ .nil)⟩, k.1, k.2⟩
        have e3 : rs.getD i R.no = rs[i] := by rw [List.getD_eq_getElem?_getD, show rs[i]? = some rs[i] by simp [hl]]; rfl
        show Rr X.K _ z (rs.getD i .no)
        rw [e3]
        exact c2.up k.2.ex
      · rw [List.getElem?_eq_none (by simpa using hl)] at hi; cases hi
/-- elements of any kind: the result is a cell -/
abbrev LcG {γ : Type} (X : Cx) (tg iter elt : Expr) (scope : Scope) (g : TG) (vs : List Nat) (ds : List R) (M : Mem) (xs : List γ) (φ f : γ → R) (Q : List R → Mem → Prop) : Prop :=
  IX X tg iter ds M fun rs keep M1 => rs = xs.map φ ∧ keep M1 ∧ xs.length ≤ sizeLine ∧ (∀ x ∈ xs, ∃ ds', TgS X.K g vs (φ x) (wipeR ds vs) ds' ∧ blkG X scope fun Y => DX Y elt ds' M1 (f x) M1) ∧ Q (xs.map f) M1
theorem lcG_core {γ : Type} {xs : List γ} {φ f : γ → R} {Q : List R → Mem → Prop} {Z : List R → Mem → Prop} {vs : List Nat} (hz : ∀ M, Q (xs.map f) M → Z (xs.map f) M) (h : LcG X tg iter elt scope g vs ds M xs φ f Q) :
    IX X tg iter ds M fun rs keep M1 => ∃ I : Nat → List R → Mem → Prop, I 0 [] M1 ∧ (∀ i acc M, I i acc M → keep M ∧ acc.length ≤ i) ∧ rs.length ≤ sizeLine ∧ LcI X scope g vs [] elt ds rs I ∧ ∀ acc M, I rs.length acc M → Z acc M := fun σ F H s => cI_mono (h σ F H s) fun J H1 ⟨F1, M1, rs, keep, wk, ⟨e, k, l, hb, q⟩, k1, m1, g1⟩ => by
  subst e
  refine ⟨F1, M1, _, keep, wk, ⟨fun i acc M' => acc = (xs.take i).map f ∧ M' = M1, ⟨rfl, rfl⟩, fun i acc M' ⟨e1, e2⟩ => ⟨by rw [e2]; exact k, by rw [e1]; simp; omega⟩, by rw [List.length_map]; exact l, fun i r acc M' hr ⟨e1, e2⟩ => ?_, fun acc M' ⟨e1, e2⟩ => ?_⟩, k1, m1, g1⟩
  · obtain ⟨x, hx, rfl⟩ := map_get hr
    obtain ⟨ds', t, b⟩ := hb x (List.mem_of_getElem? hx)
    refine ⟨ds', t, fun s H C cl fp => tsx_nil ?_⟩
    rw [if_pos rfl]
    intro s H C cl fp
    subst e1 e2
    exact b s H C cl fp _ ⟨by rw [take_succ' hx, List.map_append]; rfl, rfl⟩
  · subst e1 e2
    have e3 : xs.take ((xs.map φ).length) = xs := by rw [List.length_map]; exact List.take_length
    rw [e3]
    exact hz _ q
def NewC (rs : List R) (M : Mem) (Q : R → Mem → Prop) : Prop := ∃ A B, M = A ++ B ∧ ∀ q, Q (.v (.ref q)) (A ++ (q, .lst rs) :: B)
theorem ex_lcG {γ : Type} {xs : List γ} {φ f : γ → R} (hc : X.calm = true) (hN : X.N.Nodup) (ok : BlkOk X.N X.env.scope scope own) (hg : blkG X scope fun Y => PG Y tg g) (h : LcG X tg iter elt scope g (own.map (·.2)) ds M xs φ f fun ys M1 => NewC ys M1 Q)
    (hs : ∀ x, foldedSetIterable iter X.env x = pure x := by intro _; rfl) : EX X (.ListComp elt [⟨tg, iter, [], 0⟩] scope pos) ds M Q := ex_lc hc hN ok hg (lcG_core (Z := fun acc M => (∃ ys : List PyData, acc = ys.map R.d ∧ Q (.d (.list ys)) M) ∨ ∃ A B, M = A ++ B ∧ ∀ q, Q (.v (.ref q)) (A ++ (q, .lst acc) :: B)) (fun M q => .inr q) h) hs
theorem bx_setLcG (i : Nat) {γ : Type} {xs : List γ} {φ f : γ → R} (hc : X.calm = true) (hN : X.N.Nodup) (ok : BlkOk X.N X.env.scope scope own) (hg : blkG X scope fun Y => PG Y tg g) (h : LcG X tg iter elt scope g (own.map (·.2)) ds M xs φ f fun ys M1 => NewC ys M1 fun r M2 => BX X rest (ds.set i r) M2 D)
    (hy : X.N[i]? = some y := by rfl) (hyl : X.env.scope.names.lookup y = some .local := by rfl) (hsw : swapsWith (.ListComp elt [⟨tg, iter, [], 0⟩] scope pos) (some (.Name y py)) spos.line X.env = pure true := by exact sw_true rfl rfl rfl (by decide +kernel))
    (hs : ∀ x, foldedSetIterable iter X.env x = pure x := by intro _; rfl) : BX X (.Assign [.Name y py] (.ListComp elt [⟨tg, iter, [], 0⟩] scope pos) spos :: rest) ds M D := bx_setLc i hc hN ok hg (lcG_core (Z := fun acc M => (∃ ys : List PyData, acc = ys.map R.d ∧ BX X rest (ds.set i (.d (.list ys))) M D) ∨ ∃ A B, M = A ++ B ∧ ∀ q, BX X rest (ds.set i (.v (.ref q))) (A ++ (q, .lst acc) :: B) D) (fun M q => .inr q) h) hy hyl hsw hs
theorem rrs_rg {K : PySem.W.Frag} {F : Hp} : ∀ (l : List Nat), Rrs K F (l.map fun (i : Nat) => V.int (0 + (i : Int))) ((l.map fun (i : Nat) => td (i : Int)).map R.d)
  | [] => .nil
  | i :: l => .cons (by show Rr K F (V.int (0 + (i : Int))) (R.d (td (i : Int))); rw [Int.zero_add]; exact rrI) (rrs_rg l)
/-- list(range(n)) -/
theorem ex_listRg {p2 p3 : Pos} (hc : X.calm = true) (hm : X.mg "list" = none) (hm2 : X.mg "range" = none) (h : EX X e ds M fun r M1 => ∃ n : Nat, r = T (n : Int) ∧ n ≤ 16777216 ∧ Q (T ((List.range n).map fun (i : Nat) => (i : Int))) M1) (gl : Gl X "list" := by rfl) (gl2 : Gl X "range" := by rfl)
    (he : starEach [e] X.env = (false, eval e X.env) :: starEach [] X.env := by exact st_any rfl) (he2 : starEach [.Call (.Name "range" p2) [e] [] p3] X.env = (false, eval (.Call (.Name "range" p2) [e] [] p3) X.env) :: starEach [] X.env := by exact st_any rfl) : EX X (.Call (.Name "list" p) [.Call (.Name "range" p2) [e] [] p3] [] pos) ds M Q :=
  ex_pe (pe_listRg hc gl hm (prg_1 gl2 hm2 (peC e) he) he2) fun σ F H s => cE_mono (h σ F H s) fun v H' ⟨F', M', r, w, ⟨n, e, hn, q⟩, m, g⟩ => by
    subst e
    refine ⟨n, rr_int w, RgOk.of_le (Int.le_refl 0) (by omega) (by decide) (by omega), fun q' nq => Out.trans g (newL (ys := (List.range n).map fun (i : Nat) => td (i : Int)) m ?_ nq ?_)⟩
    · unfold rgV
      rw [Int.sub_zero, Int.toNat_natCast]
      exact rrs_rg _
    · have e : (T ((List.range n).map fun (i : Nat) => (i : Int))) = R.d (.list ((List.range n).map fun (i : Nat) => td (i : Int))) := by
        show R.d (.list _) = _
        rw [List.map_map]; rfl
      rw [← e]; exact q
theorem dx_listRg {p2 p3 : Pos} {n : Nat} {M1 : Mem} (hc : X.calm = true) (hm : X.mg "list" = none) (hm2 : X.mg "range" = none) (h : DX X e ds M (T (n : Int)) M1) (hn : n ≤ 16777216) (gl : Gl X "list" := by rfl) (gl2 : Gl X "range" := by rfl)
    (he : starEach [e] X.env = (false, eval e X.env) :: starEach [] X.env := by exact st_any rfl) (he2 : starEach [.Call (.Name "range" p2) [e] [] p3] X.env = (false, eval (.Call (.Name "range" p2) [e] [] p3) X.env) :: starEach [] X.env := by exact st_any rfl) : DX X (.Call (.Name "list" p) [.Call (.Name "range" p2) [e] [] p3] [] pos) ds M (T ((List.range n).map fun (i : Nat) => (i : Int))) M1 :=
  fun Q q => ex_listRg hc hm hm2 (h _ ⟨n, rfl, hn, q⟩) gl gl2 he he2
/-- a == b of ints -/
theorem tx_eqI {a b : Expr} {k : Nat} {QB : Bool → Mem → Prop} (hr : Room k X.A) (h : EX X a ds M fun r1 M1 => ∃ i : Int, r1 = T i ∧ EX X b ds M1 fun r2 M2 => ∃ j : Int, r2 = T j ∧ QB (decide (i = j)) M2) : TX X (.Compare a [.Eq] [b] pos) ds M QB :=
  tx_cmp (op_eqD hr.units) mo_eqD (nobehind _ (by decide) (by decide)) (h.mono fun r1 M1 ⟨i, e1, h⟩ => h.mono fun r2 M2 ⟨j, e2, q⟩ => by
    subst e1 e2
    exact ow_eq (.d _) (.d _) (shaped_T i (by decide)) (shaped_T j (by decide)) ⟨_, rfl, by rw [TQ.eqv]; exact q⟩)
theorem tx_neI {a b : Expr} {k : Nat} {QB : Bool → Mem → Prop} (hr : Room k X.A) (h : EX X a ds M fun r1 M1 => ∃ i : Int, r1 = T i ∧ EX X b ds M1 fun r2 M2 => ∃ j : Int, r2 = T j ∧ QB (!decide (i = j)) M2) : TX X (.Compare a [.NotEq] [b] pos) ds M QB :=
  tx_cmp (op_neD hr.units) mo_neD (nobehind _ (by decide) (by decide)) (h.mono fun r1 M1 ⟨i, e1, h⟩ => h.mono fun r2 M2 ⟨j, e2, q⟩ => by
    subst e1 e2
    exact ow_ne (.d _) (.d _) (shaped_T i (by decide)) (shaped_T j (by decide)) ⟨_, rfl, by rw [TQ.eqv]; exact q⟩)
end
end Hq
/-! Lr: unpacking with a star; wide powers; count, min, max of a list; chains; unpacking of lists. -/
namespace Hq
open PySem PySem.Spec PyProof.Rows L2
theorem go {X : Cx} {e : Expr} {ds : List R} {M M1 : Mem} {r : R} {Q : R → Mem → Prop} (h : DX X e ds M r M1) (q : Q r M1) : EX X e ds M Q := h Q q
/-! ### a, *b = a tuple -/
section
variable {prog : Program} {w : World} {A : Around} {E : Value → Shared → Prop} {s : Shared}
theorem walks_from1 {it t : Addr} (hh : A.handled = none) (hne : t ≠ it) (items : Array Value) {n : Nat} (hn : items.size = n + 1) :
    Walks prog w A it [it, t] [it] n (fun i v => items[i + 1]? = some v) (fun i h => h.IsTupleIter it t (i + 1) ∧ h.IsTuple t items) := by
  have W := Walks.tuple (prog := prog) (w := w) hh it t hne items
  rw [hn] at W
  exact ⟨W.sub, fun i => W.frame (i + 1), fun i s Q E hi st hQ => W.item (i + 1) s Q E (by omega) st hQ, W.done, fun i => W.self (i + 1)⟩
theorem star_items {t : Addr} {items : Array Value} {n : Nat} {x : Value} {Q : List Value → Shared → Prop} (hh : A.handled = none) (ht : IsTup s.heap t items) (hn : items.size = n + 1) (hx : items[0]? = some x) (hz : n ≤ sizeLine)
    (hQ : ∀ (h' : Heap) (tk : Nat), (∀ b o, s.heap.get? b = some o → h'.get? b = some o) → Q [x, .ref h'.objs.size] { s with heap := h'.push { cls := .type "list", data := .seq (items.toList.drop 1).toArray }, toks := tk }) : wpAny (model prog w) A (unpackItems (.ref t) 2 (some 1)) Q E s := by
  have hlt : t ≠ s.heap.objs.size := by obtain ⟨o, ho, _⟩ := ht; exact Nat.ne_of_lt (Heap.lt_size ho)
  unfold unpackItems
  refine wpAny_bind ?_
  unfold notIterableAtAll
  refine wpAny_bind (wpAny_specialOf ht.typeIs slot_tuple_iter.lookup ?_)
  refine wpAny_pure ?_
  rw [if_neg (by decide)]
  refine wpAny_bind (wpAny_holding (iter_tuple ht ?_))
  refine wpAny_bind (wpAny_holding (draw_tuple hlt 1 0 _ _ ⟨_, Heap.get?_push_size _ rfl, rfl, rfl⟩ (ht.push _) (by omega) fun h1 hit1 same1 => ?_))
  have e1 : List.take 1 (List.drop 0 items.toList) = [x] := by
    rw [List.drop_zero]
    cases hi : items.toList with
    | nil => rw [← Array.length_toList, hi] at hn; cases hn
    | cons y ys =>
      rw [← Array.getElem?_toList, hi] at hx
      cases hx; rfl
  rw [e1, if_neg (show ¬ [x].length < 1 by simp)]
  have ht1 : IsTup h1 t items := (ht.push _).extBut same1.extBut hlt
  have keep1 : ∀ b o, s.heap.get? b = some o → h1.get? b = some o := fun b o e => same1.extBut b o (Nat.ne_of_lt (Heap.lt_size e)) (Heap.get?_push_of_some _ e)
  obtain ⟨o1, ho1, _⟩ := id hit1
  obtain ⟨o2, ho2, _⟩ := id ht1
  refine wpAny_bind (wpAny_holding (wpAny_collect_iter (s := { s with heap := h1 }) (T := "tuple_iterator") (.inr (.inr (.inr rfl))) (walks_from1 (A := A.in1) hh hlt items hn).toS (fun i s st => by obtain ⟨⟨o, a, b, _⟩, _⟩ := st; exact ⟨o, a, b⟩) ⟨hit1, ht1⟩
    (fun b hb => by
      rcases List.mem_cons.mp hb with e | hb
      · subst e; exact Heap.lt_size ho1
      · rw [List.mem_singleton.mp hb]; exact Heap.lt_size ho2) List.mem_cons_self (fun s2 acc mv it => ?_) hz))
  have ea : acc.toList = items.toList.drop 1 := by
    refine List.ext_getElem? fun i => ?_
    rw [List.getElem?_drop, Array.getElem?_toList, Array.getElem?_toList]
    by_cases hi : i < acc.size
    · rw [Nat.add_comm 1 i, it.2 i acc[i] (by simp [hi])]
      simp [hi]
    · have hs := it.1
      rw [Array.getElem?_eq_none (by omega), Array.getElem?_eq_none (by omega)]
  have el : ¬ acc.toList.length < 2 - 1 - 1 := by omega
  show wpAny _ _ (if acc.toList.length < 2 - 1 - 1 then _ else _) _ _ _
  rw [if_neg el]
  have e2 : acc.toList.take (acc.toList.length - (2 - 1 - 1)) = items.toList.drop 1 := by rw [show (2 - 1 - 1 : Nat) = 0 from rfl, Nat.sub_zero, List.take_length, ea]
  have e3 : acc.toList.drop (acc.toList.length - (2 - 1 - 1)) = [] := by rw [show (2 - 1 - 1 : Nat) = 0 from rfl, Nat.sub_zero, List.drop_length]
  show wpAny _ _ (newList (acc.toList.take (acc.toList.length - (2 - 1 - 1))) >>= fun l => pure ([x] ++ [l] ++ acc.toList.drop (acc.toList.length - (2 - 1 - 1)))) _ _ _
  rw [e2, e3]
  refine wpAny_bind (wpAny_newObj_type ?_ ?_)
  · refine wpAny_pure ?_
    obtain ⟨g1, g2, g3, g4, g5⟩ := s2
    obtain ⟨m1, m2, m3, m4, m5⟩ := mv
    simp only at m1 m2 m3 m4 m5
    subst m2 m3 m4
    exact hQ g1 _ fun b o e => m1 b o (by rw [List.mem_singleton]; exact Nat.ne_of_lt (Heap.lt_size e)) (keep1 b o e)
  · show (items.toList.drop 1).toArray.size ≤ sizeLine
    rw [List.size_toArray, List.length_drop, Array.length_toList, hn]
    exact hz
end
section
variable {X : Cx} {pos : Pos} {es : List Expr} {ds : List R} {M : Mem} {r r1 : R}
def gStar (K : PySem.W.Frag) (t : TGs) : TG := fun v σ H Q => ∃ a x xs, v = .ref a ∧ SqT K H a (x :: xs) ∧ ∀ p, H p = none → t [x, .ref p] σ (upd H p (.lst xs)) Q
theorem pg_star {k : Nat} {t : TGs} (hc : X.calm = true) (h : PGs X es t) (hn : (assignEach es X.env).length = 2) (hst : (assignEach es X.env).findIdx? (·.1) = some 1) : PG X (.Tuple es k pos) (gStar X.K t) := by
  refine ⟨fun pins s σ H v u Q I r hw => ?_⟩
  obtain ⟨a, x, xs, e1, hq, hw⟩ := hw
  subst e1
  cases r
  obtain ⟨its, rv, ht, hz⟩ := I.tuple hq
  cases rv with
  | @cons _ u0 _ us r0 rr =>
    rw [PyProof.Rows.assign_Tuple]
    refine wpAny_bind (wpAny_standAt ?_)
    unfold unpack
    rw [hn, hst]
    have hl := rr.length
    refine wpAny_bind (wpAny_holding (star_items (I.ok.hd hc) ht (n := us.length) (by simp) rfl (by rw [List.length_cons] at hz; omega) fun h' tk hx => ?_))
    have I1 : Inv X pins σ H { s with heap := h', toks := tk } := I.kept hx
    have I2 : Inv X pins σ (upd H h'.objs.size (.lst xs)) { s with heap := h'.push { cls := .type "list", data := .seq us.toArray }, toks := tk } :=
      I1.laid (fun b o e => Heap.get?_push_of_some _ e) (Nat.le_refl _) ⟨by rw [List.length_cons] at hz; omega, us, 0, rr, Heap.get?_push_size _ rfl⟩
    exact h.run pins _ σ _ [x, .ref h'.objs.size] _ Q I2 (.cons r0 (.cons rfl .nil)) (hw _ (I1.hok.fresh (Nat.le_refl _)))
theorem gsx_starred {tg : Expr} {ts : List Expr} {p : Pos} {rs : List R} {Q : List R → Mem → Prop} (h : GsX X (tg :: ts) rs ds M Q) (e : (assignEach (.Starred tg p :: ts) X.env).map (·.2) = (assignEach (tg :: ts) X.env).map (·.2) := by rfl) : GsX X (.Starred tg p :: ts) rs ds M Q := fun σ F H vs s w pins sh us I r => by
  rw [e]; exact h σ F H vs s w pins sh us I r
theorem gx_star {k : Nat} {Q : List R → Mem → Prop} {ys : List PyData} (hc : X.calm = true) (ht : IsT M r (r1 :: ys.map R.d)) (h : GsX X es [r1, .d (.list ys)] ds M Q) (hn : (assignEach es X.env).length = 2 := by rfl) (hst : (assignEach es X.env).findIdx? (·.1) = some 1 := by rfl) : GX X (.Tuple es k pos) r ds M Q :=
  gx_pg (pg_star hc (pgsC es) hn hst) fun σ F H v s w => by
    obtain ⟨p, xs, e, a, b⟩ := ht.get s.ms w
    cases b with
    | @cons x _ xs _ b1 b2 =>
      refine ⟨p, x, xs, e, SqT.of a, fun q nq => ?_⟩
      have kk := s.ms.newF (o := .lst xs) nq
      intro pins sh us I rr
      refine thn (h σ _ _ [x, .ref q] ⟨s.sl.up kk.2.ex, kk.1⟩ (.cons (b1.up kk.2.ex) (.cons (rr_d.mpr (.lst upd_same (rrs_dqs (Rrs.up kk.2.ex b2)))) .nil)) pins sh us I rr) fun _ _ ⟨σ2, H2, I2, F2, M2, ds2, a2, b2, c2, g2⟩ => ⟨σ2, H2, I2, F2, M2, ds2, a2, b2, c2, kk.2.trans g2⟩
/-- (a, b, ..) = a list -/
theorem gx_unl {k : Nat} {rs : List R} {Q : List R → Mem → Prop} (hc : X.calm = true) (ht : IsL M r rs) (h : GsX X es rs ds M Q) (hn : (assignEach es X.env).length = rs.length := by rfl) (hst : (assignEach es X.env).findIdx? (·.1) = none := by rfl) : GX X (.Tuple es k pos) r ds M Q :=
  gx_pg (pg_unl hc (pgsC es) rfl hst) fun σ F H v s w => by
    obtain ⟨p, xs, e, a, b⟩ := ht.get s.ms w
    exact ⟨p, xs, e, a, by rw [b.length, hn], h σ F H xs s b⟩
end
/-! ### powers of wide ints -/
def CPowW (i j : Int) : Prop := 0 ≤ j ∧ (Builtin.Int.intBits i : Int) * j ≤ 2 ^ 27
section
variable {X : Cx} {a b c e : Expr} {ds : List R} {M M1 M2 M3 : Mem} {pos p : Pos} {i j k : Int} {Q : R → Mem → Prop}
theorem op_powW : OpR X (binaryOp .Pow) (rI CPowW fun i j => .int (i ^ j.toNat)) := opI fun _ _ _ _ _ _ _ hc q => pow_int hc.1 hc.2 q
theorem dx_powW (hc : CPowW i j) (ha : DX X a ds M (T i) M1) (hb : DX X b ds M1 (T j) M2) : DX X (.BinOp a .Pow b pos) ds M (T (i ^ j.toNat)) M2 := dx_op op_powW mo_I ha hb fun Q q => ow_I hc (fun _ => rrI) q
/-- a <= b < c -/
theorem dx_leLt (ha : DX X a ds M (T i) M1) (hb : DX X b ds M1 (T j) M2) (hc : DX X c ds M2 (T k) M2) (hm : lastMarks [CmpOp.LtE, .Lt] [b, c] = false := by with_unfolding_all rfl) : DX X (.Compare a [.LtE, .Lt] [b, c] pos) ds M (T (decide (i ≤ j) && decide (j < k))) M2 := fun Q q =>
  ex_pe (pe_chain op_le op_lt (peC a) (peC b) (peC c) hm) fun σ F H s => cE_mono (ha (fun r M' => r = T i ∧ M' = M1) ⟨rfl, rfl⟩ σ F H s) fun x H1 ⟨F1, M1', r1, w1, ⟨e1, e2⟩, m1, g1⟩ => by
    subst e1 e2
    refine cE_mono (hb (fun r M' => r = T j ∧ M' = M2) ⟨rfl, rfl⟩ σ F1 H1 (s.go g1 m1)) fun y H2 ⟨F2, M2', r2, w2, ⟨e1, e2⟩, m2, g2⟩ => ?_
    subst e1 e2
    refine ⟨i, j, rr_int w1, rr_int w2, decide (i ≤ j), rfl, ?_⟩
    by_cases h : i ≤ j
    · rw [decide_eq_true h, if_pos rfl]
      refine cE_mono (hc (fun r M' => r = T k ∧ M' = M2') ⟨rfl, rfl⟩ σ F2 H2 ((s.go g1 m1).go g2 m2)) fun z H3 ⟨F3, M3', r3, w3, ⟨e1, e2⟩, m3, g3⟩ => ?_
      subst e1 e2
      refine ⟨j, k, rr_int w2, rr_int w3, F3, M3', _, rrB, ?_, m3, (g1.trans g2).trans g3⟩
      rw [decide_eq_true h, Bool.true_and] at q
      exact q
    · rw [decide_eq_false h, if_neg Bool.false_ne_true]
      rw [decide_eq_false h, Bool.false_and] at q
      exact ⟨F2, M2', _, rrB, q, m2, g1.trans g2⟩
/-! ### min, max of a list of ints -/
theorem ex_minL (hc : X.calm = true) (hm : X.mg "min" = none) (h : EX X e ds M fun r M1 => ∃ ns : List Int, IsL M1 r (ns.map T) ∧ 0 < ns.length ∧ ∀ m, m ∈ ns → (∀ y, y ∈ ns → m ≤ y) → Q (T m) M1) (hg : Gl X "min" := by rfl) (he : starEach [e] X.env = (false, eval e X.env) :: starEach [] X.env := by exact st_any rfl) : EX X (.Call (.Name "min" p) [e] [] pos) ds M Q :=
  ex_callB (cr_min hc) (fun x H Q Q' m ⟨p, ys, a, b, c, q⟩ => ⟨p, ys, a, b, c, fun z h1 h2 => m _ _ (q z h1 h2)⟩) hm (by decide +kernel) (ax_cons (h.mono fun r M1 ⟨ns, h1, h2, q⟩ => ax_nil fun F H vs m w => by
    obtain ⟨v, ev, w1⟩ := rrs1 w
    subst ev
    obtain ⟨p, xs, rfl, a, b⟩ := h1.get m w1
    have e := rrs_ints b
    subst e
    exact ⟨p, ns, rfl, a, h2, fun z h1 h2 => Out.mk0 m rrI (q z h1 h2)⟩) he) hg (he := he)
theorem ex_maxL (hc : X.calm = true) (hm : X.mg "max" = none) (h : EX X e ds M fun r M1 => ∃ ns : List Int, IsL M1 r (ns.map T) ∧ 0 < ns.length ∧ ∀ m, m ∈ ns → (∀ y, y ∈ ns → y ≤ m) → Q (T m) M1) (hg : Gl X "max" := by rfl) (he : starEach [e] X.env = (false, eval e X.env) :: starEach [] X.env := by exact st_any rfl) : EX X (.Call (.Name "max" p) [e] [] pos) ds M Q :=
  ex_callB (cr_max hc) (fun x H Q Q' m ⟨p, ys, a, b, c, q⟩ => ⟨p, ys, a, b, c, fun z h1 h2 => m _ _ (q z h1 h2)⟩) hm (by decide +kernel) (ax_cons (h.mono fun r M1 ⟨ns, h1, h2, q⟩ => ax_nil fun F H vs m w => by
    obtain ⟨v, ev, w1⟩ := rrs1 w
    subst ev
    obtain ⟨p, xs, rfl, a, b⟩ := h1.get m w1
    have e := rrs_ints b
    subst e
    exact ⟨p, ns, rfl, a, h2, fun z h1 h2 => Out.mk0 m rrI (q z h1 h2)⟩) he) hg (he := he)
/-! ### words.count(word) -/
def rCntS (K : PySem.W.Frag) : V → List V → Hp → VK → Prop := fun x xs H Q => ∃ (p : Addr) (ns : List Str) (k : Str), x = .ref p ∧ xs = [.str k] ∧ SqL K H p (ns.map V.str) ∧ Q (.int (ns.count k : Nat)) H
theorem cnt_strs {k : Str} : ∀ {ns : List Str} {us : List Value}, Vals (ns.map V.str) us → us.countP (eqU (.str k)) = ns.count k
  | [], _, h => by cases h; rfl
  | n :: ns, _, h => by
    cases h with
    | cons r t =>
      obtain ⟨tk, rfl⟩ := r
      have ih := cnt_strs (k := k) t
      rw [List.countP_cons, List.count_cons, ih]
      rfl
theorem mt_cntS : MtR X "list.count" (rCntS X.K) := by
  intro pins s σ H x xs v us Q I rx rxs h
  obtain ⟨p, ns, k, rfl, rfl, hs, q⟩ := h
  cases rx
  obtain ⟨u, rfl, ru⟩ := rxs.one
  obtain ⟨t, rfl⟩ := ru
  obtain ⟨its, rv, ⟨⟨cls, dd, data, sl⟩, n, ho, hc, hdn, hd⟩, hlen⟩ := I.list hs
  simp only at hc hd
  subst hc hd
  have hfl : (ns.map V.str).all flatV = true := by
    rw [List.all_map]
    exact List.all_eq_true.mpr fun _ _ => rfl
  refine call_meets PySem.F.slot_list_count ⟨_, ho, rfl⟩ PySem.F.entry_list_count (PySem.F.args_list_count_2 _ _)
    (SeqAt.list_countAt p its.toArray n dd sl (.str k t) (eqU (.str k))) ⟨ho, fun y hy => mem_eqAt (x := .str k) ⟨t, rfl⟩ rfl rv hfl y (by simpa using hy), ⟨.int (ns.count k : Nat), H, I.tok _, ⟨s.toks, ?_⟩, q⟩⟩
  show Value.int ((its.toArray.toList.countP (eqU (.str k)) : Nat) : Int) s.toks = Value.int ((ns.count k : Nat) : Int) s.toks
  rw [show its.toArray.toList = its from rfl, cnt_strs rv]
theorem ex_countS {o : Expr} {apos : Pos} (h : EX X o ds M fun r1 M1 => ∃ ns : List Str, IsL M1 r1 (ns.map T) ∧ EX X e ds M1 fun r2 M2 => ∃ k : Str, r2 = T k ∧ M2 = M1 ∧ Q (T (ns.count k : Int)) M2)
    (hb : ∀ {to : TE} {t : TA} {r}, MtR X "list.count" r → PE X o to → PA X [e] t → PE X (.Call (.Attribute o "count" apos) [e] [] pos) (tBM X.K "list" r to t) := by intro _ _ _ h1 h2 h3; exact pe_bm PySem.F.plainAttrs_list PySem.F.slot_list_count PySem.F.type_list_count h1 h2 h3)
    (he : starEach [e] X.env = (false, eval e X.env) :: starEach [] X.env := by exact st_any rfl) : EX X (.Call (.Attribute o "count" apos) [e] [] pos) ds M Q :=
  ex_pe (hb mt_cntS (peC o) (pa_cons (peC e) pa_nil he)) fun σ F H s => cE_mono (h σ F H s) fun x H1 ⟨F1, M1, r1, w1, ⟨ns, hl, h1⟩, m1, g1⟩ => by
    obtain ⟨p, xs, rfl, a, b⟩ := hl.get m1 w1
    have e := rrs_strs b
    subst e
    refine ⟨.inl ⟨rfl, _, a⟩, cE_mono (h1 σ F1 H1 (s.go g1 m1)) fun yv H2 ⟨F2, M2, y, w2, ⟨k, e2, e3, qq⟩, m2, g2⟩ => ?_⟩
    subst e2 e3
    obtain ⟨p', xs', e4, a', b'⟩ := hl.get m2 (w1.up g2.ex)
    cases e4
    have w2 := rr_d.mp w2
    cases w2
    have e := rrs_strs b'
    subst e
    exact ⟨p, ns, k, rfl, rfl, a', F2, _, _, rrI, qq, m2, g1.trans g2⟩
end
/-- for, what is walked known inside -/
theorem bx_forE {X : Cx} {tg iter : Expr} {body rest : List Stmt} {ds : List R} {M : Mem} {D : Po} {pos : Pos} {γ S : Type} (φ : γ → R) (st : S → List R) (J : Nat → S → Mem → Prop) (hc : X.calm = true) (hp : PassesOwn (model X.prog X.w) X.A X.env X.xe) (h : IX X tg iter ds M fun rs keep M1 => ∃ xs : List γ, rs = xs.map φ ∧ (∀ i s M, J i s M → keep M) ∧ (∃ s, Wk ds (st s) ∧ J 0 s M1) ∧
    (∀ i x s M, xs[i]? = some x → J i s M → GX X tg (φ x) (st s) M fun ds' M' => BX X body ds' M' { D with nx := fun ds M => ∃ s, Wk ds (st s) ∧ J (i + 1) s M, ct := fun ds M => ∃ s, Wk ds (st s) ∧ J (i + 1) s M, bk := fun ds M => BX X rest ds M D }) ∧
    ∀ s M, J xs.length s M → BX X rest (st s) M D) (hs : ∀ x, foldedSetIterable iter X.env x = pure x := by intro _; rfl) : BX X (.For tg iter body [] pos :: rest) ds M D :=
  bx_for hc hp (fun σ F H s => cI_mono (h σ F H s) fun J' H1 ⟨F1, M1, rs, keep, wk, ⟨xs, e, hk, ⟨s0, w0, j0⟩, hb, hd⟩, k1, m1, g1⟩ => by
    subst e
    refine ⟨F1, M1, _, keep, wk, ⟨fun i ds M => ∃ s, Wk ds (st s) ∧ J i s M, ⟨s0, w0, j0⟩, fun i ds M ⟨s, _, j⟩ => hk _ _ _ j, fun i r ds M hr ⟨s, w, j⟩ => ?_, fun ds M ⟨s, w, j⟩ => bx_weak w (hd s M (by rw [List.length_map] at j; exact j))⟩, k1, m1, g1⟩
    obtain ⟨x, hx, rfl⟩ := map_get hr
    intro σ F H v ss wv
    exact hb i x s M hx j σ F H v ⟨ss.sl.weak w, ss.ms⟩ wv) hs
section
variable {X : Cx} {a e : Expr} {ds : List R} {M M1 : Mem} {pos p : Pos}
theorem dt_isN {j pos'} {x : PyData} (h : DX X a ds M (.d x) M1) : DT X (.Compare a [.Is] [.Constant .none j pos'] pos) ds M (isNo x) M1 := fun Q q => tx_pt (pt_cmp (pc_isN (peC a))) fun σ F H s =>
  cE_mono (h (fun r M' => r = .d x ∧ M' = M1) ⟨rfl, rfl⟩ σ F H s) fun v H' ⟨F', M', r, w, ⟨e1, e2⟩, m, g⟩ => by subst e1 e2; exact ⟨isNo x, by rw [dq_non (rr_d.mp w)], F', M', q, m, g⟩
theorem dt_notN {j pos'} {x : PyData} (h : DX X a ds M (.d x) M1) : DT X (.Compare a [.IsNot] [.Constant .none j pos'] pos) ds M (!isNo x) M1 := fun Q q => tx_pt (pt_cmp (pc_notN (peC a))) fun σ F H s =>
  cE_mono (h (fun r M' => r = .d x ∧ M' = M1) ⟨rfl, rfl⟩ σ F H s) fun v H' ⟨F', M', r, w, ⟨e1, e2⟩, m, g⟩ => by subst e1 e2; exact ⟨!isNo x, by rw [dq_non (rr_d.mp w)], F', M', q, m, g⟩
theorem dx_cast {α : Type} [TD α] {i j : α} (e' : i = j) (h : DX X e ds M (T i) M1) : DX X e ds M (T j) M1 := e' ▸ h
theorem dx_minL {ns : List Int} (m : Int) (hc : X.calm = true) (hm : X.mg "min" = none) (h : DX X e ds M (T ns) M1) (h1 : m ∈ ns) (h2 : ∀ y ∈ ns, m ≤ y) (hg : Gl X "min" := by rfl) (he : starEach [e] X.env = (false, eval e X.env) :: starEach [] X.env := by exact st_any rfl) : DX X (.Call (.Name "min" p) [e] [] pos) ds M (T m) M1 :=
  fun Q q => ex_minL hc hm (h _ ⟨ns, isL_T ns, List.length_pos_of_mem h1, fun z z1 z2 => by rw [show z = m from Int.le_antisymm (z2 m h1) (h2 z z1)]; exact q⟩) hg he
theorem dx_maxL {ns : List Int} (m : Int) (hc : X.calm = true) (hm : X.mg "max" = none) (h : DX X e ds M (T ns) M1) (h1 : m ∈ ns) (h2 : ∀ y ∈ ns, y ≤ m) (hg : Gl X "max" := by rfl) (he : starEach [e] X.env = (false, eval e X.env) :: starEach [] X.env := by exact st_any rfl) : DX X (.Call (.Name "max" p) [e] [] pos) ds M (T m) M1 :=
  fun Q q => ex_maxL hc hm (h _ ⟨ns, isL_T ns, List.length_pos_of_mem h1, fun z z1 z2 => by rw [show z = m from Int.le_antisymm (h2 z z1) (z2 m h1)]; exact q⟩) hg he
theorem dt_eqNil {k : Nat} {p2 : Pos} {r1 : R} {xs : List PyData} (hr : Room k X.A) (ha : DX X a ds M r1 M1) (h : IsD M1 r1 (.list xs)) (hs : SeqAt.shaped (.list xs) = true) : DT X (.Compare a [.Eq] [.List [] p2] pos) ds M xs.isEmpty M1 := fun QB q =>
  tx_cmp (op_eqD hr.units) mo_eqD (nobehind _ (by decide) (by decide)) (ha _ ((dx_lst da_nil) _ (ow_eq h (.d (.list [])) hs rfl ⟨_, rfl, by rw [show PyData.eqv (.list xs) (.list []) = xs.isEmpty by cases xs <;> rfl]; exact q⟩)))
end
theorem cut_to {α : Type} (xs : List α) (n : Nat) : cut xs none (some (n : Int)) = xs.take n := by
  unfold cut
  rw [HT.sIx_none, show HT.sIx xs.length xs.length (some (n : Int)) = min n xs.length from HT.sIx_nat xs.length xs.length n]
  simp only [List.drop_zero, Nat.sub_zero]
  by_cases h : n ≤ xs.length
  · rw [Nat.min_eq_left h]
  · rw [Nat.min_eq_right (by omega), List.take_of_length_le (by omega : xs.length ≤ n), List.take_of_length_le (Nat.le_refl _)]
theorem cut_from {α : Type} (xs : List α) (n : Nat) : cut xs (some (n : Int)) none = xs.drop n := by
  unfold cut
  rw [HT.sIx_none, show HT.sIx xs.length 0 (some (n : Int)) = min n xs.length from HT.sIx_nat xs.length 0 n]
  by_cases h : n ≤ xs.length
  · rw [Nat.min_eq_left h]
    exact List.take_of_length_le (by rw [List.length_drop]; exact Nat.le_refl _)
  · rw [Nat.min_eq_right (by omega), List.drop_of_length_le (Nat.le_refl _), List.drop_of_length_le (by omega), List.take_nil]
theorem cut_mem {α : Type} {xs : List α} {lo hi : Option Int} {x : α} (h : x ∈ cut xs lo hi) : x ∈ xs := List.mem_of_mem_drop (List.mem_of_mem_take h)
theorem cut_len {α : Type} {xs : List α} {lo hi : Option Int} : (cut xs lo hi).length ≤ xs.length := by
  unfold cut
  rw [List.length_take, List.length_drop]
  omega
end Hq
namespace K01
open PySem PySem.Spec PyProof.Rows L2 Hq
def topS (i : Nat) : Stmt := PySem.Challenge.pw_halfknown_k01_faults_found.main.body.getD i (.Pass ⟨0, 0, 0, 0⟩)
abbrev s_is_fault : Stmt := topS 1
abbrev n_is_fault : List Str := ["deed", "count", "named", "word", "rest", "person"]
abbrev p_is_fault : List Str := ["deed", "count"]
theorem sc_is_fault : FnScope n_is_fault p_is_fault (defScope s_is_fault) := ⟨rfl, rfl, rfl, by decide +kernel, rfl, by decide +kernel, by decide +kernel⟩
abbrev s_fault : Stmt := topS 2
abbrev n_fault : List Str := ["history", "count", "number", "deed"]
abbrev p_fault : List Str := ["history"]
theorem sc_fault : FnScope n_fault p_fault (defScope s_fault) := ⟨rfl, rfl, rfl, by decide +kernel, rfl, by decide +kernel, by decide +kernel⟩
abbrev s__law_bag : Stmt := topS 4
abbrev n__law_bag : List Str := ["_law_script", "_law_seed", "_law_cell"]
abbrev p__law_bag : List Str := ["_law_script"]
theorem sc__law_bag : FnScope n__law_bag p__law_bag (defScope s__law_bag) := ⟨rfl, rfl, rfl, by decide +kernel, rfl, by decide +kernel, by decide +kernel⟩
abbrev s__law_draw : Stmt := topS 5
abbrev n__law_draw : List Str := ["_law_bag_here", "_law_many", "_law_left"]
abbrev p__law_draw : List Str := ["_law_bag_here", "_law_many"]
theorem sc__law_draw : FnScope n__law_draw p__law_draw (defScope s__law_draw) := ⟨rfl, rfl, rfl, by decide +kernel, rfl, by decide +kernel, by decide +kernel⟩
abbrev s__law_number : Stmt := topS 6
abbrev n__law_number : List Str := ["_law_bag_here", "_law_great"]
abbrev p__law_number : List Str := ["_law_bag_here", "_law_great"]
theorem sc__law_number : FnScope n__law_number p__law_number (defScope s__law_number) := ⟨rfl, rfl, rfl, by decide +kernel, rfl, by decide +kernel, by decide +kernel⟩
abbrev s__law_row : Stmt := topS 7
abbrev n__law_row : List Str := ["_law_bag_here", "_law_count", "_law_low", "_law_high", "_law_k"]
abbrev p__law_row : List Str := ["_law_bag_here", "_law_count"]
theorem sc__law_row : FnScope n__law_row p__law_row (defScope s__law_row) := ⟨rfl, rfl, rfl, by decide +kernel, rfl, by decide +kernel, by decide +kernel⟩
abbrev s__law_past : Stmt := topS 8
abbrev n__law_past : List Str := ["_law_bag_here", "_law_most", "_law_size", "_law_turn", "_law_past_here", "_law_guess", "_law_now", "_law_told_now", "_law_pick", "_law_there", "_law_person", "_law_one", "_law_other", "_law_by", "_law_row_here", "_law_k"]
abbrev p__law_past : List Str := ["_law_bag_here", "_law_most"]
theorem sc__law_past : FnScope n__law_past p__law_past (defScope s__law_past) := ⟨rfl, rfl, rfl, by decide +kernel, rfl, by decide +kernel, by decide +kernel⟩
abbrev s__law_otherwise : Stmt := topS 9
abbrev n__law_otherwise : List Str := ["_law_bag_here", "_law_past_here", "_law_far", "_law_deed", "_law_pick", "_law_new", "_law_at", "_law_to", "_law_left", "_law_far_row", "_law_weight"]
abbrev p__law_otherwise : List Str := ["_law_bag_here", "_law_past_here"]
theorem sc__law_otherwise : FnScope n__law_otherwise p__law_otherwise (defScope s__law_otherwise) := ⟨rfl, rfl, rfl, by decide +kernel, rfl, by decide +kernel, by decide +kernel⟩
abbrev s__law_within : Stmt := topS 10
abbrev n__law_within : List Str := ["_law_past_here", "_law_words", "_law_hidden", "_law_deed"]
abbrev p__law_within : List Str := ["_law_past_here"]
theorem sc__law_within : FnScope n__law_within p__law_within (defScope s__law_within) := ⟨rfl, rfl, rfl, by decide +kernel, rfl, by decide +kernel, by decide +kernel⟩
abbrev s__law_due : Stmt := topS 11
abbrev n__law_due : List Str := ["_law_past_here", "_law_count", "_law_k", "_law_deed", "_law_named"]
abbrev p__law_due : List Str := ["_law_past_here"]
theorem sc__law_due : FnScope n__law_due p__law_due (defScope s__law_due) := ⟨rfl, rfl, rfl, by decide +kernel, rfl, by decide +kernel, by decide +kernel⟩
abbrev s__law_alike : Stmt := topS 12
abbrev n__law_alike : List Str := ["_law_found", "_law_due_here"]
abbrev p__law_alike : List Str := ["_law_found", "_law_due_here"]
theorem sc__law_alike : FnScope n__law_alike p__law_alike (defScope s__law_alike) := ⟨rfl, rfl, rfl, by decide +kernel, rfl, by decide +kernel, by decide +kernel⟩
abbrev s_law : Stmt := topS 13
abbrev n_law : List Str := ["_law_script", "_law_bag_here", "_law_turn", "_law_past_here", "_law_again", "_law_kept", "_law_due_here", "_law_k", "_law_other"]
abbrev p_law : List Str := ["_law_script"]
theorem sc_law : FnScope n_law p_law (defScope s_law) := ⟨rfl, rfl, rfl, by decide +kernel, rfl, by decide +kernel, by decide +kernel⟩
/-! ### the bag of draws -/
structure Bag where
  l : Addr
  ds : List Int
  i : Nat
  seed : Int
  cnt : Int
def bagL (g : Bag) : List R := [.v (.ref g.l), T (g.i : Int), T g.seed, T g.cnt]
def bagM (b : Addr) (g : Bag) : Mem := [(b, .lst (bagL g)), (g.l, .lst (g.ds.map T))]
structure Bag.Ok (g : Bag) (c : Nat) : Prop where
  d : ∀ x ∈ g.ds, 0 ≤ x ∧ x.natAbs < 2 ^ 2000
  l : g.ds.length ≤ 60
  i : g.i ≤ g.ds.length
  s : 0 ≤ g.seed ∧ g.seed < 2305843009213693951
  k : 0 ≤ g.cnt ∧ g.cnt ≤ c
  m : c ≤ 100000000
theorem Bag.Ok.up {g : Bag} {c m : Nat} (h : g.Ok c) (l : c ≤ m) (hm : m ≤ 100000000) : g.Ok m := ⟨h.d, h.l, h.i, h.s, ⟨h.k.1, by have := h.k.2; omega⟩, hm⟩
/-- small enough to divide by -/
def Fits (n : Int) : Prop := n.natAbs < 2 ^ 8999
def WBag : Wp := fun rs M Q => ∃ ns : List Int, rs = [.s ns] ∧ ∀ b g, g.Ok 0 → Q (.v (.ref b)) (bagM b g ++ M)
def WDraw : Wp := fun rs M Q => ∃ (b : Addr) (g : Bag) (c : Nat) (n : Int) (Z : Mem), rs = [.v (.ref b), T n] ∧ M = bagM b g ++ Z ∧ g.Ok c ∧ c < 100000000 ∧ 0 < n ∧ Fits n ∧ ∀ (v : Int) g', 0 ≤ v → v < n → g'.Ok (c + 1) → Q (T v) (bagM b g' ++ Z)
theorem cm_small {i j : Int} {m n : Nat} (h1 : i.natAbs < 2 ^ (m + 1)) (h2 : j.natAbs < 2 ^ (n + 1)) (h : m + n ≤ 900000) : CMulW i j := wide_mul h1 h2 (Nat.succ_pos _) (Nat.succ_pos _) (by omega)
theorem noPy {n : Int} (h0 : 0 < n) (h : Fits n) : n.natAbs.log2 < 9000 := by
  have := (Nat.log2_lt (show n.natAbs ≠ 0 by omega)).mpr h
  omega
theorem cut60 (ns : List Int) : cut ns none (some 60) = ns.take 60 := by
  unfold cut
  rw [HT.sIx_none, show HT.sIx ns.length ns.length (some 60) = min 60 ns.length from HT.sIx_nat ns.length ns.length 60]
  simp only [List.drop_zero, Nat.sub_zero]
  by_cases h : 60 ≤ ns.length
  · rw [Nat.min_eq_left h]
  · rw [Nat.min_eq_right (by omega), List.take_of_length_le (by omega : ns.length ≤ 60), List.take_of_length_le (Nat.le_refl _)]
theorem bagM_at (b : Addr) (g : Bag) (Z : Mem) : bagM b g ++ Z = [] ++ (b, .lst (bagL g)) :: ((g.l, .lst (g.ds.map T)) :: Z) := rfl
theorem bagM_in (b : Addr) (g : Bag) (Z : Mem) : (b, Cell.lst (bagL g)) ∈ bagM b g ++ Z := List.mem_cons_self
theorem bagM_in2 (b : Addr) (g : Bag) (Z : Mem) : (g.l, Cell.lst (g.ds.map T)) ∈ bagM b g ++ Z := List.mem_cons_of_mem _ List.mem_cons_self
theorem atI_getD {α : Type} {xs : List α} {i : Nat} {d : α} (h : i < xs.length) : atI xs (i : Int) = some (xs.getD i d) := by
  refine atI_nat ?_
  rw [List.getD_eq_getElem?_getD]
  simp [h]
theorem atI_mapD {α : Type} [TD α] {xs : List α} {i : Nat} {d : α} (h : i < xs.length) : atI (xs.map T) (i : Int) = some (T (xs.getD i d)) := by
  rw [atI_map, atI_getD h]; rfl
theorem atI_toNat {α : Type} {xs : List α} {i : Int} {d : α} (h0 : 0 ≤ i) (h : i < (xs.length : Int)) : atI xs i = some (xs.getD i.toNat d) := by
  obtain ⟨k, rfl⟩ : ∃ k : Nat, i = (k : Int) := ⟨i.toNat, by omega⟩
  exact atI_getD (by omega)
theorem atI_last {xs : List R} {r : R} : atI (xs ++ [r]) (-1) = some r := by
  unfold atI ixN
  rw [if_neg (by decide), List.length_append]
  simp only [List.length_singleton]
  rw [if_pos (by omega), show ((-1 : Int) + ((xs.length + 1 : Nat) : Int)).toNat = xs.length by omega]
  simp
theorem ixN_nat {n i : Nat} (h : i < n) : ixN n (i : Int) = some i := by
  unfold ixN
  rw [if_pos (by omega), if_pos (by omega), Int.toNat_natCast]
theorem getD_mem {α : Type} {xs : List α} {i : Nat} {d : α} (h : i < xs.length) : xs.getD i d ∈ xs := by
  rw [List.getD_eq_getElem?_getD]; simp [h]
section
variable {X : Cx} {ds : List R} {b : Addr} {g : Bag} {Z : Mem} {e : Expr} {pos p1 : Pos} {j : Nat}
theorem bag_ix {r : R} (k : Int) (n : Nat) (h : DX X e ds (bagM b g ++ Z) (.v (.ref b)) (bagM b g ++ Z)) (hk : ixN 4 k = some n) (hr : (bagL g)[n]? = some r) : DX X (.Subscript e (.Constant (.int k) j p1) pos) ds (bagM b g ++ Z) r (bagM b g ++ Z) :=
  dx_ixL h dx_int (.cl (bagM_in ..)) (by unfold atI; rw [show (bagL g).length = 4 from rfl, hk]; exact hr)
theorem bag_set {r : R} {Q : List R → Mem → Prop} {g' : Bag} (k : Int) (n : Nat) (h : DX X e ds (bagM b g ++ Z) (.v (.ref b)) (bagM b g ++ Z)) (hk : ixN 4 k = some n) (hz : bagM b g' ++ Z = (b, .lst ((bagL g).set n r)) :: ((g.l, .lst (g.ds.map T)) :: Z)) (q : Q ds (bagM b g' ++ Z)) : GX X (.Subscript e (.Constant (.int k) j p1) pos) r ds (bagM b g ++ Z) Q :=
  gx_subL (h _ (dx_int _ ⟨[], _, b, _, k, n, rfl, rfl, rfl, hk, by rw [hz] at q; exact q⟩))
end
section
variable {P : Program} {w : World} {K : PySem.W.Frag} {mg : Str → Option Value} {base : Heap}
theorem ok_bag (B : Bt mg) (a : At K mg "_law_bag" s__law_bag) : Fx P w K mg base 1 "_law_bag" s__law_bag p__law_bag WBag := by
  refine fx_of a sc__law_bag (fun rs M Q h => ?_) (fun _ _ _ _ _ _ us hl => match us, hl with | [_], _ => rfl) fun f cd A fr s G Z rs M Q hg hr h => ?_
  · obtain ⟨_, rfl, _⟩ := h; rfl
  obtain ⟨ns, rfl, q⟩ := h
  refine bx_setD 1 sc__law_bag.nd dx_int ?_
  refine bx_forT (cut ns none (some 60)) T (fun s : Int => [.s ns, T s, .no]) (fun _ s M' => 0 ≤ s ∧ s < 2305843009213693951 ∧ M' = M) rfl PassesOwn.never (ix_listT (dx_slS (dx_var 0) do_none (do_some dx_int)) ⟨rfl, fun _ _ _ _ => trivial, ⟨_, (by refine ⟨?_, ?_, ?_, trivial⟩ <;> first | exact .inr rfl | exact .inl rfl), by decide, by decide, rfl⟩, fun i x s M' hx ⟨h1, h2, e⟩ => ?_, fun s M' ⟨h1, h2, e⟩ => ?_⟩)
  · subst e
    refine gx_name 2 sc__law_bag.nd ?_
    refine bx_setD 1 sc__law_bag.nd (dx_mod ?_ (dx_add (dx_add (dx_mulR (by decide) (dx_var 1) dx_int) (dx_mod (by decide) (dx_var 2) dx_int)) dx_int) (dx_sub (dx_pow ⟨by decide, by decide, by decide⟩ dx_int dx_int) dx_int)) ?_
    · decide
    exact bx_nil ⟨_, (by refine ⟨?_, ?_, ?_, trivial⟩ <;> first | exact .inr rfl | exact .inl rfl), Int.emod_nonneg _ (by decide), Int.emod_lt_of_pos _ (by decide), rfl⟩
  · subst e
    have m0 : (0 : Int) < ((10 : Int) ^ (60 : Int).toNat) ^ (10 : Int).toNat := by decide +kernel
    have m1 : (((10 : Int) ^ (60 : Int).toNat) ^ (10 : Int).toNat).natAbs < 2 ^ 2000 := by decide +kernel
    refine bx_ret (ex_lstC (ax_cons (ex_lcM (own := [("_law_cell", 2)]) (g := gName 2) (xs := cut ns none (some 60)) (φ := T) (f := fun x => (if x < 0 then -x else x) % ((10 : Int) ^ (60 : Int).toNat) ^ (10 : Int).toNat) rfl sc__law_bag.nd (blkOk_by (N := n__law_bag) (sc := defScope s__law_bag) (by decide +kernel)) (fun _ _ _ _ _ => (pg_name (i := 2) sc__law_bag.nd rfl (by first | exact Or.inl rfl | exact Or.inr rfl))) (ix_listT (dx_slS (dx_var 0) do_none (do_some dx_int)) ⟨rfl, trivial, ?_, fun x hx => ⟨_, tgS_name (by decide), fun _ _ _ _ _ => dx_mod m0 (dx_abs B.abs (dx_var 2)) (dx_powW ⟨by decide, by decide +kernel⟩ (dx_pow ⟨by decide, by decide, by decide⟩ dx_int dx_int) dx_int)⟩, .inr ⟨[], M', rfl, fun l => ?_⟩⟩))))
    · rw [cut60, List.length_take]
      exact Nat.le_trans (Nat.min_le_left ..) (small64 (by decide))
    · refine ax_cons (dx_int _ (ax_cons ((dx_var 1) _ (ax_cons (dx_int _ (ax_nil ⟨small64 (show 4 < 64 by decide), [], _, rfl, fun b => q b ⟨l, _, 0, s, 0⟩ ⟨fun d hd => ?_, ?_, Nat.zero_le _, ⟨h1, h2⟩, ⟨Int.le_refl 0, Int.le_refl 0⟩, by decide⟩⟩))))))
      · obtain ⟨x, hx, e⟩ := List.mem_map.mp hd
        have e : (if x < 0 then -x else x) % ((10 : Int) ^ (60 : Int).toNat) ^ (10 : Int).toNat = d := e
        have h1 := Int.emod_nonneg (if x < 0 then -x else x) (Int.ne_of_gt m0)
        have h2 := Int.emod_lt_of_pos (if x < 0 then -x else x) m0
        rw [e] at h1 h2
        exact ⟨h1, by omega⟩
      · show ((cut ns none (some 60)).map _).length ≤ 60
        rw [List.length_map, cut60, List.length_take]
        exact Nat.min_le_left ..
theorem ok_draw (B : Bt mg) (a : At K mg "_law_draw" s__law_draw) : Fx P w K mg base 1 "_law_draw" s__law_draw p__law_draw WDraw := by
  refine fx_of a sc__law_draw (fun rs M Q h => ?_) (fun _ _ _ _ _ _ us hl => match us, hl with | [_, _], _ => rfl) fun f cd A fr s G Z rs M Q hg hr h => ?_
  · obtain ⟨_, _, _, _, _, rfl, _⟩ := h; rfl
  obtain ⟨b, g, c, n, W, rfl, rfl, ok, hc, n0, n1, q⟩ := h
  refine bx_whileT (fun g : Bag => [.v (.ref b), T n, .no]) (fun g M => M = bagM b g ++ W ∧ g.Ok c) (fun g => g.ds.length - g.i) g PassesOwn.never (by refine ⟨?_, ?_, ?_, trivial⟩ <;> first | exact .inr rfl | exact .inl rfl) ⟨rfl, ok⟩ fun g M ⟨e, ok⟩ => ?_
  subst e
  refine (dt_w (dw_and (dt_lt (bag_ix 1 1 (dx_var 0) rfl rfl) (dx_lenL B.len (bag_ix 0 0 (dx_var 0) rfl rfl) (.cl (bagM_in2 ..)))) fun h => dw_and1 (dt_eq (α := Int) (x := g.ds.getD g.i 0) (y := 0) hr (dx_ixL (rs := g.ds.map T) (bag_ix 0 0 (dx_var 0) rfl rfl) (bag_ix 1 1 (dx_var 0) rfl rfl) (.cl (bagM_in2 ..)) (atI_mapD (by have := of_decide_eq_true h; rw [List.length_map] at this; omega))) dx_int (.d _) (.d _)))) _ ?_
  split
  case isTrue hk =>
    rw [Bool.and_eq_true, decide_eq_true_eq, decide_eq_true_eq, List.length_map] at hk
    obtain ⟨hk, hk2⟩ := hk
    refine bx_asg (dx_add (bag_ix 1 1 (dx_var 0) rfl rfl) dx_int _ (bag_set (g' := ⟨g.l, g.ds, g.i + 1, g.seed, g.cnt⟩) 1 1 (dx_var 0) rfl rfl ?_))
    exact bx_nil ⟨_, (by refine ⟨?_, ?_, ?_, trivial⟩ <;> first | exact .inr rfl | exact .inl rfl), by show g.ds.length - (g.i + 1) < g.ds.length - g.i; omega, rfl, ⟨ok.d, ok.l, by show g.i + 1 ≤ g.ds.length; omega, ok.s, ok.k, ok.m⟩⟩
  case isFalse hk =>
    refine bx_ifD (dt_lt (bag_ix 1 1 (dx_var 0) rfl rfl) (dx_lenL B.len (bag_ix 0 0 (dx_var 0) rfl rfl) (.cl (bagM_in2 ..)))) (fun h => ?_) fun h => ?_
    · have h := of_decide_eq_true h
      rw [List.length_map] at h
      have hi : g.i < g.ds.length := by omega
      refine bx_setD 2 sc__law_draw.nd (dx_ixL (rs := g.ds.map T) (bag_ix 0 0 (dx_var 0) rfl rfl) (bag_ix 1 1 (dx_var 0) rfl rfl) (.cl (bagM_in2 ..)) (atI_mapD (d := 0) hi)) ?_
      have hd := ok.d _ (getD_mem (d := 0) hi)
      generalize g.ds.getD g.i 0 = d at hd
      refine bx_asg (dx_fdiv (i := d) (j := n) ⟨n0, noPy n0 n1⟩ (dx_var 2) (dx_var 1) _ ?_)
      refine gx_subL (bag_ix 0 0 (dx_var 0) rfl rfl _ (bag_ix 1 1 (dx_var 0) rfl rfl _ ⟨[(b, .lst (bagL g))], W, g.l, g.ds.map T, g.i, g.i, rfl, rfl, rfl, ixN_nat (by rw [List.length_map]; exact hi), ?_⟩))
      refine bx_retD (dx_mod n0 (dx_var 2) (dx_var 1)) ?_
      have e : (g.ds.map T).set g.i (T (d / n)) = (g.ds.set g.i (d / n)).map T := (List.map_set ..).symm
      rw [e]
      refine q _ ⟨g.l, g.ds.set g.i (d / n), g.i, g.seed, g.cnt⟩ (Int.emod_nonneg _ (by omega)) (Int.emod_lt_of_pos _ n0) ⟨fun x hx => ?_, by show (g.ds.set _ _).length ≤ 60; rw [List.length_set]; exact ok.l, by show g.i ≤ (g.ds.set _ _).length; rw [List.length_set]; exact ok.i, ok.s, ⟨ok.k.1, by have := ok.k.2; show g.cnt ≤ _; omega⟩, hc⟩
      rcases List.mem_or_eq_of_mem_set hx with hx | hx
      · exact ok.d x hx
      · subst hx
        have h0 := Int.ediv_nonneg hd.1 (Int.le_of_lt n0)
        have h1 := Int.ediv_le_self n hd.1
        exact ⟨h0, by omega⟩
    · refine bx_nil ?_
      have c0 := ok.k.1
      have c1 := ok.k.2
      have cm := ok.m
      have s0 := ok.s.1
      have s1 := ok.s.2
      refine bx_asg (dx_add (bag_ix 3 3 (dx_var 0) rfl rfl) dx_int _ (bag_set (g' := ⟨g.l, g.ds, g.i, g.seed, g.cnt + 1⟩) 3 3 (dx_var 0) rfl rfl ?_))
      refine bx_asg (dx_mod (by decide) (dx_add (dx_add (dx_add (dx_pow ⟨by decide, by decide, by omega⟩ (bag_ix (g := ⟨g.l, g.ds, g.i, g.seed, g.cnt + 1⟩) (r := T g.seed) 2 2 (dx_var 0) rfl rfl) dx_int) (dx_mulL (by decide) dx_int (bag_ix (g := ⟨g.l, g.ds, g.i, g.seed, g.cnt + 1⟩) (r := T g.seed) 2 2 (dx_var 0) rfl rfl))) (dx_mulL (by decide) dx_int (bag_ix (g := ⟨g.l, g.ds, g.i, g.seed, g.cnt + 1⟩) (r := T (g.cnt + 1)) 3 3 (dx_var 0) rfl rfl))) dx_int) (dx_sub (dx_pow ⟨by decide, by decide, by decide⟩ dx_int dx_int) dx_int) _ (bag_set (g' := ⟨g.l, g.ds, g.i, (g.seed ^ (3 : Int).toNat + 48271 * g.seed + 2039 * (g.cnt + 1) + 7) % (2 ^ (61 : Int).toNat - 1), g.cnt + 1⟩) 2 2 (dx_var 0) rfl rfl ?_))
      generalize hs : (g.seed ^ (3 : Int).toNat + 48271 * g.seed + 2039 * (g.cnt + 1) + 7) % (2 ^ (61 : Int).toNat - 1) = sd
      refine bx_retD (dx_mod n0 (dx_fdiv ⟨by decide, by decide +kernel⟩ (bag_ix (g := ⟨g.l, g.ds, g.i, sd, g.cnt + 1⟩) (r := T sd) 2 2 (dx_var 0) rfl rfl) dx_int) (dx_var 1)) (q _ _ (Int.emod_nonneg _ (by omega)) (Int.emod_lt_of_pos _ n0) ⟨ok.d, ok.l, ok.i, ⟨?_, ?_⟩, ⟨by show 0 ≤ g.cnt + 1; omega, by show g.cnt + 1 ≤ _; omega⟩, hc⟩)
      · rw [← hs]; exact Int.emod_nonneg _ (by decide)
      · rw [← hs]; exact Int.emod_lt_of_pos _ (by decide)
end
end K01
namespace K01
open PySem PySem.Spec PyProof.Rows L2 Hq
/-! ### numbers, rows -/
theorem fits10 {n : Int} (h : n.natAbs < 1024) : Fits n := Nat.lt_of_lt_of_le (show n.natAbs < 2 ^ 10 from h) (Nat.pow_le_pow_right (by decide) (by decide))
section
variable {X : Cx} {e1 e2 : Expr} {ds : List R} {Q : R → Mem → Prop} {k : Nat} {pos pp : Pos}
theorem drE (G : Fx X.prog X.w X.K X.mg X.base k "_law_draw" s__law_draw p__law_draw WDraw) (hg : X.A.guards = some []) (hr : Room k X.A) {b : Addr} {g : Bag} {Z : Mem} (h1 : DX X e1 ds (bagM b g ++ Z) (.v (.ref b)) (bagM b g ++ Z))
    (h2 : EX X e2 ds (bagM b g ++ Z) fun r M => ∃ (n : Int) (g' : Bag) (c' : Nat), r = T n ∧ M = bagM b g' ++ Z ∧ g'.Ok c' ∧ c' < 100000000 ∧ 0 < n ∧ Fits n ∧ ∀ (v : Int) g2, 0 ≤ v → v < n → g2.Ok (c' + 1) → Q (T v) (bagM b g2 ++ Z)) (gl : Gl X "_law_draw" := by rfl) (he : starEach [e1, e2] X.env = (false, eval e1 X.env) :: starEach [e2] X.env := by exact st_any rfl) (he2 : starEach [e2] X.env = (false, eval e2 X.env) :: starEach [] X.env := by exact st_any rfl)
    (hpl : (backTo pos (starEach [e2] X.env)).any (·.1) = false := by rfl) : EX X (.Call (.Name "_law_draw" pp) [e1, e2] [] pos) ds (bagM b g ++ Z) Q :=
  ex_call G hg hr (ax_cons (h1 _ (ax_cons (h2.mono fun r M ⟨n, g', c', e1, e2, ok, hc, n0, n1, q⟩ => by subst e1 e2; exact ax_nil ⟨b, g', c', n, Z, rfl, rfl, ok, hc, n0, n1, q⟩) he2)) he) gl (he := he) (hpl := hpl)
theorem dr (G : Fx X.prog X.w X.K X.mg X.base k "_law_draw" s__law_draw p__law_draw WDraw) (hg : X.A.guards = some []) (hr : Room k X.A) {b : Addr} {g : Bag} {Z : Mem} {c : Nat} {n : Int} (h1 : DX X e1 ds (bagM b g ++ Z) (.v (.ref b)) (bagM b g ++ Z)) (h2 : DX X e2 ds (bagM b g ++ Z) (T n) (bagM b g ++ Z))
    (ok : g.Ok c) (hc : c < 100000000) (n0 : 0 < n) (n1 : Fits n) (q : ∀ (v : Int) g', 0 ≤ v → v < n → g'.Ok (c + 1) → Q (T v) (bagM b g' ++ Z)) (gl : Gl X "_law_draw" := by rfl) (he : starEach [e1, e2] X.env = (false, eval e1 X.env) :: starEach [e2] X.env := by exact st_any rfl) (he2 : starEach [e2] X.env = (false, eval e2 X.env) :: starEach [] X.env := by exact st_any rfl)
    (hpl : (backTo pos (starEach [e2] X.env)).any (·.1) = false := by rfl) : EX X (.Call (.Name "_law_draw" pp) [e1, e2] [] pos) ds (bagM b g ++ Z) Q :=
  drE G hg hr h1 (h2 _ ⟨n, g, c, rfl, rfl, ok, hc, n0, n1, q⟩) gl he he2 hpl
end
/-- a number of the histories -/
def Sml (n : Int) : Prop := n.natAbs < 2 ^ 700
def WNumber : Wp := fun rs M Q => ∃ (b : Addr) (g : Bag) (c : Nat) (n : Int) (Z : Mem), rs = [.v (.ref b), T n] ∧ M = bagM b g ++ Z ∧ g.Ok c ∧ c + 3 < 100000000 ∧ 0 < n ∧ Sml n ∧ ∀ (v : Int) g', Sml v → g'.Ok (c + 3) → Q (T v) (bagM b g' ++ Z)
def RowOk (row : List Int) : Prop := ∀ x ∈ row, -99 ≤ x ∧ x ≤ 99
def WRowD : Wp := fun rs M Q => ∃ (b : Addr) (g : Bag) (c n : Nat) (Z : Mem), rs = [.v (.ref b), T (n : Int)] ∧ M = bagM b g ++ Z ∧ g.Ok c ∧ n ≤ 1000 ∧ c + n + 1 < 100000000 ∧ ∀ (row : List Int) g', row.length = n → RowOk row → g'.Ok (c + n + 1) → Q (T row) (bagM b g' ++ Z)
theorem fits700 {n : Int} (h : Sml n) : Fits n := Nat.lt_of_lt_of_le h (Nat.pow_le_pow_right (by decide) (by decide))
section
variable {P : Program} {w : World} {K : PySem.W.Frag} {mg : Str → Option Value} {base : Heap}
theorem ok_number (a : At K mg "_law_number" s__law_number) (GD : Fx P w K mg base 1 "_law_draw" s__law_draw p__law_draw WDraw) : Fx P w K mg base 2 "_law_number" s__law_number p__law_number WNumber := by
  refine fx_of a sc__law_number (fun rs M Q h => ?_) (fun _ _ _ _ _ _ us hl => match us, hl with | [_, _], _ => rfl) fun f cd A fr s G Z rs M Q hg hr h => ?_
  · obtain ⟨_, _, _, _, _, rfl, _⟩ := h; rfl
  obtain ⟨b, g, c, n, W, rfl, rfl, ok, hc, n0, n1, q⟩ := h
  refine bx_ret (ex_mul (drE GD hg hr (dx_var 0) (ex_ixL ((dx_lst (da_cons dx_int (da_cons dx_int (da_cons dx_int (da_cons (dx_var 1) da_nil))))) _ (dr GD hg hr (dx_var 0) dx_int ok (by omega) (by decide) (fits10 (by decide)) fun v g1 h0 h1 ok1 => ?_)))))
  obtain ⟨m, hm, m0, m1, m2⟩ : ∃ m : Int, atI [T (9 : Int), T (9 : Int), T (200 : Int), T n] v = some (T m) ∧ 0 < m ∧ Fits m ∧ (m ≤ 200 ∨ m = n) := by
    have h4 : v = 0 ∨ v = 1 ∨ v = 2 ∨ v = 3 := by omega
    rcases h4 with rfl | rfl | rfl | rfl
    · exact ⟨9, rfl, by decide, fits10 (by decide), .inl (by decide)⟩
    · exact ⟨9, rfl, by decide, fits10 (by decide), .inl (by decide)⟩
    · exact ⟨200, rfl, by decide, fits10 (by decide), .inl (by decide)⟩
    · exact ⟨n, rfl, n0, fits700 n1, .inr rfl⟩
  refine ⟨_, v, T m, .fz _, rfl, hm, m, g1, c + 1, rfl, rfl, ok1, by omega, m0, m1, fun x g2 x0 x1 ok2 => ⟨x, rfl, ex_ixL ((dx_lst (da_cons dx_int (da_cons (dx_neg dx_int) da_nil))) _ (dr GD hg hr (dx_var 0) dx_int ok2 (by omega) (by decide) (fits10 (by decide)) fun u g3 u0 u1 ok3 => ?_))⟩⟩
  have xb : Sml x := by
    rcases m2 with m2 | m2
    · have hx : x.natAbs < 2 ^ 10 := by
        omega
      exact Nat.lt_of_lt_of_le hx (Nat.pow_le_pow_right (by decide) (by decide))
    · have hx : x.natAbs < n.natAbs := by
        subst m2
        omega
      exact Nat.lt_trans hx n1
  have xc : x.natAbs < 2 ^ (700 + 1) := Nat.lt_trans xb (Nat.pow_lt_pow_right (by decide) (by decide))
  have h2 : u = 0 ∨ u = 1 := by omega
  rcases h2 with rfl | rfl
  · exact ⟨_, 0, _, .fz _, rfl, rfl, 1, rfl, cm_small (m := 700) (n := 1) xc (by decide) (by decide), q _ g3 (by rw [Int.mul_one]; exact xb) ok3⟩
  · exact ⟨_, 1, _, .fz _, rfl, rfl, -1, rfl, cm_small (m := 700) (n := 1) xc (by decide) (by decide), q _ g3 (show (x * -1).natAbs < 2 ^ 700 by rw [Int.natAbs_mul]; simpa using show x.natAbs < 2 ^ 700 from xb) ok3⟩
theorem ok_rowD (B : Bt mg) (a : At K mg "_law_row" s__law_row) (GD : Fx P w K mg base 1 "_law_draw" s__law_draw p__law_draw WDraw) : Fx P w K mg base 2 "_law_row" s__law_row p__law_row WRowD := by
  refine fx_of a sc__law_row (fun rs M Q h => ?_) (fun _ _ _ _ _ _ us hl => match us, hl with | [_, _], _ => rfl) fun f cd A fr s G Z rs M Q hg hr h => ?_
  · obtain ⟨_, _, _, _, _, rfl, _⟩ := h; rfl
  obtain ⟨b, g, c, n, W, rfl, rfl, ok, n1, hc, q⟩ := h
  refine bx_asg ?_
  refine ex_ixL ?_
  refine go (dx_lst (da_cons (dx_tup (da_cons dx_int (da_cons dx_int da_nil))) (da_cons (dx_tup (da_cons dx_int (da_cons dx_int da_nil))) (da_cons (dx_tup (da_cons (dx_neg dx_int) (da_cons dx_int da_nil))) (da_cons (dx_tup (da_cons (dx_neg dx_int) (da_cons dx_int da_nil))) da_nil))))) ?_
  refine dr GD hg hr (dx_var 0) dx_int ok (by omega) (by decide) (fits10 (by decide)) fun v g1 h0 h1 ok1 => ?_
  obtain ⟨lo, hi, hm, l1, l2, l3⟩ : ∃ lo hi : Int, atI [R.d (.tuple [.int 0, .int 1]), .d (.tuple [.int 0, .int 1]), .d (.tuple [.int (-3), .int 3]), .d (.tuple [.int (-99), .int 99])] v = some (.d (.tuple [td lo, td hi])) ∧ -99 ≤ lo ∧ lo ≤ hi ∧ hi ≤ 99 := by
    have h4 : v = 0 ∨ v = 1 ∨ v = 2 ∨ v = 3 := by omega
    rcases h4 with rfl | rfl | rfl | rfl
    · exact ⟨0, 1, rfl, by decide, by decide, by decide⟩
    · exact ⟨0, 1, rfl, by decide, by decide, by decide⟩
    · exact ⟨-3, 3, rfl, by decide, by decide, by decide⟩
    · exact ⟨-99, 99, rfl, by decide, by decide, by decide⟩
  refine ⟨_, v, _, .fz _, rfl, hm, gx_tup rfl (.fz [td lo, td hi]) (gsx_cons (gx_name 2 sc__law_row.nd (gsx_cons (gx_name 3 sc__law_row.nd (gsx_nil ?_)))))⟩
  refine bx_ret (ex_lcR (own := [("_law_k", 4)]) (g := gName 4) (xs := List.range n) (φ := fun (i : Nat) => T (i : Int)) (J := fun i (ys : List Int) M => ∃ g', M = bagM b g' ++ W ∧ g'.Ok (c + 1 + i) ∧ RowOk ys) rfl sc__law_row.nd (blkOk_by (N := n__law_row) (sc := defScope s__law_row) (by decide +kernel)) (fun _ _ _ _ _ => (pg_name (i := 4) sc__law_row.nd rfl (by first | exact Or.inl rfl | exact Or.inr rfl))) (ix_rangeD B.range (dx_var 1) (by omega) (by omega) ⟨rfl, fun _ _ _ _ => trivial, by rw [List.length_range]; exact Nat.le_of_lt (small1000 n1), ⟨g1, rfl, ok1, fun _ h => (nomatch h)⟩, fun i x ys M hx hy ⟨g', e, ok', hys⟩ => ⟨_, tgS_name (by decide), fun _ _ _ _ _ => ?_⟩, fun ys M hy ⟨g', e, ok', hys⟩ => .inl ?_⟩))
  · subst e
    have hi : i < n := by
      have := (List.getElem?_eq_some_iff.mp hx).1
      rwa [List.length_range] at this
    exact ex_add ((dx_var 2) _ ⟨lo, rfl, dr GD (by exact hg) (by exact hr) (dx_var 0) (dx_add (dx_sub (dx_var 3) (dx_var 2)) dx_int) ok' (by omega) (by omega) (fits10 (by omega)) fun v g'' v0 v1 ok2 => ⟨v, rfl, lo + v, rfl, g'', rfl, ok2, fun y hy => (List.mem_append.mp hy).elim (hys y) fun z => by rw [List.mem_singleton.mp z]; omega⟩⟩)
  · subst e
    rw [List.length_range] at hy ok'
    exact q ys g' hy hys (ok'.up (by omega) (by omega))
end
end K01
namespace K01
open PySem PySem.Spec PyProof.Rows L2 Hq
/-! ### histories -/
inductive Deed where
  | come
  | stir (p : Int)
  | pay (a b : Int)
  | gift (p n : Int)
  | tell (row : List Int) (n : Int)
deriving DecidableEq
def Deed.d : Deed → PyData
  | .come => .tuple [.str "come"]
  | .stir p => .tuple [.str "stir", .int p]
  | .pay a b => .tuple [.str "pay", .int a, .int b]
  | .gift p n => .tuple [.str "gift", .int p, .int n]
  | .tell row n => .tuple [.str "tell", td row, .int n]
instance : TD Deed := ⟨Deed.d⟩
def dotI (row now : List Int) (n : Nat) : Int := ((List.range n).map fun k => row.getD k 0 * now.getD k 0).sum
/-- what the drawn histories are: deeds, unsaid numbers, numbers now, tellings -/
inductive Past : List Deed → List Int → List Int → Nat → Prop
  | nil : Past [] [] [] 0
  | come {ps gs ns t} (g : Int) : Past ps gs ns t → ns.length < 10 → Sml g → Past (ps ++ [.come]) (gs ++ [g]) (ns ++ [g]) t
  | stir {ps gs ns t} (g : Int) (p : Nat) : Past ps gs ns t → p < ns.length → Sml g → Past (ps ++ [.stir p]) (gs ++ [g]) (ns.set p (ns.getD p 0 + g)) t
  | pay {ps gs ns t} (g : Int) (a b : Nat) : Past ps gs ns t → a < ns.length → b < ns.length → a ≠ b → Sml g → Past (ps ++ [.pay a b]) (gs ++ [g]) ((ns.set a (ns.getD a 0 - g)).set b (ns.getD b 0 + g)) t
  | gift {ps gs ns t} (g : Int) (p : Nat) : Past ps gs ns t → p < ns.length → Sml g → Past (ps ++ [.gift p g]) gs (ns.set p (ns.getD p 0 + g)) t
  | tell {ps gs ns t} (row : List Int) : Past ps gs ns t → row.length = ns.length → RowOk row → t < 24 → Past (ps ++ [.tell row (dotI row ns ns.length)]) gs ns (t + 1)
theorem Past.len {ps gs ns t} (h : Past ps gs ns t) : ns.length ≤ 10 := by
  induction h with
  | nil => decide
  | come _ _ h1 _ _ => rw [List.length_append]; simp; omega
  | stir _ _ _ _ _ ih => rw [List.length_set]; exact ih
  | pay _ _ _ _ _ _ _ _ ih => rw [List.length_set, List.length_set]; exact ih
  | gift _ _ _ _ _ ih => rw [List.length_set]; exact ih
  | tell _ _ _ _ _ ih => exact ih
theorem Past.glen {ps gs ns t} (h : Past ps gs ns t) : gs.length ≤ ps.length := by
  induction h with
  | nil => decide
  | come _ _ _ _ ih => simp; exact ih
  | stir _ _ _ _ _ ih => simp; exact ih
  | pay _ _ _ _ _ _ _ _ ih => simp; exact ih
  | gift _ _ _ _ _ ih => simp; omega
  | tell _ _ _ _ _ ih => simp; omega
def WPast : Wp := fun rs M Q => ∃ (b : Addr) (g : Bag) (c n : Nat) (Z : Mem), rs = [.v (.ref b), T (n : Int)] ∧ M = bagM b g ++ Z ∧ g.Ok c ∧ n ≤ 100 ∧ c + 3000 < 100000000 ∧ ∀ ps gs ns t g', Past ps gs ns t → ps.length ≤ n → g'.Ok (c + 3000) → Q (.d (.tuple [td ps, td gs])) (bagM b g' ++ Z)
def pastM (lp lg ln : Addr) (ps : List Deed) (gs ns : List Int) : Mem := [(lp, .lst (ps.map T)), (lg, .lst (gs.map T)), (ln, .lst (ns.map T))]
theorem snocT {α : Type} [TD α] {xs : List α} {x : α} : xs.map T ++ [T x] = (xs ++ [x]).map T := by rw [List.map_append]; rfl
theorem setT {α : Type} [TD α] {xs : List α} {x : α} {i : Nat} : (xs.map T).set i (T x) = (xs.set i x).map T := (List.map_set ..).symm
theorem atI_lastT {α : Type} [TD α] {xs : List α} {x : α} : atI ((xs ++ [x]).map T) (-1) = some (T x) := by
  rw [List.map_append]; exact atI_last
section
variable {X : Cx} {ds : List R} {b : Addr} {g : Bag} {lp lg ln : Addr} {ps : List Deed} {gs ns : List Int} {W : Mem} {e i v : Expr} {pos p1 apos : Pos} {M : Mem}
theorem in_p : (lp, Cell.lst (ps.map T)) ∈ bagM b g ++ (pastM lp lg ln ps gs ns ++ W) := by simp [bagM, pastM]
theorem in_g : (lg, Cell.lst (gs.map T)) ∈ bagM b g ++ (pastM lp lg ln ps gs ns ++ W) := by simp [bagM, pastM]
theorem in_n : (ln, Cell.lst (ns.map T)) ∈ bagM b g ++ (pastM lp lg ln ps gs ns ++ W) := by simp [bagM, pastM]
end
section
variable {P : Program} {w : World} {K : PySem.W.Frag} {mg : Str → Option Value} {base : Heap}
theorem ok_past (B : Bt mg) (a : At K mg "_law_past" s__law_past) (GD : Fx P w K mg base 1 "_law_draw" s__law_draw p__law_draw WDraw) (GN : Fx P w K mg base 2 "_law_number" s__law_number p__law_number WNumber) (GR : Fx P w K mg base 2 "_law_row" s__law_row p__law_row WRowD) : Fx P w K mg base 3 "_law_past" s__law_past p__law_past WPast := by
  refine fx_of a sc__law_past (fun rs M Q h => ?_) (fun _ _ _ _ _ _ us hl => match us, hl with | [_, _], _ => rfl) fun f cd A fr s G Z rs M Q hg hr h => ?_
  · obtain ⟨_, _, _, _, _, rfl, _⟩ := h; rfl
  obtain ⟨b, g, c, n, W, rfl, rfl, ok, n1, hc, q⟩ := h
  have hr1 := hr.mono (j := 1) (by decide)
  have big1 : Sml ((10 : Int) ^ (24 : Int).toNat) := by unfold Sml; decide +kernel
  have big2 : Sml (((10 : Int) ^ (60 : Int).toNat) ^ (3 : Int).toNat) := by unfold Sml; decide +kernel
  have pos1 : (0 : Int) < (10 : Int) ^ (24 : Int).toNat := by decide +kernel
  have pos2 : (0 : Int) < ((10 : Int) ^ (60 : Int).toNat) ^ (3 : Int).toNat := by decide +kernel
  refine bx_set 2 sc__law_past.nd ?_
  refine ex_ixL ?_
  refine go (dx_lst (da_cons dx_int (da_cons dx_int (da_cons (dx_pow ⟨by decide, by decide, by decide⟩ dx_int dx_int) (da_cons (dx_powW ⟨by decide, by decide +kernel⟩ (dx_pow ⟨by decide, by decide, by decide⟩ dx_int dx_int) dx_int) da_nil))))) ?_
  refine dr GD hg hr1 (dx_var 0) dx_int ok (by omega) (by decide) (fits10 (by decide)) fun v g1 h0 h1 ok1 => ?_
  obtain ⟨size, hm, z0, z1⟩ : ∃ m : Int, atI [T (9 : Int), T (9 : Int), T ((10 : Int) ^ (24 : Int).toNat), T (((10 : Int) ^ (60 : Int).toNat) ^ (3 : Int).toNat)] v = some (T m) ∧ 0 < m ∧ Sml m := by
    have h4 : v = 0 ∨ v = 1 ∨ v = 2 ∨ v = 3 := by clear big1 big2 pos1 pos2; omega
    rcases h4 with rfl | rfl | rfl | rfl
    · exact ⟨9, rfl, by decide, by unfold Sml; decide +kernel⟩
    · exact ⟨9, rfl, by decide, by unfold Sml; decide +kernel⟩
    · exact ⟨_, rfl, pos1, big1⟩
    · exact ⟨_, rfl, pos2, big2⟩
  clear big1 big2 pos1 pos2
  refine ⟨_, v, T size, .fz _, rfl, hm, ?_⟩
  refine bx_asg ?_
  refine ex_tupT ?_
  refine ax_cons (ex_lstC (ax_nil ⟨Nat.zero_le _, bagM b g1, W, rfl, fun lp => ?_⟩))
  refine ax_cons (ex_lstC (ax_nil ⟨Nat.zero_le _, bagM b g1 ++ [(lp, .lst [])], W, by simp, fun lg => ?_⟩))
  refine ax_cons (ex_lstC (ax_nil ⟨Nat.zero_le _, bagM b g1 ++ [(lp, .lst []), (lg, .lst [])], W, by simp, fun ln => ?_⟩))
  refine ax_cons (go dx_int (ax_nil ⟨small64 (show 4 < 64 by decide), ?_⟩))
  refine gx_tup rfl (.pt _) ?_
  refine gsx_cons (gx_name 4 sc__law_past.nd (gsx_cons (gx_name 5 sc__law_past.nd (gsx_cons (gx_name 6 sc__law_past.nd (gsx_cons (gx_name 7 sc__law_past.nd (gsx_nil ?_))))))))
  have eM : bagM b g1 ++ [(lp, .lst []), (lg, .lst [])] ++ (ln, .lst []) :: W = bagM b g1 ++ (pastM lp lg ln [] [] [] ++ W) := by simp [pastM]
  rw [eM]
  have sz : ∀ {n : Nat}, n ≤ 1000 → n < sizeLine := fun h => Nat.lt_of_le_of_lt h (by rw [sizeLine_eq]; decide)
  refine bx_forE (γ := Nat) (fun (i : Nat) => T (i : Int)) (fun t : Nat => [.v (.ref b), .no, T size, .no, .v (.ref lp), .v (.ref lg), .v (.ref ln), T (t : Int), .no, .no, .no, .no, .no, .no, .no, .no]) (fun i t M => ∃ g ps gs ns, M = bagM b g ++ (pastM lp lg ln ps gs ns ++ W) ∧ Past ps gs ns t ∧ ps.length ≤ i ∧ g.Ok (c + 10 + 20 * i)) rfl PassesOwn.never ?_
  refine ix_range B.range ?_
  refine dr GD hg hr1 (dx_var 0) (dx_add (dx_var 1) dx_int) ok1 (by omega) (by omega) (fits10 (by omega)) fun v2 g2 a2 b2 ok2 => ?_
  obtain ⟨m, rfl⟩ : ∃ m : Nat, v2 = (m : Int) := ⟨v2.toNat, by omega⟩
  refine ⟨m, rfl, by omega, by omega, List.range m, rfl, fun _ _ _ _ => trivial, ⟨0, (by refine ⟨?_, ?_, ?_, ?_, ?_, ?_, ?_, ?_, ?_, ?_, ?_, ?_, ?_, ?_, ?_, ?_, trivial⟩ <;> first | exact .inr rfl | exact .inl rfl), g2, [], [], [], rfl, .nil, Nat.le_refl _, ok2.up (by omega) (by omega)⟩, fun i x t M hx ⟨g, ps, gs, ns, e, hP, hl, ok⟩ => ?_, fun t M ⟨g, ps, gs, ns, e, hP, hl, ok⟩ => ?_⟩
  · subst e
    have hi : i < m := by
      have := (List.getElem?_eq_some_iff.mp hx).1
      rwa [List.length_range] at this
    have gl := hP.glen
    have nl := hP.len
    refine gx_name 3 sc__law_past.nd ?_
    refine bx_set 8 sc__law_past.nd ?_
    refine dr GD hg hr1 (dx_var 0) dx_int ok (by omega) (by decide) (fits10 (by decide)) fun pk0 g3 a3 b3 ok3 => ?_
    refine bx_setD 9 sc__law_past.nd (dx_lenL B.len (dx_var 6) (.cl in_n)) ?_
    rw [List.length_map]
    refine bx_cutT (fun pk : Int => [.v (.ref b), .no, T size, .no, .v (.ref lp), .v (.ref lg), .v (.ref ln), T (t : Int), T pk, T (ns.length : Int), .no, .no, .no, .no, .no, .no]) (fun _ M => M = bagM b g3 ++ (pastM lp lg ln ps gs ns ++ W)) ?_ fun pk M e => ?_
    · refine sx_ifD (dt_w (dw_or (dt_gt (dx_lenL B.len (dx_var 5) (.cl in_g)) dx_int) fun _ => (dw_or1 (dt_w (dw_and (dt_lt (dx_var 8) dx_int) fun _ => (dw_and (dt_gt (dx_var 8) dx_int) fun _ => (dw_and1 (dt_lt (dx_var 9) dx_int)))))))) (fun _ => ?_) fun _ => ?_
      · refine bx_setD 8 sc__law_past.nd dx_int (bx_nil ⟨11, (by refine ⟨?_, ?_, ?_, ?_, ?_, ?_, ?_, ?_, ?_, ?_, ?_, ?_, ?_, ?_, ?_, ?_, trivial⟩ <;> first | exact .inr rfl | exact .inl rfl), rfl⟩)
      · exact bx_nil ⟨pk0, (by refine ⟨?_, ?_, ?_, ?_, ?_, ?_, ?_, ?_, ?_, ?_, ?_, ?_, ?_, ?_, ?_, ?_, trivial⟩ <;> first | exact .inr rfl | exact .inl rfl), rfl⟩
    subst e
    refine bx_cutT (fun pk : Int => [.v (.ref b), .no, T size, .no, .v (.ref lp), .v (.ref lg), .v (.ref ln), T (t : Int), T pk, T (ns.length : Int), .no, .no, .no, .no, .no, .no]) (fun _ M => M = bagM b g3 ++ (pastM lp lg ln ps gs ns ++ W)) ?_ fun pk2 M e => ?_
    · refine sx_ifD (dt_w (dw_and (dt_gt (dx_var 7) dx_int) fun _ => (dw_and1 (dt_w (dw_or (dt_gt (dx_var 8) dx_int) fun _ => (dw_or1 (dt_gt (dx_lenL B.len (dx_var 5) (.cl in_g)) dx_int))))))) (fun _ => ?_) fun _ => ?_
      · refine bx_setD 8 sc__law_past.nd dx_int (bx_nil ⟨6, (by refine ⟨?_, ?_, ?_, ?_, ?_, ?_, ?_, ?_, ?_, ?_, ?_, ?_, ?_, ?_, ?_, ?_, trivial⟩ <;> first | exact .inr rfl | exact .inl rfl), rfl⟩)
      · exact bx_nil ⟨pk, (by refine ⟨?_, ?_, ?_, ?_, ?_, ?_, ?_, ?_, ?_, ?_, ?_, ?_, ?_, ?_, ?_, ?_, trivial⟩ <;> first | exact .inr rfl | exact .inl rfl), rfl⟩
    subst e
    refine bx_ifD (dt_w (dw_and (dt_lt (dx_var 8) dx_int) fun _ => (dw_and1 (dt_lt (dx_var 9) dx_int)))) (fun h => ?_) fun _ => ?_
    · rw [Bool.and_eq_true, decide_eq_true_eq, decide_eq_true_eq] at h
      refine bx_expr (ex_append ((dx_var 5) _ ⟨lg, rfl, ⟨_, in_g⟩, ex_call GN hg (hr.mono (by decide)) (ax_cons ((dx_var 0) _ (ax_cons ((dx_var 2) _ (ax_nil ⟨b, g3, _, size, _, rfl, rfl, ok3, by omega, z0, z1, fun y g4 hy ok4 => ?_⟩)))))⟩))
      refine ⟨bagM b g4 ++ [(lp, .lst (ps.map T))], (ln, .lst (ns.map T)) :: W, gs.map T, rfl, sz (by rw [List.length_map]; omega), ?_⟩
      rw [snocT]
      show BX _ _ _ (bagM b g4 ++ (pastM lp lg ln ps (gs ++ [y]) ns ++ W)) _
      refine bx_expr (ex_append ((dx_var 6) _ ⟨ln, rfl, ⟨_, in_n⟩, go (dx_ixL (r := T y) (dx_var 5) (dx_neg dx_int) (.cl in_g) atI_lastT) ⟨bagM b g4 ++ [(lp, .lst (ps.map T)), (lg, .lst ((gs ++ [y]).map T))], W, ns.map T, rfl, sz (by rw [List.length_map]; omega), ?_⟩⟩))
      rw [snocT]
      refine bx_expr (ex_append ((dx_var 4) _ ⟨lp, rfl, ⟨ps.map T, in_p (gs := gs ++ [y]) (ns := ns ++ [y])⟩, go (dx_tup (da_cons dx_str da_nil)) ⟨bagM b g4, (lg, .lst ((gs ++ [y]).map T)) :: (ln, .lst ((ns ++ [y]).map T)) :: W, ps.map T, rfl, sz (by rw [List.length_map]; omega), bx_nil (bx_nil ⟨t, (by refine ⟨?_, ?_, ?_, ?_, ?_, ?_, ?_, ?_, ?_, ?_, ?_, ?_, ?_, ?_, ?_, ?_, trivial⟩ <;> first | exact .inr rfl | exact .inl rfl), g4, ps ++ [.come], gs ++ [y], ns ++ [y], ?_, .come y hP (by omega) hy, by rw [List.length_append]; exact Nat.succ_le_succ hl, ok4.up (by omega) (by omega)⟩)⟩⟩))
      simp [pastM]; rfl
    refine bx_ifD (dt_w (dw_and (dt_lt (dx_var 8) dx_int) fun _ => (dw_and (dt_gt (dx_var 8) dx_int) fun _ => (dw_and1 (dt_gt (dx_var 9) dx_int))))) (fun h => ?_) fun _ => ?_
    · simp only [Bool.and_eq_true, decide_eq_true_eq] at h
      refine bx_set 10 sc__law_past.nd ?_
      refine dr GD hg hr1 (dx_var 0) (dx_var 9) ok3 (by omega) (by omega) (fits10 (by omega)) fun pe g4 a4 b4 ok4 => ?_
      obtain ⟨q1, rfl⟩ : ∃ q1 : Nat, pe = (q1 : Int) := ⟨pe.toNat, by omega⟩
      have hq1 : q1 < ns.length := by omega
      refine bx_expr (ex_append ((dx_var 5) _ ⟨lg, rfl, ⟨_, in_g⟩, ex_call GN hg (hr.mono (by decide)) (ax_cons ((dx_var 0) _ (ax_cons ((dx_var 2) _ (ax_nil ⟨b, g4, _, size, _, rfl, rfl, ok4, by omega, z0, z1, fun y g5 hy ok5 => ?_⟩)))))⟩))
      refine ⟨bagM b g5 ++ [(lp, .lst (ps.map T))], (ln, .lst (ns.map T)) :: W, gs.map T, rfl, sz (by rw [List.length_map]; omega), ?_⟩
      rw [snocT]
      show BX _ _ _ (bagM b g5 ++ (pastM lp lg ln ps (gs ++ [y]) ns ++ W)) _
      refine bx_asg ?_
      refine go (dx_add (dx_ixL (dx_var 6) (dx_var 10) (.cl in_n) (atI_mapD (d := 0) hq1)) (dx_ixL (r := T y) (dx_var 5) (dx_neg dx_int) (.cl in_g) atI_lastT)) ?_
      refine gx_subL ((dx_var 6) _ ((dx_var 10) _ ⟨bagM b g5 ++ [(lp, .lst (ps.map T)), (lg, .lst ((gs ++ [y]).map T))], W, ln, ns.map T, q1, q1, rfl, rfl, rfl, ixN_nat (by rw [List.length_map]; exact hq1), ?_⟩))
      rw [setT]
      refine bx_expr (ex_append ((dx_var 4) _ ⟨lp, rfl, ⟨ps.map T, in_p (gs := gs ++ [y]) (ns := ns.set q1 _)⟩, go (dx_tup (da_cons dx_str (da_cons (dx_var 10) da_nil))) ⟨bagM b g5, (lg, .lst ((gs ++ [y]).map T)) :: (ln, .lst ((ns.set q1 (ns.getD q1 0 + y)).map T)) :: W, ps.map T, rfl, sz (by rw [List.length_map]; omega), bx_nil (bx_nil (bx_nil ⟨t, (by refine ⟨?_, ?_, ?_, ?_, ?_, ?_, ?_, ?_, ?_, ?_, ?_, ?_, ?_, ?_, ?_, ?_, trivial⟩ <;> first | exact .inr rfl | exact .inl rfl), g5, ps ++ [.stir q1], gs ++ [y], ns.set q1 (ns.getD q1 0 + y), ?_, .stir y q1 hP hq1 hy, by rw [List.length_append]; exact Nat.succ_le_succ hl, ok5.up (by omega) (by omega)⟩))⟩⟩))
      simp [pastM]; rfl
    refine bx_ifD (dt_w (dw_and (dt_eq (α := Int) hr (dx_var 8) dx_int (.d _) (.d _)) fun _ => (dw_and1 (dt_gt (dx_var 9) dx_int)))) (fun h => ?_) fun _ => ?_
    · simp only [Bool.and_eq_true, decide_eq_true_eq] at h
      refine bx_set 11 sc__law_past.nd ?_
      refine dr GD hg hr1 (dx_var 0) (dx_var 9) ok3 (by omega) (by omega) (fits10 (by omega)) fun pe g4 a4 b4 ok4 => ?_
      obtain ⟨q1, rfl⟩ : ∃ q1 : Nat, pe = (q1 : Int) := ⟨pe.toNat, by omega⟩
      have hq1 : q1 < ns.length := by omega
      refine bx_set 12 sc__law_past.nd ?_
      refine ex_mod ?_
      refine ex_add (go (dx_add (dx_var 11) dx_int) ⟨_, rfl, ?_⟩)
      refine dr GD hg hr1 (dx_var 0) (dx_sub (dx_var 9) dx_int) ok4 (by omega) (by omega) (fits10 (by omega)) fun oe g5 a5 b5 ok5 => ?_
      refine ⟨oe, rfl, _, rfl, go (dx_var 9) ⟨_, rfl, by omega, ?_⟩⟩
      obtain ⟨q2, hq2⟩ : ∃ q2 : Nat, ((q1 : Int) + 1 + oe) % (ns.length : Int) = (q2 : Int) := ⟨(((q1 : Int) + 1 + oe) % (ns.length : Int)).toNat, by have := Int.emod_nonneg ((q1 : Int) + 1 + oe) (show (ns.length : Int) ≠ 0 by omega); omega⟩
      have hq2l : q2 < ns.length := by have := Int.emod_lt_of_pos ((q1 : Int) + 1 + oe) (show 0 < (ns.length : Int) by omega); omega
      have hne : q1 ≠ q2 := by
        intro e
        have h1 : ((q1 : Int) + 1 + oe) % (ns.length : Int) = (q1 : Int) % (ns.length : Int) := by
          rw [hq2, ← e, Int.emod_eq_of_lt (by omega) (by omega)]
        by_cases hb : (q1 : Int) + 1 + oe < (ns.length : Int)
        · rw [Int.emod_eq_of_lt (by omega) hb, Int.emod_eq_of_lt (by omega) (by omega)] at h1
          omega
        · have h2 : (q1 : Int) + 1 + oe = ((q1 : Int) + 1 + oe - (ns.length : Int)) + (ns.length : Int) := by omega
          rw [h2, Int.add_emod_right, Int.emod_eq_of_lt (by omega) (by omega), Int.emod_eq_of_lt (by omega) (by omega)] at h1
          omega
      rw [hq2]
      refine bx_expr (ex_append ((dx_var 5) _ ⟨lg, rfl, ⟨_, in_g⟩, ex_call GN hg (hr.mono (by decide)) (ax_cons ((dx_var 0) _ (ax_cons ((dx_var 2) _ (ax_nil ⟨b, g5, _, size, _, rfl, rfl, ok5, by omega, z0, z1, fun y g6 hy ok6 => ?_⟩)))))⟩))
      refine ⟨bagM b g6 ++ [(lp, .lst (ps.map T))], (ln, .lst (ns.map T)) :: W, gs.map T, rfl, sz (by rw [List.length_map]; omega), ?_⟩
      rw [snocT]
      show BX _ _ _ (bagM b g6 ++ (pastM lp lg ln ps (gs ++ [y]) ns ++ W)) _
      refine bx_asg ?_
      refine go (dx_sub (dx_ixL (dx_var 6) (dx_var 11) (.cl in_n) (atI_mapD (d := 0) hq1)) (dx_ixL (r := T y) (dx_var 5) (dx_neg dx_int) (.cl in_g) atI_lastT)) ?_
      refine gx_subL ((dx_var 6) _ ((dx_var 11) _ ⟨bagM b g6 ++ [(lp, .lst (ps.map T)), (lg, .lst ((gs ++ [y]).map T))], W, ln, ns.map T, q1, q1, rfl, rfl, rfl, ixN_nat (by rw [List.length_map]; exact hq1), ?_⟩))
      rw [setT]
      show BX _ _ _ (bagM b g6 ++ (pastM lp lg ln ps (gs ++ [y]) (ns.set q1 (ns.getD q1 0 - y)) ++ W)) _
      refine bx_asg ?_
      have hs2 : q2 < (ns.set q1 (ns.getD q1 0 - y)).length := by rw [List.length_set]; exact hq2l
      have hg2 : (ns.set q1 (ns.getD q1 0 - y)).getD q2 0 = ns.getD q2 0 := by
        rw [List.getD_eq_getElem?_getD, List.getElem?_set_ne hne, ← List.getD_eq_getElem?_getD]
      refine go (dx_add (dx_ixL (dx_var 6) (dx_var 12) (.cl in_n) (atI_mapD (d := 0) hs2)) (dx_ixL (r := T y) (dx_var 5) (dx_neg dx_int) (.cl in_g) atI_lastT)) ?_
      rw [hg2]
      refine gx_subL ((dx_var 6) _ ((dx_var 12) _ ⟨bagM b g6 ++ [(lp, .lst (ps.map T)), (lg, .lst ((gs ++ [y]).map T))], W, ln, (ns.set q1 (ns.getD q1 0 - y)).map T, q2, q2, rfl, rfl, rfl, ixN_nat (by rw [List.length_map]; exact hs2), ?_⟩))
      rw [setT]
      refine bx_expr (ex_append ((dx_var 4) _ ⟨lp, rfl, ⟨ps.map T, in_p (gs := gs ++ [y]) (ns := (ns.set q1 (ns.getD q1 0 - y)).set q2 _)⟩, go (dx_tup (da_cons dx_str (da_cons (dx_var 11) (da_cons (dx_var 12) da_nil)))) ⟨bagM b g6, (lg, .lst ((gs ++ [y]).map T)) :: (ln, .lst (((ns.set q1 (ns.getD q1 0 - y)).set q2 (ns.getD q2 0 + y)).map T)) :: W, ps.map T, rfl, sz (by rw [List.length_map]; omega), bx_nil (bx_nil (bx_nil (bx_nil ⟨t, (by refine ⟨?_, ?_, ?_, ?_, ?_, ?_, ?_, ?_, ?_, ?_, ?_, ?_, ?_, ?_, ?_, ?_, trivial⟩ <;> first | exact .inr rfl | exact .inl rfl), g6, ps ++ [.pay q1 q2], gs ++ [y], (ns.set q1 (ns.getD q1 0 - y)).set q2 (ns.getD q2 0 + y), ?_, .pay y q1 q2 hP hq1 hq2l hne hy, by rw [List.length_append]; exact Nat.succ_le_succ hl, ok6.up (by omega) (by omega)⟩)))⟩⟩))
      simp [pastM]; rfl
    refine bx_ifD (dt_w (dw_and (dt_eq (α := Int) hr (dx_var 8) dx_int (.d _) (.d _)) fun _ => (dw_and1 (dt_gt (dx_var 9) dx_int)))) (fun h => ?_) fun _ => ?_
    · simp only [Bool.and_eq_true, decide_eq_true_eq] at h
      refine bx_set 10 sc__law_past.nd ?_
      refine dr GD hg hr1 (dx_var 0) (dx_var 9) ok3 (by omega) (by omega) (fits10 (by omega)) fun pe g4 a4 b4 ok4 => ?_
      obtain ⟨q1, rfl⟩ : ∃ q1 : Nat, pe = (q1 : Int) := ⟨pe.toNat, by omega⟩
      have hq1 : q1 < ns.length := by omega
      refine bx_set 13 sc__law_past.nd ?_
      refine ex_call GN hg (hr.mono (by decide)) (ax_cons ((dx_var 0) _ (ax_cons ((dx_var 2) _ (ax_nil ⟨b, g4, _, size, _, rfl, rfl, ok4, by omega, z0, z1, fun y g5 hy ok5 => ?_⟩)))))
      refine bx_asg ?_
      refine go (dx_add (dx_ixL (dx_var 6) (dx_var 10) (.cl in_n) (atI_mapD (d := 0) hq1)) (dx_var 13)) ?_
      refine gx_subL ((dx_var 6) _ ((dx_var 10) _ ⟨bagM b g5 ++ [(lp, .lst (ps.map T)), (lg, .lst (gs.map T))], W, ln, ns.map T, q1, q1, rfl, rfl, rfl, ixN_nat (by rw [List.length_map]; exact hq1), ?_⟩))
      rw [setT]
      refine bx_expr (ex_append ((dx_var 4) _ ⟨lp, rfl, ⟨ps.map T, in_p (gs := gs) (ns := ns.set q1 _)⟩, go (dx_tup (da_cons dx_str (da_cons (dx_var 10) (da_cons (dx_var 13) da_nil)))) ⟨bagM b g5, (lg, .lst (gs.map T)) :: (ln, .lst ((ns.set q1 (ns.getD q1 0 + y)).map T)) :: W, ps.map T, rfl, sz (by rw [List.length_map]; omega), bx_nil (bx_nil (bx_nil (bx_nil (bx_nil ⟨t, (by refine ⟨?_, ?_, ?_, ?_, ?_, ?_, ?_, ?_, ?_, ?_, ?_, ?_, ?_, ?_, ?_, ?_, trivial⟩ <;> first | exact .inr rfl | exact .inl rfl), g5, ps ++ [.gift q1 y], gs, ns.set q1 (ns.getD q1 0 + y), ?_, .gift y q1 hP hq1 hy, by rw [List.length_append]; exact Nat.succ_le_succ hl, ok5.up (by omega) (by omega)⟩))))⟩⟩))
      simp [pastM]; rfl
    refine bx_ifD (dt_lt (dx_var 7) dx_int) (fun h => ?_) fun _ => ?_
    · simp only [decide_eq_true_eq] at h
      refine bx_setD 7 sc__law_past.nd (dx_add (dx_var 7) dx_int) ?_
      refine bx_set 14 sc__law_past.nd ?_
      refine ex_call GR hg (hr.mono (by decide)) (ax_cons ((dx_var 0) _ (ax_cons ((dx_var 9) _ (ax_nil ⟨b, g3, _, ns.length, _, rfl, rfl, ok3, by omega, by omega, fun row g4 hl2 hrow ok4 => ?_⟩)))))
      refine bx_expr (ex_append ((dx_var 4) _ ⟨lp, rfl, ⟨ps.map T, in_p⟩, ?_⟩))
      refine ex_tup (ax_cons (go dx_str (ax_cons (go (dx_var 14) (ax_cons (ex_sum B.sum ?_ (cr_sum rfl)))))))
      refine ex_lcM (own := [("_law_k", 15)]) (g := gName 15) (xs := List.range ns.length) (φ := fun (i : Nat) => T (i : Int)) (f := fun k => row.getD k 0 * ns.getD k 0) rfl sc__law_past.nd (blkOk_by (N := n__law_past) (sc := defScope s__law_past) (by decide +kernel)) (fun _ _ _ _ _ => (pg_name (i := 15) sc__law_past.nd rfl (by first | exact Or.inl rfl | exact Or.inr rfl))) (ix_rangeD B.range (dx_var 9) (by omega) (by omega) ⟨rfl, trivial, by rw [List.length_range]; exact small64 (by omega), fun k hk => ⟨_, tgS_name (by decide), fun _ _ _ _ _ => ?_⟩, .inl ⟨_, isL_T _, ?_⟩⟩)
      · have hk := List.mem_range.mp hk
        have hkr : k < row.length := by omega
        have hb := hrow _ (getD_mem (d := 0) hkr)
        exact dx_mulL (by omega) (dx_ixT (dx_var 14) (dx_var 15) (atI_getD hkr)) (dx_ixL (dx_var 6) (dx_var 15) (.cl in_n) (atI_mapD (d := 0) hk))
      · refine ax_nil ⟨[.str "tell", td row, .int (dotI row ns ns.length)], rfl, small64 (show 3 < 64 by decide), bagM b g4, (lg, .lst (gs.map T)) :: (ln, .lst (ns.map T)) :: W, ps.map T, rfl, sz (by rw [List.length_map]; omega), bx_nil (bx_nil (bx_nil (bx_nil (bx_nil (bx_nil ⟨t + 1, (by refine ⟨?_, ?_, ?_, ?_, ?_, ?_, ?_, ?_, ?_, ?_, ?_, ?_, ?_, ?_, ?_, ?_, trivial⟩ <;> first | exact .inr rfl | exact .inl rfl), g4, ps ++ [.tell row (dotI row ns ns.length)], gs, ns, ?_, .tell row hP hl2 hrow (by omega), by rw [List.length_append]; exact Nat.succ_le_succ hl, ok4.up (by omega) (by omega)⟩)))))⟩
        simp [pastM]; rfl
    · exact bx_nil (bx_nil (bx_nil (bx_nil (bx_nil (bx_nil ⟨t, (by refine ⟨?_, ?_, ?_, ?_, ?_, ?_, ?_, ?_, ?_, ?_, ?_, ?_, ?_, ?_, ?_, ?_, trivial⟩ <;> first | exact .inr rfl | exact .inl rfl), g3, ps, gs, ns, rfl, hP, by omega, ok3.up (by omega) (by omega)⟩)))))
  · subst e
    rw [List.length_range] at hl ok
    refine bx_freeze (bagM b g) (xs := ps.map td) (by rw [T_map]; rfl) (ds' := [.v (.ref b), .no, .no, .no, T ps, .v (.ref lg), .no, .no, .no, .no, .no, .no, .no, .no, .no, .no]) ?_ ?_
    · refine ⟨?_, ?_, ?_, ?_, ?_, ?_, ?_, ?_, ?_, ?_, ?_, ?_, ?_, ?_, ?_, ?_, trivial⟩ <;> first | exact .inl rfl | exact .inr (.inl rfl) | exact .inr (.inr ⟨rfl, rfl⟩)
    refine bx_freeze (bagM b g) (xs := gs.map td) (by rw [T_map]; rfl) (ds' := [.v (.ref b), .no, .no, .no, T ps, T gs, .no, .no, .no, .no, .no, .no, .no, .no, .no, .no]) ?_ ?_
    · refine ⟨?_, ?_, ?_, ?_, ?_, ?_, ?_, ?_, ?_, ?_, ?_, ?_, ?_, ?_, ?_, ?_, trivial⟩ <;> first | exact .inl rfl | exact .inr (.inl rfl) | exact .inr (.inr ⟨rfl, rfl⟩)
    refine bx_drop (M1 := bagM b g ++ W) (List.Sublist.append (.refl _) (.cons _ (.refl _))) ?_
    exact bx_retD (dx_tup (da_cons (dx_var 4) (da_cons (dx_var 5) da_nil))) (q ps gs ns t g hP (by omega) (ok.up (by omega) (by omega)))
end
end K01
namespace K01
open PySem PySem.Spec PyProof.Rows L2 Hq
/-! ### faults -/
def lastS : List Stmt → List Stmt
  | [] => []
  | [s] => [s]
  | _ :: ss => lastS ss
def Deed.word : Deed → Str
  | .come => "come"
  | .stir _ => "stir"
  | .pay _ _ => "pay"
  | .gift _ _ => "gift"
  | .tell _ _ => "tell"
def Deed.args : Deed → List PyData
  | .come => []
  | .stir p => [.int p]
  | .pay a b => [.int a, .int b]
  | .gift p n => [.int p, .int n]
  | .tell row n => [td row, .int n]
theorem deed_is {M : Mem} (d : Deed) : IsT M (T d) (T d.word :: d.args.map R.d) := by
  cases d <;> exact .fz _
theorem atI_0 {α : Type} {x : α} {xs : List α} : atI (x :: xs) 0 = some x := atI_nat (j := 0) rfl
theorem atI_1 {α : Type} {x y : α} {xs : List α} : atI (x :: y :: xs) 1 = some y := atI_nat (j := 1) rfl
def inr (p c : Int) : Bool := decide (0 ≤ p) && decide (p < c)
def bad : Deed → Int → Bool
  | .come, _ => false
  | .stir p, c => !inr p c
  | .pay a b, c => decide (a = b) || !(inr a c && inr b c)
  | .gift p _, c => !inr p c
  | .tell row _, c => !decide ((row.length : Int) = c)
def one (d : Deed) : Int := if decide (d.word = ("come" : Str)) then 1 else 0
def faultFrom : List Deed → Nat → Int → Option Nat
  | [], _, _ => none
  | d :: ds, n, c => if bad d c = true then some n else faultFrom ds (n + 1) (c + one d)
def optR : Option Nat → R
  | none => .d .none
  | some n => T (n : Int)
def WIsFault : Wp := fun rs M Q => ∃ (d : Deed) (c : Int), rs = [T d, T c] ∧ Q (T (bad d c)) M
def WFault : Wp := fun rs M Q => ∃ ps : List Deed, rs = [T ps] ∧ ps.length ≤ 1000 ∧ Q (optR (faultFrom ps 0 0)) M
section
variable {P : Program} {w : World} {K : PySem.W.Frag} {mg : Str → Option Value} {base : Heap}
theorem ok_is_fault (B : Bt mg) (a : At K mg "is_fault" s_is_fault) : Fx P w K mg base 1 "is_fault" s_is_fault p_is_fault WIsFault := by
  refine fx_of a sc_is_fault (fun rs M Q h => ?_) (fun _ _ _ _ _ _ us hl => match us, hl with | [_, _], _ => rfl) fun f cd A fr s G Z rs M Q hg hr h => ?_
  · obtain ⟨_, _, rfl, _⟩ := h; rfl
  obtain ⟨d, c, rfl, q⟩ := h
  refine bx_asg ?_
  refine go (dx_var 0) ?_
  refine gx_star rfl (r1 := T d.word) (ys := d.args) (deed_is d) ?_
  refine gsx_cons (gx_name 3 sc_is_fault.nd (gsx_starred (gsx_cons (gx_name 4 sc_is_fault.nd (gsx_nil ?_)))))
  -- named: those that must be there
  have fin : ∀ (xs : List Int), xs.length ≤ 10 → bad d c = !((xs.map fun p => inr p c).all id) → BX (bX P w K mg base n_is_fault "is_fault" s_is_fault f cd A fr s G Z) (lastS (defBody s_is_fault)) [.no, T c, T xs, .no, .no, .no] M { nx := fun _ M' => Q (.d .none) M', rt := Q } := by
    intro xs hl hb
    rw [hb] at q
    refine bx_retD (dx_notV ?_) q
    exact fun Q q => ex_all (cr_all rfl) B.all (ex_lcM (own := [("person", 5)]) (g := gName 5) (xs := xs) (φ := T) (f := fun p => inr p c) rfl sc_is_fault.nd (blkOk_by (N := n_is_fault) (sc := defScope s_is_fault) (by decide +kernel)) (fun _ _ _ _ _ => (pg_name (i := 5) sc_is_fault.nd rfl (by first | exact Or.inl rfl | exact Or.inr rfl))) (ix_listT (dx_var 2) ⟨rfl, trivial, small64 (by omega), fun x hx => ⟨_, tgS_name (by decide), fun _ _ _ _ _ => dx_leLt dx_int (dx_var 5) (dx_var 1)⟩, .inl ⟨_, isL_T _, q⟩⟩))
  cases d with
  | come => exact bx_ifD (dt_eqS (u := Deed.come.word) (dx_var 3) dx_str) (fun _ => bx_retD dx_bl q) fun h => absurd h (by decide +kernel)
  | tell row n =>
    refine bx_ifD (dt_eqS (u := ("tell" : Str)) (dx_var 3) dx_str) (fun h => absurd h (by decide +kernel)) fun _ => bx_nil ?_
    refine bx_ifD (dt_eqS (u := ("tell" : Str)) (dx_var 3) dx_str) (fun _ => ?_) fun h => absurd h (by decide +kernel)
    exact bx_retD (dx_ne (α := Int) (x := row.length) (y := c) hr (dx_lenT (xs := row) B.len (dx_ixL (rs := [T row, T n]) (dx_var 4) dx_int (.fz [td row, .int n]) atI_0)) (dx_var 1) (.d _) (.d _)) q
  | pay x y =>
    refine bx_ifD (dt_eqS (u := ("pay" : Str)) (dx_var 3) dx_str) (fun h => absurd h (by decide +kernel)) fun _ => bx_nil ?_
    refine bx_ifD (dt_eqS (u := ("pay" : Str)) (dx_var 3) dx_str) (fun h => absurd h (by decide +kernel)) fun _ => bx_nil ?_
    refine bx_ifD (dt_w (dw_and (dt_eqS (u := ("pay" : Str)) (dx_var 3) dx_str) fun _ => dw_and1 (dt_eq (α := Int) (x := x) (y := y) hr (dx_ixL (rs := [T x, T y]) (dx_var 4) dx_int (.fz [.int x, .int y]) atI_0) (dx_ixL (rs := [T x, T y]) (dx_var 4) dx_int (.fz [.int x, .int y]) atI_1) (.d _) (.d _)))) (fun h => ?_) fun h => bx_nil ?_
    · rw [Bool.and_eq_true] at h
      refine bx_retD dx_bl ?_
      have e : bad (.pay x y) c = true := by show (decide (x = y) || !(inr x c && inr y c)) = true; rw [h.2, Bool.true_or]
      rw [e] at q; exact q
    · have hxy : decide (x = y) = false := by
        rw [show decide (("pay" : Str) = "pay") = true by decide +kernel, Bool.true_and] at h; exact h
      refine bx_set 2 sc_is_fault.nd (ex_if ((dt_eqS (u := ("pay" : Str)) (dx_var 3) dx_str) _ ?_))
      rw [if_pos (by decide +kernel)]
      refine go (r := T [x, y]) (dx_var 4) ?_
      refine bx_weak (by refine ⟨?_, ?_, ?_, ?_, ?_, ?_, trivial⟩ <;> first | exact .inr rfl | exact .inl rfl) (fin [x, y] (by simp) ?_)
      show (decide (x = y) || !(inr x c && inr y c)) = _
      rw [hxy]; simp
  | stir x =>
    refine bx_ifD (dt_eqS (u := ("stir" : Str)) (dx_var 3) dx_str) (fun h => absurd h (by decide +kernel)) fun _ => bx_nil ?_
    refine bx_ifD (dt_eqS (u := ("stir" : Str)) (dx_var 3) dx_str) (fun h => absurd h (by decide +kernel)) fun _ => bx_nil ?_
    refine bx_ifD (dt_w (dw_and (k2 := false) (dt_eqS (u := ("stir" : Str)) (dx_var 3) dx_str) fun h => absurd h (by decide +kernel))) (fun h => absurd h (by rw [Bool.and_false]; decide)) fun h => bx_nil ?_
    refine bx_set 2 sc_is_fault.nd (ex_if ((dt_eqS (u := ("stir" : Str)) (dx_var 3) dx_str) _ ?_))
    rw [if_neg (by decide +kernel)]
    refine go (dx_slT (xs := [x]) (dx_var 4) do_none (do_some dx_int)) ?_
    refine bx_weak (by refine ⟨?_, ?_, ?_, ?_, ?_, ?_, trivial⟩ <;> first | exact .inr rfl | exact .inl rfl) (fin [x] (by simp) ?_)
    show (!inr x c) = _
    simp
  | gift x n =>
    refine bx_ifD (dt_eqS (u := ("gift" : Str)) (dx_var 3) dx_str) (fun h => absurd h (by decide +kernel)) fun _ => bx_nil ?_
    refine bx_ifD (dt_eqS (u := ("gift" : Str)) (dx_var 3) dx_str) (fun h => absurd h (by decide +kernel)) fun _ => bx_nil ?_
    refine bx_ifD (dt_w (dw_and (k2 := false) (dt_eqS (u := ("gift" : Str)) (dx_var 3) dx_str) fun h => absurd h (by decide +kernel))) (fun h => absurd h (by rw [Bool.and_false]; decide)) fun h => bx_nil ?_
    refine bx_set 2 sc_is_fault.nd (ex_if ((dt_eqS (u := ("gift" : Str)) (dx_var 3) dx_str) _ ?_))
    rw [if_neg (by decide +kernel)]
    refine go (dx_slT (xs := [x, n]) (dx_var 4) do_none (do_some dx_int)) ?_
    refine bx_weak (by refine ⟨?_, ?_, ?_, ?_, ?_, ?_, trivial⟩ <;> first | exact .inr rfl | exact .inl rfl) (fin [x] (by simp) ?_)
    show (!inr x c) = _
    simp
theorem ok_fault (B : Bt mg) (a : At K mg "fault" s_fault) (GI : Fx P w K mg base 1 "is_fault" s_is_fault p_is_fault WIsFault) : Fx P w K mg base 2 "fault" s_fault p_fault WFault := by
  refine fx_of a sc_fault (fun rs M Q h => ?_) (fun _ _ _ _ _ _ us hl => match us, hl with | [_], _ => rfl) fun f cd A fr s G Z rs M Q hg hr h => ?_
  · obtain ⟨_, rfl, _⟩ := h; rfl
  obtain ⟨ps, rfl, hl, q⟩ := h
  refine bx_setD 1 sc_fault.nd dx_int ?_
  refine bx_forT (List.range ps.length) (fun (i : Nat) => .t [T (i : Int), T (ps.getD i .come)]) (fun c : Int => [T ps, T c, .no, .no]) (fun i c M' => faultFrom ps 0 0 = faultFrom (ps.drop i) i c ∧ M' = M) rfl PassesOwn.never (ix_enum B.enumerate ((dx_var 0) _ ⟨_, isF_T ps, ?_, fun _ _ _ _ => trivial, ⟨0, (by refine ⟨?_, ?_, ?_, ?_, trivial⟩ <;> first | exact .inr rfl | exact .inl rfl), rfl, rfl⟩, fun i x c M' hx ⟨hf, e⟩ => ?_, fun c M' ⟨hf, e⟩ => ?_⟩))
  · rw [List.length_map]
    refine List.map_congr_left fun i hi => ?_
    have hi := List.mem_range.mp hi
    simp [List.getD_eq_getElem?_getD, hi]
  · subst e
    have hi : i < ps.length := by
      have := (List.getElem?_eq_some_iff.mp hx).1
      rwa [List.length_range] at this
    have hxi : x = i := by
      rw [List.getElem?_range hi] at hx
      exact (Option.some.inj hx).symm
    subst hxi
    have hd : ps.drop x = ps.getD x .come :: ps.drop (x + 1) := by
      rw [List.drop_eq_getElem_cons hi, List.getD_eq_getElem?_getD]; simp [hi]
    rw [hd] at hf
    generalize ps.getD x .come = d at hf
    simp only [faultFrom] at hf
    refine gx_tup rfl (.pt _) ?_
    refine gsx_cons (gx_name 2 sc_fault.nd (gsx_cons (gx_name 3 sc_fault.nd (gsx_nil ?_))))
    refine bx_if (tx_val (ex_call GI hg hr (ax_cons ((dx_var 3) _ (ax_cons ((dx_var 1) _ (ax_nil ⟨d, c, rfl, bad d c, rfl, ?_⟩))))))) 
    by_cases hb : bad d c = true
    · rw [if_pos hb] at hf ⊢
      refine bx_retD (dx_var 2) ?_
      rw [hf] at q
      exact q
    · rw [if_neg hb] at hf ⊢
      refine bx_nil ?_
      refine bx_augI 1 ip_add sc_fault.nd (n := c) rfl ?_
      refine go (dx_intB B.int (dx_eqS (dx_ixU (r := T d.word) (dx_var 3) dx_int (deed_is d) atI_0) dx_str)) ⟨one d, rfl, bx_nil ⟨_, (by refine ⟨?_, ?_, ?_, ?_, trivial⟩ <;> first | exact .inr rfl | exact .inl rfl), hf, rfl⟩⟩
  · subst e
    rw [List.length_range, List.drop_length] at hf
    refine bx_retD dx_non ?_
    rw [hf] at q
    exact q
end
end K01
namespace K01
open PySem PySem.Spec PyProof.Rows L2 Hq
/-! ### the law's own look -/
def WDueF : Wp := fun rs M Q => ∃ ps : List Deed, rs = [T ps] ∧ ps.length ≤ 1000 ∧ Q (optR (faultFrom ps 0 0)) M
def optD : Option Nat → PyData
  | none => .none
  | some n => .int n
theorem optR_d (o : Option Nat) : optR o = .d (optD o) := by cases o <;> rfl
def WAlikeF : Wp := fun rs M Q => ∃ o : Option Nat, rs = [optR o, optR o] ∧ Q (T true) M
theorem atI_2 {α : Type} {x y z : α} {xs : List α} : atI (x :: y :: z :: xs) 2 = some z := atI_nat (j := 2) rfl
theorem word_eq (d : Deed) (w : Str) : (d.word = w) ∨ ¬ d.word = w := Classical.em _
section
variable {P : Program} {w : World} {K : PySem.W.Frag} {mg : Str → Option Value} {base : Heap}
theorem ok_alikeF (B : Bt mg) (a : At K mg "_law_alike" s__law_alike) : Fx P w K mg base 1 "_law_alike" s__law_alike p__law_alike WAlikeF := by
  refine fx_of a sc__law_alike (fun rs M Q h => ?_) (fun _ _ _ _ _ _ us hl => match us, hl with | [_, _], _ => rfl) fun f cd A fr s G Z rs M Q hg hr h => ?_
  · obtain ⟨_, rfl, _⟩ := h; rfl
  obtain ⟨o, rfl, q⟩ := h
  cases o with
  | none =>
    refine bx_ret (ex_if ((dt_isN (x := .none) (dx_var 1)) _ ?_))
    rw [if_pos (show isNo .none = true from rfl)]
    exact dx_isN (x := .none) (dx_var 0) _ q
  | some n =>
    refine bx_ret (ex_if ((dt_isN (x := .int n) (dx_var 1)) _ ?_))
    rw [if_neg (show ¬ isNo (.int (n : Int)) = true from Bool.false_ne_true)]
    refine dx_andV (k1 := true) (k2 := true) (fun Q q => ex_isi (cn := "int") (by decide +kernel) (by decide +kernel) B.isinstance B.int ((dx_var 0) _ ⟨.int n, .d _, q⟩)) (fun _ => ?_) _ q
    refine dx_andV (k1 := true) (k2 := true) (dx_notV (k1 := false) (fun Q q => ex_isi (cn := "bool") (by decide +kernel) (by decide +kernel) B.isinstance B.bool ((dx_var 0) _ ⟨.int n, .d _, q⟩))) (fun _ => dx_one ?_)
    exact fun Q q => dx_eq (α := Int) (x := n) (y := n) hr (dx_var 0) (dx_var 1) (.d _) (.d _) (by decide) _ (by rw [decide_eq_true rfl]; exact q)
theorem ok_dueF (B : Bt mg) (a : At K mg "_law_due" s__law_due) : Fx P w K mg base 1 "_law_due" s__law_due p__law_due WDueF := by
  refine fx_of a sc__law_due (fun rs M Q h => ?_) (fun _ _ _ _ _ _ us hl => match us, hl with | [_], _ => rfl) fun f cd A fr s G Z rs M Q hg hr h => ?_
  · obtain ⟨_, rfl, _⟩ := h; rfl
  obtain ⟨ps, rfl, hl, q⟩ := h
  refine bx_setD 1 sc__law_due.nd dx_int ?_
  refine bx_forT (List.range ps.length) (fun (i : Nat) => .t [T (i : Int), T (ps.getD i .come)]) (fun c : Int => [T ps, T c, .no, .no, .no]) (fun i c M' => faultFrom ps 0 0 = faultFrom (ps.drop i) i c ∧ M' = M) rfl PassesOwn.never (ix_enum B.enumerate ((dx_var 0) _ ⟨_, isF_T ps, ?_, fun _ _ _ _ => trivial, ⟨0, (by refine ⟨?_, ?_, ?_, ?_, ?_, trivial⟩ <;> first | exact .inr rfl | exact .inl rfl), rfl, rfl⟩, fun i x c M' hx ⟨hf, e⟩ => ?_, fun c M' ⟨hf, e⟩ => ?_⟩))
  · rw [List.length_map]
    refine List.map_congr_left fun i hi => ?_
    have hi := List.mem_range.mp hi
    simp [List.getD_eq_getElem?_getD, hi]
  · subst e
    have hi : i < ps.length := by
      have := (List.getElem?_eq_some_iff.mp hx).1
      rwa [List.length_range] at this
    have hxi : x = i := by
      rw [List.getElem?_range hi] at hx
      exact (Option.some.inj hx).symm
    subst hxi
    have hd : ps.drop x = ps.getD x .come :: ps.drop (x + 1) := by
      rw [List.drop_eq_getElem_cons hi, List.getD_eq_getElem?_getD]; simp [hi]
    rw [hd] at hf
    generalize ps.getD x .come = d at hf
    simp only [faultFrom] at hf
    refine gx_tup rfl (.pt _) ?_
    refine gsx_cons (gx_name 2 sc__law_due.nd (gsx_cons (gx_name 3 sc__law_due.nd (gsx_nil ?_))))
    have wd : ∀ {ds : List R} {M : Mem} {v : Str} {j : Nat} {p1 p2 p3 p4 p5 : Pos}, ds[3]? = some (T d) → DT (bX P w K mg base n__law_due "_law_due" s__law_due f cd A fr s G Z) (.Compare (.Subscript (.Name "_law_deed" p1) (.Constant (.int 0) 0 p2) p3) [.Eq] [.Constant (.str v) j p4] p5) ds M (decide (d.word = v)) M := fun h => dt_eqS (dx_ixU (dx_var 3 h) dx_int (deed_is d) atI_0) dx_str
    have ret : bad d c = true → Q (T (x : Int)) M' := fun h => by
      rw [if_pos h] at hf
      rw [hf] at q
      exact q
    have nxt : bad d c = false → faultFrom ps 0 0 = faultFrom (ps.drop (x + 1)) (x + 1) (c + one d) := fun h => by
      rw [if_neg (by rw [h]; exact Bool.false_ne_true)] at hf
      exact hf
    clear hf q
    have tst : ∀ {u v : Int} {ds : List R} {M : Mem} {j : Nat} {p1 p2 p3 p4 p5 p6 p7 p8 p9 p10 p11 : Pos}, ds[4]? = some (T [u, v]) → ds[1]? = some (T c) →
        DT (bX P w K mg base n__law_due "_law_due" s__law_due f cd A fr s G Z) (.BoolOp .Or [.Compare (.Call (.Name "min" p1) [.Name "_law_named" p2] [] p3) [.Lt] [.Constant (.int 0) j p4] p5, .Compare (.Call (.Name "max" p6) [.Name "_law_named" p7] [] p8) [.GtE] [.Name "_law_count" p9] p10] p11) ds M (!(inr u c && inr v c)) M := fun {u v} {ds M j p1 p2 p3 p4 p5 p6 p7 p8 p9 p10 p11} h1 h2 => by
      have e : (!(inr u c && inr v c)) = (decide (min u v < 0) || decide (max u v ≥ c)) := by
        unfold inr
        rw [Bool.eq_iff_iff]
        simp only [Bool.not_eq_true', Bool.and_eq_false_iff, Bool.or_eq_true, decide_eq_true_eq, decide_eq_false_iff_not]
        omega
      rw [e]
      exact dt_w (dw_or (dt_lt (dx_minL (ns := [u, v]) (min u v) rfl B.min (dx_var 4 h1) (by rcases Int.le_total u v with z | z <;> simp [z, Int.min_def] <;> omega) (by simp; omega)) dx_int) fun _ => dw_or1 (dt_ge (dx_maxL (ns := [u, v]) (max u v) rfl B.max (dx_var 4 h1) (by rcases Int.le_total u v with z | z <;> simp [z, Int.max_def] <;> omega) (by simp; omega)) (dx_var 1 h2)))
    cases d with
    | come =>
      refine bx_ifD (wd rfl) (fun _ => ?_) fun h => absurd h (by decide +kernel)
      refine bx_setD 1 sc__law_due.nd (dx_add (dx_var 1) dx_int) (bx_nil (bx_nil ⟨c + 1, (by refine ⟨?_, ?_, ?_, ?_, ?_, trivial⟩ <;> first | exact .inr rfl | exact .inl rfl), nxt rfl, rfl⟩))
    | tell row n =>
      refine bx_ifD (wd rfl) (fun h => absurd (show decide (("tell" : Str) = "come") = true from h) (by decide +kernel)) fun _ => ?_
      refine bx_ifD (wd rfl) (fun _ => ?_) fun h => absurd (show decide (("tell" : Str) = "tell") = false from h) (by decide +kernel)
      refine bx_ifD (dt_ne (α := Int) (x := row.length) (y := c) hr (dx_lenT (xs := row) B.len (dx_ixU (rs := [T ("tell" : Str), T row, T n]) (dx_var 3) dx_int (.fz [.str "tell", td row, .int n]) atI_1)) (dx_var 1) (.d _) (.d _)) (fun h => bx_retD (dx_var 2) (ret h)) fun h => ?_
      exact bx_nil (bx_nil (bx_nil (bx_nil ⟨c, (by refine ⟨?_, ?_, ?_, ?_, ?_, trivial⟩ <;> first | exact .inr rfl | exact .inl rfl), by have := nxt h; rw [show one (.tell row n) = 0 from by show (if decide (("tell" : Str) = "come") then (1 : Int) else 0) = 0; decide +kernel, Int.add_zero] at this; exact this, rfl⟩)))
    | pay u v =>
      refine bx_ifD (wd rfl) (fun h => absurd (show decide (("pay" : Str) = "come") = true from h) (by decide +kernel)) fun _ => ?_
      refine bx_ifD (wd rfl) (fun h => absurd (show decide (("pay" : Str) = "tell") = true from h) (by decide +kernel)) fun _ => ?_
      refine bx_ifD (dt_w (dw_and (wd rfl) fun _ => dw_and1 (dt_eq (α := Int) (x := u) (y := v) hr (dx_ixU (rs := [T ("pay" : Str), T u, T v]) (dx_var 3) dx_int (.fz [.str "pay", .int u, .int v]) atI_1) (dx_ixU (rs := [T ("pay" : Str), T u, T v]) (dx_var 3) dx_int (.fz [.str "pay", .int u, .int v]) atI_2) (.d _) (.d _)))) (fun h => ?_) fun h => ?_
      · rw [Bool.and_eq_true] at h
        refine bx_retD (dx_var 2) (ret ?_)
        show (decide (u = v) || !(inr u c && inr v c)) = true
        rw [h.2, Bool.true_or]
      · have hxy : decide (u = v) = false := by
          rw [show decide (Deed.word (.pay u v) = "pay") = true from by show decide (("pay" : Str) = "pay") = true; decide +kernel, Bool.true_and] at h; exact h
        have hb : bad (.pay u v) c = !(inr u c && inr v c) := by
          show (decide (u = v) || !(inr u c && inr v c)) = _
          rw [hxy, Bool.false_or]
        refine bx_set 4 sc__law_due.nd ?_
        refine go (r := T [u, v]) (dx_lst (da_cons (dx_ixU (rs := [T ("pay" : Str), T u, T v]) (dx_var 3) dx_int (.fz [.str "pay", .int u, .int v]) atI_1) (da_cons (dx_ixU (rs := [T ("pay" : Str), T u, T v]) (i := 2) (dx_var 3) (dx_cast (i := 1 + if decide (("pay" : Str) = "pay") = true then 1 else 0) (by decide +kernel) (dx_add dx_int (dx_intB B.int (dx_eqS (dx_ixU (rs := [T ("pay" : Str), T u, T v]) (dx_var 3) dx_int (.fz [.str "pay", .int u, .int v]) atI_0) dx_str)))) (.fz [.str "pay", .int u, .int v]) atI_2) da_nil))) ?_
        refine bx_ifD (tst rfl rfl) (fun h => bx_retD (dx_var 2) (ret (hb.trans h))) fun h => ?_
        exact bx_nil (bx_nil (bx_nil (bx_nil (bx_nil ⟨c, (by refine ⟨?_, ?_, ?_, ?_, ?_, trivial⟩ <;> first | exact .inr rfl | exact .inl rfl), by have := nxt (hb.trans h); rw [show one (.pay u v) = 0 from by show (if decide (("pay" : Str) = "come") then (1 : Int) else 0) = 0; decide +kernel, Int.add_zero] at this; exact this, rfl⟩))))
    | stir u =>
      refine bx_ifD (wd rfl) (fun h => absurd (show decide (("stir" : Str) = "come") = true from h) (by decide +kernel)) fun _ => ?_
      refine bx_ifD (wd rfl) (fun h => absurd (show decide (("stir" : Str) = "tell") = true from h) (by decide +kernel)) fun _ => ?_
      refine bx_ifD (dt_w (dw_and (k2 := false) (wd rfl) fun h => absurd (show decide (("stir" : Str) = "pay") = true from h) (by decide +kernel))) (fun h => absurd h (by rw [Bool.and_false]; decide)) fun _ => ?_
      have hb : bad (.stir u) c = !(inr u c && inr u c) := by
        show (!inr u c) = _
        rw [Bool.and_self]
      refine bx_set 4 sc__law_due.nd ?_
      refine go (r := T [u, u]) (dx_lst (da_cons (dx_ixU (rs := [T ("stir" : Str), T u]) (dx_var 3) dx_int (.fz [.str "stir", .int u]) atI_1) (da_cons (dx_ixU (rs := [T ("stir" : Str), T u]) (i := 1) (dx_var 3) (dx_cast (i := 1 + if decide (("stir" : Str) = "pay") = true then 1 else 0) (by decide +kernel) (dx_add dx_int (dx_intB B.int (dx_eqS (dx_ixU (rs := [T ("stir" : Str), T u]) (dx_var 3) dx_int (.fz [.str "stir", .int u]) atI_0) dx_str)))) (.fz [.str "stir", .int u]) atI_1) da_nil))) ?_
      refine bx_ifD (tst rfl rfl) (fun h => bx_retD (dx_var 2) (ret (hb.trans h))) fun h => ?_
      exact bx_nil (bx_nil (bx_nil (bx_nil (bx_nil ⟨c, (by refine ⟨?_, ?_, ?_, ?_, ?_, trivial⟩ <;> first | exact .inr rfl | exact .inl rfl), by have := nxt (hb.trans h); rw [show one (.stir u) = 0 from by show (if decide (("stir" : Str) = "come") then (1 : Int) else 0) = 0; decide +kernel, Int.add_zero] at this; exact this, rfl⟩))))
    | gift u n =>
      refine bx_ifD (wd rfl) (fun h => absurd (show decide (("gift" : Str) = "come") = true from h) (by decide +kernel)) fun _ => ?_
      refine bx_ifD (wd rfl) (fun h => absurd (show decide (("gift" : Str) = "tell") = true from h) (by decide +kernel)) fun _ => ?_
      refine bx_ifD (dt_w (dw_and (k2 := false) (wd rfl) fun h => absurd (show decide (("gift" : Str) = "pay") = true from h) (by decide +kernel))) (fun h => absurd h (by rw [Bool.and_false]; decide)) fun _ => ?_
      have hb : bad (.gift u n) c = !(inr u c && inr u c) := by
        show (!inr u c) = _
        rw [Bool.and_self]
      refine bx_set 4 sc__law_due.nd ?_
      refine go (r := T [u, u]) (dx_lst (da_cons (dx_ixU (rs := [T ("gift" : Str), T u, T n]) (dx_var 3) dx_int (.fz [.str "gift", .int u, .int n]) atI_1) (da_cons (dx_ixU (rs := [T ("gift" : Str), T u, T n]) (i := 1) (dx_var 3) (dx_cast (i := 1 + if decide (("gift" : Str) = "pay") = true then 1 else 0) (by decide +kernel) (dx_add dx_int (dx_intB B.int (dx_eqS (dx_ixU (rs := [T ("gift" : Str), T u, T n]) (dx_var 3) dx_int (.fz [.str "gift", .int u, .int n]) atI_0) dx_str)))) (.fz [.str "gift", .int u, .int n]) atI_1) da_nil))) ?_
      refine bx_ifD (tst rfl rfl) (fun h => bx_retD (dx_var 2) (ret (hb.trans h))) fun h => ?_
      exact bx_nil (bx_nil (bx_nil (bx_nil (bx_nil ⟨c, (by refine ⟨?_, ?_, ?_, ?_, ?_, trivial⟩ <;> first | exact .inr rfl | exact .inl rfl), by have := nxt (hb.trans h); rw [show one (.gift u n) = 0 from by show (if decide (("gift" : Str) = "come") then (1 : Int) else 0) = 0; decide +kernel, Int.add_zero] at this; exact this, rfl⟩))))
  · subst e
    rw [List.length_range, List.drop_length] at hf
    refine bx_retD dx_non ?_
    rw [hf] at q
    exact q
end
end K01
namespace K01
open PySem PySem.Spec PyProof.Rows L2 Hq
/-! ### sizes -/
def DOk (k : Nat) : Deed → Prop
  | .come => True
  | .stir p => p.natAbs < 2 ^ 1000
  | .pay a b => a.natAbs < 2 ^ 1000 ∧ b.natAbs < 2 ^ 1000
  | .gift p n => p.natAbs < 2 ^ 1000 ∧ n.natAbs < 2 ^ 1000
  | .tell row n => row.length ≤ 10 + k ∧ (∀ x ∈ row, x.natAbs < 2 ^ (200 + k)) ∧ n.natAbs < 2 ^ 1000
structure Lite (k : Nat) (ps : List Deed) : Prop where
  l : ps.length ≤ 100 + k
  d : ∀ d ∈ ps, DOk k d
theorem pow1 : (2 : Nat) ^ 700 ≤ 2 ^ 1000 := Nat.pow_le_pow_right (by decide) (by decide)
theorem sum_le (f : Nat → Int) (D : Nat) : ∀ l : List Nat, (∀ k ∈ l, (f k).natAbs ≤ D) → ((l.map f).sum).natAbs ≤ l.length * D
  | [], _ => Nat.zero_le _
  | x :: l, h => by
    have ih := sum_le f D l fun k hk => h k (List.mem_cons_of_mem _ hk)
    have hx := h x List.mem_cons_self
    rw [List.map_cons, List.sum_cons, List.length_cons, Nat.succ_mul]
    have := Int.natAbs_add_le (f x) (l.map f).sum
    omega
theorem dot_le {row ns : List Int} {C : Nat} (hr : RowOk row) (hn : ∀ x ∈ ns, x.natAbs ≤ C) (n : Nat) : (dotI row ns n).natAbs ≤ n * (99 * C) := by
  unfold dotI
  have h := sum_le (fun k => row.getD k 0 * ns.getD k 0) (99 * C) (List.range n) fun k _ => ?_
  · rwa [List.length_range] at h
  · rw [Int.natAbs_mul]
    refine Nat.mul_le_mul ?_ ?_
    · by_cases hk : k < row.length
      · have := hr _ (getD_mem (d := 0) hk); omega
      · rw [List.getD_eq_getElem?_getD, List.getElem?_eq_none (by omega)]; decide
    · by_cases hk : k < ns.length
      · exact hn _ (getD_mem hk)
      · rw [List.getD_eq_getElem?_getD, List.getElem?_eq_none (by omega)]; exact Nat.zero_le _
theorem getD_le {ns : List Int} {C : Nat} (hn : ∀ x ∈ ns, x.natAbs ≤ C) (k : Nat) : (ns.getD k 0).natAbs ≤ C := by
  by_cases hk : k < ns.length
  · exact hn _ (getD_mem hk)
  · rw [List.getD_eq_getElem?_getD, List.getElem?_eq_none (by omega)]; exact Nat.zero_le _
theorem Past.bound {ps gs ns t} (h : Past ps gs ns t) : ps.length ≤ 100 → (∀ x ∈ ns, x.natAbs ≤ ps.length * 2 ^ 700) ∧ ∀ d ∈ ps, DOk 0 d := by
  have sm : ∀ {n : Int}, Sml n → n.natAbs < 2 ^ 1000 := fun h => Nat.lt_of_lt_of_le h pow1
  have nat : ∀ {p : Nat} {ns : List Int}, p < ns.length → ns.length ≤ 10 → ((p : Int)).natAbs < 2 ^ 1000 := fun h1 h2 => Nat.lt_of_lt_of_le (show _ < 2 ^ 10 by omega) (Nat.pow_le_pow_right (by decide) (by decide))
  have add : ∀ {x y : Int} {k B : Nat}, x.natAbs ≤ k * B → y.natAbs < B → (x + y).natAbs ≤ (k + 1) * B ∧ (x - y).natAbs ≤ (k + 1) * B := fun {x y k B} h1 h2 => by
    rw [Nat.succ_mul]
    generalize k * B = m at h1 ⊢
    omega
  have up : ∀ {x : Int} {k B : Nat}, x.natAbs ≤ k * B → x.natAbs ≤ (k + 1) * B := fun {x k B} h => by rw [Nat.succ_mul]; omega
  induction h with
  | nil => intro _; exact ⟨fun _ h => (nomatch h), fun _ h => (nomatch h)⟩
  | come g _ _ hg ih =>
    intro hl
    rw [List.length_append] at hl ⊢
    obtain ⟨h1, h2⟩ := ih (by simp at hl; omega)
    refine ⟨fun x hx => ?_, fun d hd => (List.mem_append.mp hd).elim (h2 d) fun z => by rw [List.mem_singleton.mp z]; trivial⟩
    rcases List.mem_append.mp hx with hx | hx
    · exact up (h1 x hx)
    · rw [List.mem_singleton.mp hx]
      show g.natAbs ≤ (_ + 1) * 2 ^ 700
      rw [Nat.succ_mul]
      exact Nat.le_trans (Nat.le_of_lt hg) (Nat.le_add_left ..)
  | stir g p hP hp hg ih =>
    intro hl
    rw [List.length_append] at hl ⊢
    obtain ⟨h1, h2⟩ := ih (by simp at hl; omega)
    refine ⟨fun x hx => ?_, fun d hd => (List.mem_append.mp hd).elim (h2 d) fun z => by rw [List.mem_singleton.mp z]; exact nat hp hP.len⟩
    rcases List.mem_or_eq_of_mem_set hx with hx | hx
    · exact up (h1 x hx)
    · rw [hx]; exact (add (getD_le h1 p) hg).1
  | pay g a b hP ha hb _ hg ih =>
    intro hl
    rw [List.length_append] at hl ⊢
    obtain ⟨h1, h2⟩ := ih (by simp at hl; omega)
    refine ⟨fun x hx => ?_, fun d hd => (List.mem_append.mp hd).elim (h2 d) fun z => by rw [List.mem_singleton.mp z]; exact ⟨nat ha hP.len, nat hb hP.len⟩⟩
    rcases List.mem_or_eq_of_mem_set hx with hx | hx
    · rcases List.mem_or_eq_of_mem_set hx with hx | hx
      · exact up (h1 x hx)
      · rw [hx]; exact (add (getD_le h1 a) hg).2
    · rw [hx]; exact (add (getD_le h1 b) hg).1
  | gift g p hP hp hg ih =>
    intro hl
    rw [List.length_append] at hl ⊢
    obtain ⟨h1, h2⟩ := ih (by simp at hl; omega)
    refine ⟨fun x hx => ?_, fun d hd => (List.mem_append.mp hd).elim (h2 d) fun z => by rw [List.mem_singleton.mp z]; exact ⟨nat hp hP.len, sm hg⟩⟩
    rcases List.mem_or_eq_of_mem_set hx with hx | hx
    · exact up (h1 x hx)
    · rw [hx]; exact (add (getD_le h1 p) hg).1
  | @tell ps gs ns t row hP hl2 hrow _ ih =>
    intro hl
    rw [List.length_append] at hl ⊢
    have hl3 : ps.length ≤ 99 := by simp at hl; omega
    obtain ⟨h1, h2⟩ := ih (by omega)
    refine ⟨fun x hx => up (h1 x hx), fun d hd => (List.mem_append.mp hd).elim (h2 d) fun z => ?_⟩
    rw [List.mem_singleton.mp z]
    have nl := hP.len
    refine ⟨by omega, fun x hx => Nat.lt_of_lt_of_le (show x.natAbs < 2 ^ 10 by have := hrow x hx; omega) (Nat.pow_le_pow_right (by decide) (by decide)), ?_⟩
    have h3 := dot_le hrow h1 ns.length
    have h4 : ns.length * (99 * (ps.length * 2 ^ 700)) ≤ 10 * (99 * (99 * 2 ^ 700)) := Nat.mul_le_mul nl (Nat.mul_le_mul_left 99 (Nat.mul_le_mul_right _ hl3))
    refine Nat.lt_of_le_of_lt (Nat.le_trans h3 h4) ?_
    have h5 : (2 : Nat) ^ 1000 = 2 ^ 300 * 2 ^ 700 := by rw [← Nat.pow_add]
    rw [h5, ← Nat.mul_assoc, ← Nat.mul_assoc]
    exact Nat.mul_lt_mul_of_pos_right (by decide) (Nat.pow_pos (by decide))
theorem Past.lite {ps gs ns t} (h : Past ps gs ns t) (hl : ps.length ≤ 100) : Lite 0 ps := ⟨hl, (h.bound hl).2⟩
def WWithin : Wp := fun rs M Q => ∃ ps : List Deed, rs = [T ps] ∧ ps.length ≤ 1000 ∧ ∀ b : Bool, Q (T b) M
section
variable {P : Program} {w : World} {K : PySem.W.Frag} {mg : Str → Option Value} {base : Heap}
theorem ok_within (a : At K mg "_law_within" s__law_within) : Fx P w K mg base 1 "_law_within" s__law_within p__law_within WWithin := by
  refine fx_of a sc__law_within (fun rs M Q h => ?_) (fun _ _ _ _ _ _ us hl => match us, hl with | [_], _ => rfl) fun f cd A fr s G Z rs M Q hg hr h => ?_
  · obtain ⟨_, rfl, _⟩ := h; rfl
  obtain ⟨ps, rfl, hl, q⟩ := h
  refine bx_setLcM 1 (own := [("_law_deed", 3)]) (g := gName 3) (xs := ps) (φ := T) (f := Deed.word) rfl sc__law_within.nd (blkOk_by (N := n__law_within) (sc := defScope s__law_within) (by decide +kernel)) (fun _ _ _ _ _ => (pg_name (i := 3) sc__law_within.nd rfl (by first | exact Or.inl rfl | exact Or.inr rfl))) (ix_listT (dx_var 0) ⟨rfl, trivial, Nat.le_of_lt (Nat.lt_of_le_of_lt hl (by rw [sizeLine_eq]; decide)), fun d hd => ⟨_, tgS_name (by decide), fun _ _ _ _ _ => dx_ixU (r := T d.word) (dx_var 3) dx_int (deed_is d) atI_0⟩, .inl ?_⟩)
  refine bx_setD 2 sc__law_within.nd (dx_add (dx_add (fun Q q => ex_countS (go (dx_var 1) ⟨ps.map Deed.word, isL_T _, go dx_str ⟨_, rfl, rfl, q⟩⟩)) (fun Q q => ex_countS (go (dx_var 1) ⟨ps.map Deed.word, isL_T _, go dx_str ⟨_, rfl, rfl, q⟩⟩))) (fun Q q => ex_countS (go (dx_var 1) ⟨ps.map Deed.word, isL_T _, go dx_str ⟨_, rfl, rfl, q⟩⟩))) ?_
  exact bx_retD (dx_andV (dx_lt (fun Q q => ex_countS (go (dx_var 1) ⟨ps.map Deed.word, isL_T _, go dx_str ⟨_, rfl, rfl, q⟩⟩)) dx_int) fun _ => dx_andV (dx_lt (dx_var 2) dx_int) fun _ => dx_one (dx_lt (fun Q q => ex_countS (go (dx_var 1) ⟨ps.map Deed.word, isL_T _, go dx_str ⟨_, rfl, rfl, q⟩⟩)) dx_int)) (q _)
end
end K01
namespace K01
open PySem PySem.Spec PyProof.Rows L2 Hq
/-! ### histories put otherwise -/
def WOther : Wp := fun rs M Q => ∃ (b : Addr) (g : Bag) (c k : Nat) (ps : List Deed) (Z : Mem), rs = [.v (.ref b), T ps] ∧ M = bagM b g ++ Z ∧ g.Ok c ∧ c + 20 < 100000000 ∧ k ≤ 20 ∧ Lite k ps ∧ ∀ ps' g', Lite (k + 1) ps' → g'.Ok (c + 20) → Q (T ps') (bagM b g' ++ Z)
theorem DOk.up {k : Nat} {d : Deed} (h : DOk k d) : DOk (k + 1) d := by
  cases d with
  | tell row n =>
    obtain ⟨h1, h2, h3⟩ := h
    exact ⟨by omega, fun x hx => Nat.lt_trans (h2 x hx) (Nat.pow_lt_pow_right (by decide) (by omega)), h3⟩
  | _ => exact h
theorem deed_lay (d : Deed) : (td d).canLay0 = true := by
  cases d with
  | come => decide +kernel
  | stir p =>
    show (PyData.canLay0 (.str "stir") && (true && true)) = true
    rw [show PyData.canLay0 (.str "stir") = true by decide +kernel]; rfl
  | pay a b =>
    show (PyData.canLay0 (.str "pay") && (true && (true && true))) = true
    rw [show PyData.canLay0 (.str "pay") = true by decide +kernel]; rfl
  | gift p n =>
    show (PyData.canLay0 (.str "gift") && (true && (true && true))) = true
    rw [show PyData.canLay0 (.str "gift") = true by decide +kernel]; rfl
  | tell row n =>
    show (PyData.canLay0 (.str "tell") && (PyData.canLay0 (td row) && (true && true))) = true
    rw [show PyData.canLay0 (.str "tell") = true by decide +kernel, TQ.lay row]; rfl
theorem deed_dep (d : Deed) : (td d).depth ≤ 2 := by
  cases d with
  | tell row n => exact Nat.succ_le_succ (Nat.max_le.mpr ⟨Nat.zero_le _, Nat.max_le.mpr ⟨TQ.dle row, Nat.max_le.mpr ⟨Nat.zero_le _, Nat.zero_le _⟩⟩⟩)
  | come => show 1 ≤ 2; decide
  | stir p => show 1 ≤ 2; decide
  | pay a b => show 1 ≤ 2; decide
  | gift p n => show 1 ≤ 2; decide
theorem shaped_deeds (ps : List Deed) : SeqAt.shaped (.list (ps.map td)) = true := by
  unfold SeqAt.shaped
  rw [show PyData.canLay0 (.list (ps.map td)) = true from lay_map deed_lay ps, Bool.true_and, decide_eq_true_eq]
  exact Nat.le_trans (Nat.succ_le_succ (dep_map deed_dep ps)) (by decide)
section
variable {P : Program} {w : World} {K : PySem.W.Frag} {mg : Str → Option Value} {base : Heap}
theorem ok_other (B : Bt mg) (a : At K mg "_law_otherwise" s__law_otherwise) (GD : Fx P w K mg base 1 "_law_draw" s__law_draw p__law_draw WDraw) : Fx P w K mg base 2 "_law_otherwise" s__law_otherwise p__law_otherwise WOther := by
  refine fx_of a sc__law_otherwise (fun rs M Q h => ?_) (fun _ _ _ _ _ _ us hl => match us, hl with | [_, _], _ => rfl) fun f cd A fr s G Z rs M Q hg hr h => ?_
  · obtain ⟨_, _, _, _, _, _, rfl, _⟩ := h; rfl
  obtain ⟨b, g, c, k, ps, W, rfl, rfl, ok, hc, hk, hL, q⟩ := h
  have psl := hL.l
  have sz : ∀ {n : Nat}, n ≤ 1000 → n ≤ sizeLine := fun h => Nat.le_of_lt (Nat.lt_of_le_of_lt h (by rw [sizeLine_eq]; decide))
  refine bx_ifD (dt_eqNil hr (dx_var 1) (.d _) (shaped_deeds ps)) (fun _ => ?_) fun hne => bx_nil ?_
  · refine bx_ret ?_
    refine ex_ixL ?_
    refine go (dx_lst (da_cons (dx_lst (da_cons (dx_tup (da_cons dx_str (da_cons dx_int da_nil))) da_nil)) (da_cons (dx_lst (da_cons (dx_tup (da_cons dx_str (da_cons dx_int (da_cons dx_int da_nil)))) da_nil)) (da_cons (dx_lst (da_cons (dx_tup (da_cons dx_str (da_cons (dx_neg dx_int) (da_cons dx_int da_nil)))) da_nil)) (da_cons (dx_lst (da_cons (dx_tup (da_cons dx_str (da_cons (dx_lst (da_cons dx_int da_nil)) (da_cons dx_int da_nil)))) da_nil)) da_nil))))) ?_
    refine dr GD hg hr (dx_var 0) dx_int ok (by omega) (by decide) (fits10 (by decide)) fun v g1 h0 h1 ok1 => ?_
    obtain ⟨ls, hm, hl⟩ : ∃ ls : List Deed, atI [T [Deed.stir 0], T [Deed.pay 0 1], T [Deed.gift (-1) 5], T [Deed.tell [1] 0]] v = some (T ls) ∧ Lite (k + 1) ls := by
      have small : ∀ {i : Int}, i.natAbs < 2 ^ 10 → i.natAbs < 2 ^ 1000 := fun h => Nat.lt_of_lt_of_le h (Nat.pow_le_pow_right (by decide) (by decide))
      have one : ∀ {d : Deed}, DOk (k + 1) d → Lite (k + 1) [d] := fun h => ⟨by simp; omega, fun x hx => by rw [List.mem_singleton.mp hx]; exact h⟩
      have h4 : v = 0 ∨ v = 1 ∨ v = 2 ∨ v = 3 := by omega
      rcases h4 with rfl | rfl | rfl | rfl
      · exact ⟨_, rfl, one (small (by decide))⟩
      · exact ⟨_, rfl, one ⟨small (by decide), small (by decide)⟩⟩
      · exact ⟨_, rfl, one ⟨small (by decide), small (by decide)⟩⟩
      · exact ⟨_, rfl, one ⟨by simp; omega, fun x hx => by rw [List.mem_singleton.mp hx]; exact Nat.lt_of_lt_of_le (show (1 : Int).natAbs < 2 ^ 10 by decide) (Nat.pow_le_pow_right (by decide) (by omega)), small (by decide)⟩⟩
    exact ⟨_, v, _, .fz _, rfl, hm, q ls g1 hl (ok1.up (by omega) (by omega))⟩
  have pl : 0 < ps.length := by
    cases ps with
    | nil => simp at hne
    | cons d ps => simp
  have hd0 : DOk k (ps.getD 0 .come) := hL.d _ (getD_mem pl)
  refine bx_par 6 7 rfl sc__law_otherwise.nd ?_
  refine ax_cons (dr GD hg hr (dx_var 0) (dx_lenT B.len (dx_var 1)) ok (by omega) (by omega) (fits10 (by omega)) fun at1 g1 a1 b1 ok1 => ?_)
  refine ax_cons (dr GD hg hr (dx_var 0) (dx_lenT B.len (dx_var 1)) ok1 (by omega) (by omega) (fits10 (by omega)) fun to1 g2 a2 b2 ok2 => ?_)
  refine ax_nil ⟨_, _, rfl, ?_⟩
  obtain ⟨i, rfl⟩ : ∃ i : Nat, at1 = (i : Int) := ⟨at1.toNat, by omega⟩
  obtain ⟨j, rfl⟩ : ∃ j : Nat, to1 = (j : Int) := ⟨to1.toNat, by omega⟩
  have hi : i < ps.length := by omega
  have ten : ∀ {x : Int}, x.natAbs < 2 ^ 100 → x.natAbs < 2 ^ 1000 := fun h => Nat.lt_of_lt_of_le h (Nat.pow_le_pow_right (by decide) (by decide))
  refine bx_set 2 sc__law_otherwise.nd ?_
  refine ex_ixL ?_
  refine go (dx_lst (da_cons dx_int (da_cons dx_int (da_cons dx_int (da_cons dx_int (da_cons (dx_neg dx_int) (da_cons (dx_neg dx_int) (da_cons (dx_pow ⟨by decide, by decide, by decide⟩ dx_int dx_int) (da_cons (dx_sub dx_int (dx_pow ⟨by decide, by decide, by decide⟩ dx_int dx_int)) da_nil))))))))) ?_
  refine dr GD hg hr (dx_var 0) dx_int ok2 (by omega) (by decide) (fits10 (by decide)) fun v g3 h0 h1 ok3 => ?_
  obtain ⟨far, hm, hf⟩ : ∃ m : Int, atI [T (0 : Int), T (1 : Int), T (9 : Int), T (10 : Int), T (-1 : Int), T (-2 : Int), T ((10 : Int) ^ (28 : Int).toNat), T (0 - (10 : Int) ^ (28 : Int).toNat)] v = some (T m) ∧ m.natAbs < 2 ^ 1000 := by
    have h4 : v = 0 ∨ v = 1 ∨ v = 2 ∨ v = 3 ∨ v = 4 ∨ v = 5 ∨ v = 6 ∨ v = 7 := by clear ten; omega
    rcases h4 with rfl | rfl | rfl | rfl | rfl | rfl | rfl | rfl
    · exact ⟨_, rfl, ten (by decide +kernel)⟩
    · exact ⟨_, rfl, ten (by decide +kernel)⟩
    · exact ⟨_, rfl, ten (by decide +kernel)⟩
    · exact ⟨_, rfl, ten (by decide +kernel)⟩
    · exact ⟨_, rfl, ten (by decide +kernel)⟩
    · exact ⟨_, rfl, ten (by decide +kernel)⟩
    · exact ⟨_, rfl, ten (by decide +kernel)⟩
    · exact ⟨_, rfl, ten (by decide +kernel)⟩
  refine ⟨_, v, _, .fz _, rfl, hm, ?_⟩
  clear ten
  refine bx_setD 3 sc__law_otherwise.nd (dx_ixT (dx_var 1) (dx_var 6) (atI_getD (d := .come) hi)) ?_
  have hd : DOk k (ps.getD i .come) := hL.d _ (getD_mem hi)
  generalize hde : ps.getD i .come = d at hd
  refine bx_set 4 sc__law_otherwise.nd ?_
  refine dr GD hg hr (dx_var 0) dx_int ok3 (by omega) (by decide) (fits10 (by decide)) fun pick g4 h5 h6 ok4 => ?_
  have less : Lite (k + 1) (ps.take i ++ ps.drop (i + 1)) := ⟨by rw [List.length_append, List.length_take, List.length_drop]; omega, fun x hx => ((List.mem_append.mp hx).elim (fun h => hL.d x (List.mem_of_mem_take h)) fun h => hL.d x (List.mem_of_mem_drop h)).up⟩
  refine bx_ifD (dt_eq (α := Int) (x := pick) (y := 0) hr (dx_var 4) dx_int (.d _) (.d _)) (fun _ => ?_) fun _ => bx_nil ?_
  · refine bx_retD (dx_catT (dx_slT (dx_var 1) do_none (do_some (dx_var 6))) (dx_slT (dx_var 1) (do_some (dx_add (dx_var 6) dx_int)) do_none) ?_) ?_
    · exact sz (by have := cut_len (xs := ps) (lo := none) (hi := some (i : Int)); have := cut_len (xs := ps) (lo := some ((i : Int) + 1)) (hi := none); omega)
    · rw [cut_to, show ((i : Int) + 1) = ((i + 1 : Nat) : Int) from rfl, cut_from]
      exact q _ g4 less (ok4.up (by omega) (by omega))
  have mid : ∀ (xs : List Deed) (j : Nat) (e : Deed), xs.length ≤ 100 + k → (∀ x ∈ xs, DOk k x) → DOk (k + 1) e → Lite (k + 1) (xs.take j ++ [e] ++ xs.drop j) := fun xs j e hl hx he => ⟨by simp; omega, fun x h => by
    rcases List.mem_append.mp h with h | h
    · rcases List.mem_append.mp h with h | h
      · exact (hx x (List.mem_of_mem_take h)).up
      · rw [List.mem_singleton.mp h]; exact he
    · exact (hx x (List.mem_of_mem_drop h)).up⟩
  have cl : ∀ {xs : List Deed} {lo hi : Option Int}, (cut xs lo hi).length ≤ xs.length := fun {xs lo hi} => cut_len
  have cutE1 : cut ps (some ((i : Int) + 1)) none = ps.drop (i + 1) := by rw [show ((i : Int) + 1) = ((i + 1 : Nat) : Int) from rfl, cut_from]
  refine bx_ifD (dt_eq (α := Int) (x := pick) (y := 1) hr (dx_var 4) dx_int (.d _) (.d _)) (fun _ => ?_) fun _ => bx_nil ?_
  · refine bx_retD (dx_catT (dx_catT (ys := [d]) (dx_slT (dx_var 1) do_none (do_some (dx_var 7))) (dx_lst (da_cons (dx_var 3) da_nil)) ?_) (dx_slT (dx_var 1) (do_some (dx_var 7)) do_none) ?_) ?_
    · exact sz (by have := cl (xs := ps) (lo := none) (hi := some (j : Int)); simp; omega)
    · exact sz (by have := cl (xs := ps) (lo := none) (hi := some (j : Int)); have := cl (xs := ps) (lo := some (j : Int)) (hi := none); simp; omega)
    · rw [cut_to, cut_from]
      exact q _ g4 (mid ps j d psl hL.d hd.up) (ok4.up (by omega) (by omega))
  refine bx_ifD (dt_eq (α := Int) (x := pick) (y := 2) hr (dx_var 4) dx_int (.d _) (.d _)) (fun _ => ?_) fun _ => bx_nil ?_
  · have ll : (ps.take i ++ ps.drop (i + 1)).length ≤ 100 + k := by rw [List.length_append, List.length_take, List.length_drop]; omega
    refine bx_setD 8 sc__law_otherwise.nd (dx_catT (dx_slT (dx_var 1) do_none (do_some (dx_var 6))) (dx_slT (dx_var 1) (do_some (dx_add (dx_var 6) dx_int)) do_none) ?_) ?_
    · exact sz (by have := cl (xs := ps) (lo := none) (hi := some (i : Int)); have := cl (xs := ps) (lo := some ((i : Int) + 1)) (hi := none); omega)
    rw [cut_to, cutE1]
    generalize hle : ps.take i ++ ps.drop (i + 1) = left at ll
    have lx : ∀ x ∈ left, DOk k x := fun x hx => by
      rw [← hle] at hx
      exact (List.mem_append.mp hx).elim (fun h => hL.d x (List.mem_of_mem_take h)) fun h => hL.d x (List.mem_of_mem_drop h)
    refine bx_retD (dx_catT (dx_catT (ys := [d]) (dx_slT (xs := left) (dx_var 8) do_none (do_some (dx_var 7))) (dx_lst (da_cons (dx_var 3) da_nil)) ?_) (dx_slT (xs := left) (dx_var 8) (do_some (dx_var 7)) do_none) ?_) ?_
    · exact sz (by have := cl (xs := left) (lo := none) (hi := some (j : Int)); simp; omega)
    · exact sz (by have := cl (xs := left) (lo := none) (hi := some (j : Int)); have := cl (xs := left) (lo := some (j : Int)) (hi := none); simp; omega)
    · rw [cut_to, cut_from]
      exact q _ g4 (mid left j d ll lx hd.up) (ok4.up (by omega) (by omega))
  refine bx_set 5 sc__law_otherwise.nd ?_
  refine ex_ixL ?_
  refine go (dx_lst (da_cons (dx_tup (da_cons dx_str da_nil)) (da_cons (dx_tup (da_cons dx_str (da_cons (dx_var 2) da_nil))) (da_cons (dx_tup (da_cons dx_str (da_cons (dx_var 2) (da_cons dx_int da_nil)))) (da_cons (dx_tup (da_cons dx_str (da_cons (dx_var 2) (da_cons dx_int da_nil)))) (da_cons (dx_tup (da_cons dx_str (da_cons dx_int (da_cons (dx_var 2) da_nil)))) da_nil)))))) ?_
  refine dr GD hg hr (dx_var 0) dx_int ok4 (by omega) (by decide) (fits10 (by decide)) fun v2 g5 h7 h8 ok5 => ?_
  have small : ∀ {i : Int}, i.natAbs < 2 ^ 10 → i.natAbs < 2 ^ 1000 := fun h => Nat.lt_of_lt_of_le h (Nat.pow_le_pow_right (by decide) (by decide))
  obtain ⟨nw, hm2, hn⟩ : ∃ nw : Deed, atI [T Deed.come, T (Deed.stir far), T (Deed.gift far 3), T (Deed.pay far 0), T (Deed.pay 0 far)] v2 = some (T nw) ∧ DOk (k + 1) nw := by
    have h4 : v2 = 0 ∨ v2 = 1 ∨ v2 = 2 ∨ v2 = 3 ∨ v2 = 4 := by clear small hf; omega
    rcases h4 with rfl | rfl | rfl | rfl | rfl
    · exact ⟨_, rfl, trivial⟩
    · exact ⟨_, rfl, hf⟩
    · exact ⟨_, rfl, hf, small (by decide)⟩
    · exact ⟨_, rfl, hf, small (by decide)⟩
    · exact ⟨_, rfl, small (by decide), hf⟩
  refine ⟨_, v2, _, .fz _, rfl, hm2, ?_⟩
  clear small
  refine bx_cutT (fun nw : Deed => [.v (.ref b), T ps, T far, T d, T pick, T nw, T (i : Int), .no, .no, .no, .no]) (fun nw M => DOk (k + 1) nw ∧ ∃ g', M = bagM b g' ++ W ∧ g'.Ok (c + 8)) ?_ fun nw M ⟨hn, g6, e, ok6⟩ => ?_
  · have wd : ∀ {ds : List R} {M : Mem} {v : Str} {j : Nat} {p1 p2 p3 p4 p5 : Pos}, ds[3]? = some (T d) → DT (bX P w K mg base n__law_otherwise "_law_otherwise" s__law_otherwise f cd A fr s G Z) (.Compare (.Subscript (.Name "_law_deed" p1) (.Constant (.int 0) 0 p2) p3) [.Eq] [.Constant (.str v) j p4] p5) ds M (decide (d.word = v)) M := fun h => dt_eqS (dx_ixU (dx_var 3 h) dx_int (deed_is d) atI_0) dx_str
    refine sx_ifD (dt_w (dw_and (wd rfl) fun _ => dw_and1 (dt_lt (dx_var 4) dx_int))) (fun h => ?_) fun _ => bx_nil ⟨nw, (by refine ⟨?_, ?_, ?_, ?_, ?_, ?_, ?_, ?_, ?_, ?_, ?_, trivial⟩ <;> first | exact .inr rfl | exact .inl rfl), hn, g5, rfl, ok5.up (by omega) (by omega)⟩
    rw [Bool.and_eq_true] at h
    cases d with
    | tell row n =>
      obtain ⟨r1, r2, r3⟩ := hd
      have rowD : ∀ {ds : List R} {M : Mem} {j : Nat} {p1 p2 p3 : Pos}, ds[3]? = some (T (Deed.tell row n)) → DX (bX P w K mg base n__law_otherwise "_law_otherwise" s__law_otherwise f cd A fr s G Z) (.Subscript (.Name "_law_deed" p1) (.Constant (.int 1) j p2) p3) ds M (T row) M := fun h => dx_ixU (rs := [T ("tell" : Str), T row, T n]) (dx_var 3 h) dx_int (.fz [.str "tell", td row, .int n]) atI_1
      refine bx_setLcM 9 (own := [("_law_weight", 10)]) (g := gName 10) (xs := row) (φ := T) (f := fun x => x + (10 : Int) ^ (28 : Int).toNat) rfl sc__law_otherwise.nd (blkOk_by (N := n__law_otherwise) (sc := defScope s__law_otherwise) (by decide +kernel)) (fun _ _ _ _ _ => (pg_name (i := 10) sc__law_otherwise.nd rfl (by first | exact Or.inl rfl | exact Or.inr rfl))) (ix_listT (rowD rfl) ⟨rfl, trivial, sz (by omega), fun x hx => ⟨_, tgS_name (by decide), fun _ _ _ _ _ => (dx_add (dx_var 10) (dx_pow ⟨by decide, by decide, by decide⟩ dx_int dx_int))⟩, .inl ?_⟩)
      refine bx_set 5 sc__law_otherwise.nd ?_
      refine ex_tup (ax_cons (go dx_str (ax_cons (ex_ixL ?_))))
      refine go (dx_lst (da_cons (dx_catT (ys := [(1 : Int)]) (rowD rfl) (dx_lst (da_cons dx_int da_nil)) (sz (by simp; omega))) (da_cons (dx_slT (rowD rfl) (do_some dx_int) do_none) (da_cons (dx_slT (rowD rfl) do_none (do_some (dx_neg dx_int))) (da_cons (dx_lst da_nil) (da_cons (dx_var 9) da_nil)))))) ?_
      refine dr GD hg hr (dx_var 0) dx_int ok5 (by omega) (by decide) (fits10 (by decide)) fun v3 g6 h9 h10 ok6 => ?_
      obtain ⟨row', hm3, q1, q2⟩ : ∃ row' : List Int, atI [T (row ++ [(1 : Int)]), T (cut row (some 1) none), T (cut row none (some (-1))), T ([] : List Int), T (row.map fun x => x + (10 : Int) ^ (28 : Int).toNat)] v3 = some (T row') ∧ row'.length ≤ 10 + (k + 1) ∧ ∀ x ∈ row', x.natAbs < 2 ^ (200 + (k + 1)) := by
        have up : ∀ {x : Int}, x.natAbs < 2 ^ (200 + k) → x.natAbs < 2 ^ (200 + (k + 1)) := fun h => Nat.lt_trans h (Nat.pow_lt_pow_right (by decide) (by omega))
        have c1 : (cut row (some 1) none).length ≤ row.length := cut_len
        have c2 : (cut row none (some (-1))).length ≤ row.length := cut_len
        have h4 : v3 = 0 ∨ v3 = 1 ∨ v3 = 2 ∨ v3 = 3 ∨ v3 = 4 := by clear r2 r3 up; omega
        rcases h4 with rfl | rfl | rfl | rfl | rfl
        · refine ⟨_, rfl, by simp; omega, fun x hx => ?_⟩
          rcases List.mem_append.mp hx with hx | hx
          · exact up (r2 x hx)
          · rw [List.mem_singleton.mp hx]
            exact Nat.lt_of_lt_of_le (show (1 : Int).natAbs < 2 ^ 10 by decide) (Nat.pow_le_pow_right (by decide) (by omega))
        · exact ⟨_, rfl, by omega, fun x hx => up (r2 x (cut_mem hx))⟩
        · exact ⟨_, rfl, by omega, fun x hx => up (r2 x (cut_mem hx))⟩
        · exact ⟨_, rfl, Nat.zero_le _, fun x hx => (nomatch hx)⟩
        · refine ⟨_, rfl, by rw [List.length_map]; omega, fun x hx => ?_⟩
          obtain ⟨y, hy, rfl⟩ := List.mem_map.mp hx
          have y1 := r2 y hy
          have y2 : ((10 : Int) ^ (28 : Int).toNat).natAbs ≤ 2 ^ (200 + k) := Nat.le_trans (show _ ≤ 2 ^ 200 by decide +kernel) (Nat.pow_le_pow_right (by decide) (by omega))
          have y3 := Int.natAbs_add_le y ((10 : Int) ^ (28 : Int).toNat)
          rw [show 200 + (k + 1) = (200 + k) + 1 from rfl, Nat.pow_succ, Nat.mul_two]
          exact Nat.lt_of_le_of_lt y3 (Nat.add_lt_add_of_lt_of_le y1 y2)
      refine ⟨_, v3, _, .fz _, rfl, hm3, ?_⟩
      refine ax_cons (go (dx_ixU (rs := [T ("tell" : Str), T row, T n]) (dx_var 3) dx_int (.fz [.str "tell", td row, .int n]) atI_2) ?_)
      exact ax_nil ⟨[.str "tell", td row', .int n], rfl, small64 (show 3 < 64 by decide), bx_nil ⟨.tell row' n, (by refine ⟨?_, ?_, ?_, ?_, ?_, ?_, ?_, ?_, ?_, ?_, ?_, trivial⟩ <;> first | exact .inr rfl | exact .inl rfl), ⟨q1, q2, r3⟩, g6, rfl, ok6.up (by omega) (by omega)⟩⟩
    | come => exact absurd (show decide (("come" : Str) = "tell") = true from h.1) (by decide +kernel)
    | stir u => exact absurd (show decide (("stir" : Str) = "tell") = true from h.1) (by decide +kernel)
    | pay u v => exact absurd (show decide (("pay" : Str) = "tell") = true from h.1) (by decide +kernel)
    | gift u v => exact absurd (show decide (("gift" : Str) = "tell") = true from h.1) (by decide +kernel)
  subst e
  refine bx_cutT (fun nw : Deed => [.v (.ref b), T ps, T far, T d, T pick, T nw, T (i : Int), .no, .no, .no, .no]) (fun nw M => DOk (k + 1) nw ∧ ∃ g', M = bagM b g' ++ W ∧ g'.Ok (c + 10)) ?_ fun nw M ⟨hn, g7, e, ok7⟩ => ?_
  · have wd : ∀ {ds : List R} {M : Mem} {v : Str} {j : Nat} {p1 p2 p3 p4 p5 : Pos}, ds[3]? = some (T d) → DT (bX P w K mg base n__law_otherwise "_law_otherwise" s__law_otherwise f cd A fr s G Z) (.Compare (.Subscript (.Name "_law_deed" p1) (.Constant (.int 0) 0 p2) p3) [.Eq] [.Constant (.str v) j p4] p5) ds M (decide (d.word = v)) M := fun h => dt_eqS (dx_ixU (dx_var 3 h) dx_int (deed_is d) atI_0) dx_str
    refine sx_ifD (dt_w (dw_and (wd rfl) fun _ => dw_and1 (dt_lt (dx_var 4) dx_int))) (fun h => ?_) fun _ => bx_nil ⟨nw, (by refine ⟨?_, ?_, ?_, ?_, ?_, ?_, ?_, ?_, ?_, ?_, ?_, trivial⟩ <;> first | exact .inr rfl | exact .inl rfl), hn, g6, rfl, ok6.up (by omega) (by omega)⟩
    rw [Bool.and_eq_true] at h
    cases d with
    | pay u v =>
      obtain ⟨r1, r2⟩ := hd
      have at1 : ∀ {ds : List R} {M : Mem} {j : Nat} {p1 p2 p3 : Pos}, ds[3]? = some (T (Deed.pay u v)) → DX (bX P w K mg base n__law_otherwise "_law_otherwise" s__law_otherwise f cd A fr s G Z) (.Subscript (.Name "_law_deed" p1) (.Constant (.int 1) j p2) p3) ds M (T u) M := fun h => dx_ixU (rs := [T ("pay" : Str), T u, T v]) (dx_var 3 h) dx_int (.fz [.str "pay", .int u, .int v]) atI_1
      have at2 : ∀ {ds : List R} {M : Mem} {j : Nat} {p1 p2 p3 : Pos}, ds[3]? = some (T (Deed.pay u v)) → DX (bX P w K mg base n__law_otherwise "_law_otherwise" s__law_otherwise f cd A fr s G Z) (.Subscript (.Name "_law_deed" p1) (.Constant (.int 2) j p2) p3) ds M (T v) M := fun h => dx_ixU (rs := [T ("pay" : Str), T u, T v]) (dx_var 3 h) dx_int (.fz [.str "pay", .int u, .int v]) atI_2
      refine bx_set 5 sc__law_otherwise.nd ?_
      refine ex_ixL ?_
      refine go (dx_lst (da_cons (dx_tup (da_cons dx_str (da_cons (at1 rfl) (da_cons (at1 rfl) da_nil)))) (da_cons (dx_tup (da_cons dx_str (da_cons (dx_var 2) (da_cons (at2 rfl) da_nil)))) (da_cons (dx_tup (da_cons dx_str (da_cons (at1 rfl) (da_cons (dx_var 2) da_nil)))) da_nil)))) ?_
      refine dr GD hg hr (dx_var 0) dx_int ok6 (by omega) (by decide) (fits10 (by decide)) fun v3 g7 h9 h10 ok7 => ?_
      obtain ⟨nw2, hm3, hn2⟩ : ∃ nw2 : Deed, atI [T (Deed.pay u u), T (Deed.pay far v), T (Deed.pay u far)] v3 = some (T nw2) ∧ DOk (k + 1) nw2 := by
        have h4 : v3 = 0 ∨ v3 = 1 ∨ v3 = 2 := by clear r1 r2 hf; omega
        rcases h4 with rfl | rfl | rfl
        · exact ⟨_, rfl, r1, r1⟩
        · exact ⟨_, rfl, hf, r2⟩
        · exact ⟨_, rfl, r1, hf⟩
      exact ⟨_, v3, _, .fz _, rfl, hm3, bx_nil ⟨nw2, (by refine ⟨?_, ?_, ?_, ?_, ?_, ?_, ?_, ?_, ?_, ?_, ?_, trivial⟩ <;> first | exact .inr rfl | exact .inl rfl), hn2, g7, rfl, ok7.up (by omega) (by omega)⟩⟩
    | come => exact absurd (show decide (("come" : Str) = "pay") = true from h.1) (by decide +kernel)
    | stir u => exact absurd (show decide (("stir" : Str) = "pay") = true from h.1) (by decide +kernel)
    | tell u v => exact absurd (show decide (("tell" : Str) = "pay") = true from h.1) (by decide +kernel)
    | gift u v => exact absurd (show decide (("gift" : Str) = "pay") = true from h.1) (by decide +kernel)
  subst e
  refine bx_retD (dx_catT (dx_catT (ys := [nw]) (dx_slT (dx_var 1) do_none (do_some (dx_var 6))) (dx_lst (da_cons (dx_var 5) da_nil)) ?_) (dx_slT (dx_var 1) (do_some (dx_add (dx_var 6) dx_int)) do_none) ?_) ?_
  · exact sz (by have := cl (xs := ps) (lo := none) (hi := some (i : Int)); simp; omega)
  · exact sz (by have := cl (xs := ps) (lo := none) (hi := some (i : Int)); have := cl (xs := ps) (lo := some ((i : Int) + 1)) (hi := none); simp; omega)
  · rw [cut_to, cutE1]
    refine q _ g7 ⟨by simp; omega, fun x h => ?_⟩ (ok7.up (by omega) (by omega))
    rcases List.mem_append.mp h with h | h
    · rcases List.mem_append.mp h with h | h
      · exact (hL.d x (List.mem_of_mem_take h)).up
      · rw [List.mem_singleton.mp h]; exact hn
    · exact (hL.d x (List.mem_of_mem_drop h)).up
end
end K01
namespace K01
open PySem PySem.Spec PyProof.Rows L2 Hq
/-! ### prefixes -/
theorem fault_ge : ∀ (ps : List Deed) (n m : Nat) (c : Int), faultFrom ps n c = some m → n ≤ m
  | [], _, _, _, h => nomatch h
  | d :: ps, n, m, c, h => by
    simp only [faultFrom] at h
    split at h
    · cases h; exact Nat.le_refl _
    · exact Nat.le_of_succ_le (fault_ge ps (n + 1) m _ h)
def upTo (o : Option Nat) (k : Nat) : Option Nat := match o with
  | none => none
  | some m => if k ≤ m then none else some m
theorem fault_take : ∀ (ps : List Deed) (k n : Nat) (c : Int), faultFrom (ps.take k) n c = upTo (faultFrom ps n c) (n + k)
  | [], k, n, c => by rw [List.take_nil]; rfl
  | d :: ps, 0, n, c => by
    rw [List.take_zero]
    cases h : faultFrom (d :: ps) n c with
    | none => rfl
    | some m =>
      have := fault_ge _ _ _ _ h
      simp only [upTo]
      rw [if_pos (by omega)]; rfl
  | d :: ps, k + 1, n, c => by
    rw [List.take_succ_cons]
    simp only [faultFrom]
    by_cases hb : bad d c = true
    · rw [if_pos hb, if_pos hb]
      simp only [upTo]
      rw [if_neg (by omega)]
    · rw [if_neg hb, if_neg hb, fault_take ps k (n + 1), show n + 1 + k = n + (k + 1) by omega]
/-! ### how long their repr is -/
theorem sho_word {w : Str} (h : PyData.showable (.str w) = true) (h2 : PyData.hasDict (.str w) = false) (h3 : PyData.depth (.str w) = 0) (h4 : cost (.str w) ≤ 1922) : Sho 1922 0 (.str w) := ⟨h, h2, Nat.le_of_eq h3, h4⟩
theorem sho_i {i : Int} {n : Nat} (h : i.natAbs < 2 ^ n) (hn : n ≤ 1919) : Sho 1922 0 (.int i) := Sho.int (Nat.lt_of_lt_of_le h (Nat.pow_le_pow_right (by decide) hn))
theorem sho_row {row : List Int} (k : Nat) (hk : k ≤ 10) (l : row.length ≤ 10 + k) (h : ∀ x ∈ row, x.natAbs < 2 ^ (200 + k)) : Sho 40000 1 (td row) :=
  (Sho.listT (k := 20) (c := 1922) (n := 0) (fun x hx => sho_i (h x hx) (by omega)) (by omega)).mono (by decide) (by decide)
theorem sho_deed {k : Nat} {d : Deed} (hk : k ≤ 10) (h : DOk k d) : Sho 130000 2 (td d) := by
  have tup : ∀ {ds : List PyData}, ds.length ≤ 3 → (∀ x ∈ ds, Sho 40000 1 x) → Sho 130000 2 (.tuple ds) := fun h1 h2 => (Sho.tuple (k := 3) h2 h1).mono (by decide) (by decide)
  have up : ∀ {x : PyData}, Sho 1922 0 x → Sho 40000 1 x := fun h => h.mono (by decide) (by decide)
  have w1 : Sho 40000 1 (.str "come") := up (sho_word (by decide +kernel) (by decide +kernel) (by decide +kernel) (by decide +kernel))
  have w2 : Sho 40000 1 (.str "stir") := up (sho_word (by decide +kernel) (by decide +kernel) (by decide +kernel) (by decide +kernel))
  have w3 : Sho 40000 1 (.str "pay") := up (sho_word (by decide +kernel) (by decide +kernel) (by decide +kernel) (by decide +kernel))
  have w4 : Sho 40000 1 (.str "gift") := up (sho_word (by decide +kernel) (by decide +kernel) (by decide +kernel) (by decide +kernel))
  have w5 : Sho 40000 1 (.str "tell") := up (sho_word (by decide +kernel) (by decide +kernel) (by decide +kernel) (by decide +kernel))
  have i1 : ∀ {i : Int}, i.natAbs < 2 ^ 1000 → Sho 40000 1 (.int i) := fun h => up (sho_i h (by decide))
  cases d with
  | come => exact tup (by decide) fun x hx => by rw [List.mem_singleton.mp hx]; exact w1
  | stir p =>
    exact tup (show 2 ≤ 3 by decide) fun x hx => by
      rcases List.mem_cons.mp hx with e | hx
      · rw [e]; exact w2
      · rw [List.mem_singleton.mp hx]; exact i1 h
  | pay a b =>
    exact tup (show 3 ≤ 3 by decide) fun x hx => by
      rcases List.mem_cons.mp hx with e | hx
      · rw [e]; exact w3
      rcases List.mem_cons.mp hx with e | hx
      · rw [e]; exact i1 h.1
      · rw [List.mem_singleton.mp hx]; exact i1 h.2
  | gift p n =>
    exact tup (show 3 ≤ 3 by decide) fun x hx => by
      rcases List.mem_cons.mp hx with e | hx
      · rw [e]; exact w4
      rcases List.mem_cons.mp hx with e | hx
      · rw [e]; exact i1 h.1
      · rw [List.mem_singleton.mp hx]; exact i1 h.2
  | tell row n =>
    exact tup (show 3 ≤ 3 by decide) fun x hx => by
      rcases List.mem_cons.mp hx with e | hx
      · rw [e]; exact w5
      rcases List.mem_cons.mp hx with e | hx
      · rw [e]; exact sho_row k hk h.1 h.2.1
      · rw [List.mem_singleton.mp hx]; exact i1 h.2.2
theorem sho_deeds {k : Nat} {ps : List Deed} (hk : k ≤ 10) (h : Lite k ps) : Sho 15000000 3 (td ps) :=
  (Sho.listT (k := 110) (fun d hd => sho_deed hk (h.d d hd)) (by have := h.l; omega)).mono (by decide) (by decide)
end K01
namespace K01
open PySem PySem.Spec PyProof.Rows L2 Hq
/-! ### the law -/
def WLaw : Wp := fun rs M Q => ∃ ns : List Int, rs = [.s ns] ∧ M = [] ∧ ∀ M', Q (T true) M'
theorem Lite.mono {k j : Nat} {ps : List Deed} (h : Lite k ps) (l : k ≤ j) : Lite j ps := by
  induction l with
  | refl => exact h
  | step _ ih => exact ⟨by have := ih.l; omega, fun d hd => (ih.d d hd).up⟩
section
variable {P : Program} {w : World} {K : PySem.W.Frag} {mg : Str → Option Value} {base : Heap}
theorem ok_law (B : Bt mg) (a : At K mg "law" s_law) (GB : Fx P w K mg base 1 "_law_bag" s__law_bag p__law_bag WBag) (GD : Fx P w K mg base 1 "_law_draw" s__law_draw p__law_draw WDraw) (GP : Fx P w K mg base 3 "_law_past" s__law_past p__law_past WPast) (GO : Fx P w K mg base 2 "_law_otherwise" s__law_otherwise p__law_otherwise WOther)
    (GW : Fx P w K mg base 1 "_law_within" s__law_within p__law_within WWithin) (GU : Fx P w K mg base 1 "_law_due" s__law_due p__law_due WDueF) (GF : Fx P w K mg base 2 "fault" s_fault p_fault WFault) (GA : Fx P w K mg base 1 "_law_alike" s__law_alike p__law_alike WAlikeF) : Fx P w K mg base 4 "law" s_law p_law WLaw := by
  refine fx_of a sc_law (fun rs M Q h => ?_) (fun _ _ _ _ _ _ us hl => match us, hl with | [_], _ => rfl) fun f cd A fr s G Z rs M Q hg hr h => ?_
  · obtain ⟨_, rfl, _⟩ := h; rfl
  obtain ⟨ns, rfl, rfl, q⟩ := h
  have hr1 := hr.mono (j := 1) (by decide)
  have hr2 := hr.mono (j := 2) (by decide)
  refine bx_set 1 sc_law.nd (ex_call GB hg hr1 (ax_cons ((dx_var 0) _ (ax_nil ⟨ns, rfl, fun b g ok => ?_⟩))))
  refine bx_forT (List.range 8) (fun (i : Nat) => T (i : Int)) (fun _ : Unit => [.s ns, .v (.ref b), .no, .no, .no, .no, .no, .no, .no]) (fun i _ M => ∃ g', M = bagM b g' ++ [] ∧ g'.Ok (4000 * i)) rfl PassesOwn.never (ix_rangeD B.range dx_int (by decide) (by decide) ⟨rfl, fun _ _ _ _ => trivial, ⟨(), (by refine ⟨?_, ?_, ?_, ?_, ?_, ?_, ?_, ?_, ?_, trivial⟩ <;> first | exact .inr rfl | exact .inl rfl), g, rfl, ok⟩, fun i x s M hx ⟨g1, e, ok1⟩ => ?_, fun s M ⟨p', e, ok'⟩ => ?_⟩)
  · subst e
    have hi : i < 8 := by
      have := (List.getElem?_eq_some_iff.mp hx).1
      rwa [List.length_range] at this
    refine gx_name 2 sc_law.nd ?_
    refine bx_set 3 sc_law.nd (ex_ixT (ex_call GP hg hr (ax_cons ((dx_var 1) _ (ax_cons (ex_ixL ?_))))))
    refine go (dx_lst (da_cons dx_int (da_cons dx_int (da_cons dx_int da_nil)))) ?_
    refine ex_call GD hg hr1 (ax_cons ((dx_var 1) _ (ax_cons (dx_int _ (ax_nil ⟨b, g1, 4000 * i, 3, [], rfl, rfl, ok1, by omega, by decide, fits10 (by decide), fun v g2 v0 v3 ok2 => ?_⟩)))))
    obtain ⟨m, hm, hmn⟩ : ∃ m : Nat, atI [T (40 : Int), T (40 : Int), T (90 : Int)] v = some (T (m : Int)) ∧ m ≤ 100 := by
      have h4 : v = 0 ∨ v = 1 ∨ v = 2 := by omega
      rcases h4 with rfl | rfl | rfl
      · exact ⟨40, rfl, by decide⟩
      · exact ⟨40, rfl, by decide⟩
      · exact ⟨90, rfl, by decide⟩
    refine ⟨_, v, _, .fz _, rfl, hm, ax_nil ⟨b, g2, 4000 * i + 1, m, [], rfl, rfl, ok2, hmn, by omega, fun ps gs us t g3 hp hpl ok3 => ?_⟩⟩
    refine dx_int _ ⟨[T ps, T gs], 0, T ps, .fz [td ps, td gs], rfl, rfl, ?_⟩
    have hL : Lite 0 ps := hp.lite (by omega)
    clear hp hpl
    -- one thing otherwise
    refine bx_forE (γ := Nat) (fun (i : Nat) => T (i : Int)) (fun ps : List Deed => [.s ns, .v (.ref b), .no, T ps, .no, .no, .no, .no, .no]) (fun j ps M => j ≤ 3 ∧ Lite j ps ∧ ∃ g', M = bagM b g' ++ [] ∧ g'.Ok (4000 * i + 3100 + 20 * j)) rfl PassesOwn.never ?_
    refine ix_range B.range (ex_call GD hg hr1 (ax_cons ((dx_var 1) _ (ax_cons (dx_int _ (ax_nil ⟨b, g3, 4000 * i + 1 + 3000, 4, [], rfl, rfl, ok3, by omega, by decide, fits10 (by decide), fun v g4 v0 v4 ok4 => ⟨v, rfl, by omega, by omega, List.range v.toNat, rfl, fun _ _ _ _ => trivial, ⟨ps, (by refine ⟨?_, ?_, ?_, ?_, ?_, ?_, ?_, ?_, ?_, trivial⟩ <;> first | exact .inr rfl | exact .inl rfl), by omega, hL, g4, rfl, ok4.up (by omega) (by omega)⟩, fun j x ps M hx ⟨hj, hL, g5, e, ok5⟩ => ?_, fun ps M ⟨hj, hL, g4, e, ok4⟩ => ?_⟩⟩))))))
    · subst e
      have hj2 : j < v.toNat := by
        have := (List.getElem?_eq_some_iff.mp hx).1
        rwa [List.length_range] at this
      refine gx_name 4 sc_law.nd ?_
      refine bx_set 8 sc_law.nd (ex_call GO hg hr2 (ax_cons ((dx_var 1) _ (ax_cons ((dx_var 3) _ (ax_nil ⟨b, g5, 4000 * i + 3100 + 20 * j, j, ps, [], rfl, rfl, ok5, by omega, by omega, hL, fun ps' g6 hL2 ok6 => ?_⟩))))))
      refine bx_set 3 sc_law.nd (ex_if (tx_val (ex_call GW hg hr1 (ax_cons ((dx_var 8) _ (ax_nil ⟨ps', rfl, by have := hL2.l; omega, fun wb => ⟨wb, rfl, ?_⟩⟩))))))
      cases wb with
      | true => exact (dx_var 8) _ (bx_nil ⟨ps', (by refine ⟨?_, ?_, ?_, ?_, ?_, ?_, ?_, ?_, ?_, trivial⟩ <;> first | exact .inr rfl | exact .inl rfl), by omega, hL2, g6, rfl, ok6.up (by omega) (by omega)⟩)
      | false => exact (dx_var 3) _ (bx_nil ⟨ps, (by refine ⟨?_, ?_, ?_, ?_, ?_, ?_, ?_, ?_, ?_, trivial⟩ <;> first | exact .inr rfl | exact .inl rfl), by omega, hL.mono (by omega), g6, rfl, ok6.up (by omega) (by omega)⟩)
    replace hL : Lite 5 ps := hL.mono (by omega)
    replace ok4 : g4.Ok (4000 * i + 3900) := ok4.up (by omega) (by omega)
    subst e
    have hl1 : ps.length ≤ 1000 := by have := hL.l; omega
    have sho : Sho 15000000 3 (.list (ps.map td)) := sho_deeds (k := 5) (by decide) hL
    refine bx_setD 5 sc_law.nd (dx_repr hg hr B.repr (xs := ps.map td) (dx_var 3) (.d _) sho (by decide) (by decide)) ?_
    refine bx_set 6 sc_law.nd (ex_call GU hg hr1 (ax_cons ((dx_var 3) _ (ax_nil ⟨ps, rfl, hl1, ?_⟩))))
    generalize ho : faultFrom ps 0 0 = o
    rw [optR_d]
    refine bx_ifD (k := false) (dt_w (dw_or (k1 := false) (dt_not (k1 := true) (dt_val (M1 := bagM b g4 ++ []) fun Q q => ex_call GA hg hr1 (ax_cons (ex_call GF hg hr2 (ax_cons ((dx_var 3) _ (ax_nil ⟨ps, rfl, hl1, ?_⟩))))))) fun _ => dw_or1 (dt_not (k1 := true) (dt_val (M1 := bagM b g4 ++ []) fun Q q => ex_call GA hg hr1 (ax_cons (ex_callKw [0] ["history"] GF hg hr2 (kx_cons ((dx_var 3) _ (kx_nil ⟨rfl, ps, rfl, hl1, ?_⟩))) (by decide) (fun _ _ _ _ _ _ ws hl => match ws, hl with | [_], _ => rfl))))))) (fun h => nomatch h) fun _ => bx_nil ?_
    · rw [ho]; exact ax_cons ((dx_var 6) _ (ax_nil ⟨o, by rw [optR_d], q⟩))
    · rw [ho]; exact ax_cons ((dx_var 6) _ (ax_nil ⟨o, by rw [optR_d], q⟩))
    refine bx_forT (List.range (ps.length + 1)) (fun (i : Nat) => T (i : Int)) (fun _ : Unit => [.s ns, .v (.ref b), .no, T ps, .no, T (PyData.shown (.list (ps.map td))), .d (optD o), .no, .no]) (fun i _ M => M = bagM b g4 ++ []) rfl PassesOwn.never (ix_rangeD B.range (dx_add (dx_lenT B.len (dx_var 3)) dx_int) (by omega) (by omega) ⟨by rw [show ((ps.length : Int) + 1).toNat = ps.length + 1 by omega]; rfl, fun _ _ _ _ => trivial, ⟨(), (by refine ⟨?_, ?_, ?_, ?_, ?_, ?_, ?_, ?_, ?_, trivial⟩ <;> first | exact .inr rfl | exact .inl rfl), rfl⟩, fun k x s M hx e => ?_, fun s M e => ?_⟩)
    · subst e
      refine gx_name 7 sc_law.nd ?_
      refine bx_ifD (k := !true) (dt_not (k1 := true) (dt_val (M1 := bagM b g4 ++ []) fun Q q => ex_call GA hg hr1 (ax_cons (ex_call GF hg hr2 (ax_cons (dx_slT (dx_var 3) do_none (do_some (dx_var 7)) _ (ax_nil ⟨cut ps none (some (x : Int)), rfl, Nat.le_trans cut_len hl1, ?_⟩))))))) (fun h => nomatch h) fun _ => bx_nil (bx_nil ⟨(), (by refine ⟨?_, ?_, ?_, ?_, ?_, ?_, ?_, ?_, ?_, trivial⟩ <;> first | exact .inr rfl | exact .inl rfl), rfl⟩)
      rw [cut_to, fault_take, ho]
      cases o with
      | none => exact ax_cons (ex_if ((dt_w (dw_or (k1 := true) (k2 := true) (dt_isN (x := .none) (dx_var 6)) fun h => nomatch h)) _ (dx_non _ (ax_nil ⟨none, rfl, q⟩))))
      | some m =>
        refine ax_cons (ex_if ((dt_w (dw_or (k1 := false) (dt_isN (x := .int m) (dx_var 6)) fun _ => dw_or1 (dt_le (i := (x : Int)) (j := (m : Int)) (dx_var 7) (dx_var 6)))) _ ?_))
        by_cases hx : (0 + x) ≤ m
        · rw [show (false || decide ((x : Int) ≤ (m : Int))) = true by simp; omega, if_pos rfl]
          refine dx_non _ (ax_nil ⟨none, ?_, q⟩)
          simp only [upTo]; rw [if_pos hx]; rfl
        · rw [show (false || decide ((x : Int) ≤ (m : Int))) = false by simp; omega, if_neg Bool.false_ne_true]
          refine (dx_var 6) _ (ax_nil ⟨some m, ?_, q⟩)
          simp only [upTo]; rw [if_neg hx]; rfl
    subst e
    refine bx_ifD (dt_neS (dx_repr hg hr B.repr (xs := ps.map td) (dx_var 3) (.d _) sho (by decide) (by decide)) (dx_var 5)) (fun h => absurd h (by rw [decide_eq_true rfl]; decide)) fun _ => bx_nil (bx_nil ⟨(), (by refine ⟨?_, ?_, ?_, ?_, ?_, ?_, ?_, ?_, ?_, trivial⟩ <;> first | exact .inr rfl | exact .inl rfl), g4, rfl, ok4.up (by omega) (by omega)⟩)
  · exact bx_retD dx_bl (q _)
end
end K01
namespace K01
open PySem PySem.Spec PyProof.Rows L2 Hq
/-! ### where the defs stand -/
theorem at_mk {K : PySem.W.Frag} {h : Heap} {mg : Str → Option Value} {x : Str} {st : Stmt} {f : Addr} {od an : Option Addr} {sl : Array (Option Value)} {oc kV dc pm cd ct : Value} (X : K.In h) (G : h.Ns mainGlobals mg) (a : PySem.W.nsIn K mainGlobals x = some (some (.ref f)))
    (l : K.lookup f = some ⟨oc, od, .func (PySem.W.fnOf x x (defArgs st) (defBody st) (defScope st) .none kV dc pm an cd ct), sl⟩) (c : PySem.W.codeIn K cd x = true) (k : PySem.W.keepIn K (.ref f) = true) : At K mg x st := ⟨_, _, PySem.W.mg_of X G a, fun_mk l c k⟩
theorem bt_mk {K : PySem.W.Frag} {h : Heap} {mg : Str → Option Value} (X : K.In h) (G : h.Ns mainGlobals mg) (z0 : PySem.W.nsIn K mainGlobals "len" = some none) (z1 : PySem.W.nsIn K mainGlobals "range" = some none) (z2 : PySem.W.nsIn K mainGlobals "sum" = some none) (z3 : PySem.W.nsIn K mainGlobals "abs" = some none) (z4 : PySem.W.nsIn K mainGlobals "list" = some none) (z5 : PySem.W.nsIn K mainGlobals "tuple" = some none) (z6 : PySem.W.nsIn K mainGlobals "zip" = some none) (z7 : PySem.W.nsIn K mainGlobals "enumerate" = some none) (z8 : PySem.W.nsIn K mainGlobals "all" = some none) (z9 : PySem.W.nsIn K mainGlobals "isinstance" = some none) (z10 : PySem.W.nsIn K mainGlobals "int" = some none) (z11 : PySem.W.nsIn K mainGlobals "bool" = some none) (z12 : PySem.W.nsIn K mainGlobals "str" = some none) (z13 : PySem.W.nsIn K mainGlobals "repr" = some none) (z14 : PySem.W.nsIn K mainGlobals "min" = some none) (z15 : PySem.W.nsIn K mainGlobals "max" = some none) (z16 : PySem.W.nsIn K mainGlobals "sorted" = some none) (z17 : PySem.W.nsIn K mainGlobals "set" = some none) : Bt mg :=
  ⟨PySem.W.mg_none_of X G z0, PySem.W.mg_none_of X G z1, PySem.W.mg_none_of X G z2, PySem.W.mg_none_of X G z3, PySem.W.mg_none_of X G z4, PySem.W.mg_none_of X G z5, PySem.W.mg_none_of X G z6, PySem.W.mg_none_of X G z7, PySem.W.mg_none_of X G z8, PySem.W.mg_none_of X G z9, PySem.W.mg_none_of X G z10, PySem.W.mg_none_of X G z11, PySem.W.mg_none_of X G z12, PySem.W.mg_none_of X G z13, PySem.W.mg_none_of X G z14, PySem.W.mg_none_of X G z15, PySem.W.mg_none_of X G z16, PySem.W.mg_none_of X G z17⟩
theorem all_mk {l : PySem.W.OpenLaw} {w : World} {K : PySem.W.Frag} {h : Heap} {mg : Str → Option Value} (X : K.In h) (G : h.Ns mainGlobals mg) (B : Bt mg)
  (a1 : At K mg "is_fault" s_is_fault) (a2 : At K mg "fault" s_fault) (a3 : At K mg "_law_bag" s__law_bag) (a4 : At K mg "_law_draw" s__law_draw) (a5 : At K mg "_law_number" s__law_number) (a6 : At K mg "_law_row" s__law_row) (a7 : At K mg "_law_past" s__law_past) (a8 : At K mg "_law_otherwise" s__law_otherwise) (a9 : At K mg "_law_within" s__law_within) (a10 : At K mg "_law_due" s__law_due) (a11 : At K mg "_law_alike" s__law_alike) (a12 : At K mg "law" s_law) :
    ∀ base : Heap, K.In base → base.Ns mainGlobals mg → Fx l.prog w K mg base 4 "law" s_law p_law WLaw := fun base _ _ => by
  have GD := ok_draw (P := l.prog) (w := w) (base := base) B a4
  exact ok_law B a12 (ok_bag B a3) GD (ok_past B a7 GD (ok_number a5 GD) (ok_rowD B a6 GD)) (ok_other B a8 GD) (ok_within a9) (ok_dueF B a10) (ok_fault B a2 (ok_is_fault B a1)) (ok_alikeF B a11)
end K01
open PySem PySem.W PyProof.Rows
set_option maxRecDepth 100000 in
set_option maxHeartbeats 0 in
theorem PySem.Challenge.cw_halfknown_k01_faults_found_holds : PySem.Challenge.rw_halfknown_k01_faults_found.Holds := by
  w_on; o_law; k_head; (case hw => w_witness2)
  k_fill
  refine Hq.walkG (l := PySem.Challenge.rw_halfknown_k01_faults_found) (n := 63) (k := 4) (x := "_law_script") (st := K01.s_law) (W := K01.WLaw) rfl (by decide) rfl ⟨rfl, by decide, by decide⟩ rfl (fun w h Y => PySem.W.kIn_of Y) ?F ?W
  case W => exact fun ns h => ⟨ns, rfl, rfl, fun _ => rfl⟩
  case F =>
    intro w mg h KX G
    refine' K01.all_mk KX G (K01.bt_mk KX G ?z0 ?z1 ?z2 ?z3 ?z4 ?z5 ?z6 ?z7 ?z8 ?z9 ?z10 ?z11 ?z12 ?z13 ?z14 ?z15 ?z16 ?z17) (K01.at_mk KX G ?a0 ?l0 ?c0 ?k0) (K01.at_mk KX G ?a1 ?l1 ?c1 ?k1) (K01.at_mk KX G ?a2 ?l2 ?c2 ?k2) (K01.at_mk KX G ?a3 ?l3 ?c3 ?k3) (K01.at_mk KX G ?a4 ?l4 ?c4 ?k4) (K01.at_mk KX G ?a5 ?l5 ?c5 ?k5) (K01.at_mk KX G ?a6 ?l6 ?c6 ?k6) (K01.at_mk KX G ?a7 ?l7 ?c7 ?k7) (K01.at_mk KX G ?a8 ?l8 ?c8 ?k8) (K01.at_mk KX G ?a9 ?l9 ?c9 ?k9) (K01.at_mk KX G ?a10 ?l10 ?c10 ?k10) (K01.at_mk KX G ?a11 ?l11 ?c11 ?k11)
    (case a0 => k_is); (case l0 => k_is); (case c0 => k_is); (case k0 => k_is)
    (case a1 => k_is); (case l1 => k_is); (case c1 => k_is); (case k1 => k_is)
    (case a2 => k_is); (case l2 => k_is); (case c2 => k_is); (case k2 => k_is)
    (case a3 => k_is); (case l3 => k_is); (case c3 => k_is); (case k3 => k_is)
    (case a4 => k_is); (case l4 => k_is); (case c4 => k_is); (case k4 => k_is)
    (case a5 => k_is); (case l5 => k_is); (case c5 => k_is); (case k5 => k_is)
    (case a6 => k_is); (case l6 => k_is); (case c6 => k_is); (case k6 => k_is)
    (case a7 => k_is); (case l7 => k_is); (case c7 => k_is); (case k7 => k_is)
    (case a8 => k_is); (case l8 => k_is); (case c8 => k_is); (case k8 => k_is)
    (case a9 => k_is); (case l9 => k_is); (case c9 => k_is); (case k9 => k_is)
    (case a10 => k_is); (case l10 => k_is); (case c10 => k_is); (case k10 => k_is)
    (case a11 => k_is); (case l11 => k_is); (case c11 => k_is); (case k11 => k_is)
    (case z0 => k_is)
    (case z1 => k_is)
    (case z2 => k_is)
    (case z3 => k_is)
    (case z4 => k_is)
    (case z5 => k_is)
    (case z6 => k_is)
    (case z7 => k_is)
    (case z8 => k_is)
    (case z9 => k_is)
    (case z10 => k_is)
    (case z11 => k_is)
    (case z12 => k_is)
    (case z13 => k_is)
    (case z14 => k_is)
    (case z15 => k_is)
    (case z16 => k_is)
    (case z17 => k_is)
#print axioms PySem.Challenge.cw_halfknown_k01_faults_found_holds
