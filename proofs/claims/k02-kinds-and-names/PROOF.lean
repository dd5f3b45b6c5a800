import PyProof.Rows.All
import HandS.ForMost
import HandS.ForExc
import HandS.Wide
import HandS.CallSlots
import HandS.Property
import HandS.Zip
import HandS.TupAny
import HandS.IsInst
import HandS.Deep
import HandS.FStr
import HandS.Style
import Wide.All
import OpenK.AllK
import Wide.FinOn
import PySem.Challenge.RW_twoabreast_k02_kinds_and_names
set_option Elab.async false
set_option linter.all false
set_option maxRecDepth 100000
set_option maxHeartbeats 4000000
set_option autoImplicit false
/-! DL0: data of Python's values, trees that are not shared yet, and what a heap says of them -/
namespace DL
open PySem L2

/-- data that never changes -/
inductive D where
  | non | bl (b : Bool) | int (i : Int) | str (x : Str)
  | lst (ds : List D) | tup (ds : List D)
  | ins (c : Str) (fs : List (Str × D))
  | glo (x : Str) | ty (n : String)
  /-- a list that is read only (the script) -/
  | ro (ds : List D)

/-- a tree of objects that nobody else holds -/
inductive T where
  | d (x : D) | lst (ts : List T) | tup (ts : List T) | ins (c : Str) (fs : List (Str × T))

mutual
def frz : T → D
  | .d x => x
  | .lst ts => .lst (frzL ts)
  | .tup ts => .tup (frzL ts)
  | .ins c fs => .ins c (frzF fs)
def frzL : List T → List D
  | [] => []
  | t :: r => frz t :: frzL r
def frzF : List (Str × T) → List (Str × D)
  | [] => []
  | (f, t) :: r => (f, frz t) :: frzF r
end
theorem frzL_eq : ∀ ts : List T, frzL ts = ts.map frz
  | [] => rfl
  | t :: r => by simp [frzL, frzL_eq r]
theorem frzL_d (ds : List D) : frzL (ds.map T.d) = ds := by
  induction ds with
  | nil => rfl
  | cons x r ih => simp [frzL, frz, ih]

abbrev Mg := Str → Option Value
section
variable (K : PySem.W.Frag) (mg : Mg) (F : Hp)
mutual
inductive Dp : V → D → Prop
  | non : Dp .non .non
  | bl (b : Bool) : Dp (.bl b) (.bl b)
  | int (i : Int) : Dp (.int i) (.int i)
  | str (x : Str) : Dp (.str x) (.str x)
  | lst {a : Addr} {xs : List V} {ds : List D} : F a = some (.lst xs) → DpL xs ds → Dp (.ref a) (.lst ds)
  | ro {a : Addr} {xs : List V} {ds : List D} : SqL K F a xs → DpL xs ds → Dp (.ref a) (.ro ds)
  | tup {a : Addr} {xs : List V} {ds : List D} : SqT K F a xs → DpL xs ds → Dp (.ref a) (.tup ds)
  | ins {a C dx : Addr} {fs : List (Str × V)} {c : Str} {gs : List (Str × D)} : F a = some (.ins C dx fs) → mg c = some (.ref C) → DpF fs gs → Dp (.ref a) (.ins c gs)
  | glo {x : Str} {a : Addr} : mg x = some (.ref a) → Dp (.ref a) (.glo x)
  | ty (n : String) : Dp (.ty n) (.ty n)
inductive DpL : List V → List D → Prop
  | nil : DpL [] []
  | cons {v : V} {vs : List V} {x : D} {xs : List D} : Dp v x → DpL vs xs → DpL (v :: vs) (x :: xs)
inductive DpF : List (Str × V) → List (Str × D) → Prop
  | nil : DpF [] []
  | cons {f : Str} {v : V} {vs : List (Str × V)} {x : D} {xs : List (Str × D)} : Dp v x → DpF vs xs → DpF ((f, v) :: vs) ((f, x) :: xs)
end
variable (H : Hp)
mutual
inductive TR : V → T → List Addr → Prop
  | d {v : V} {x : D} : Dp K mg F v x → TR v (.d x) []
  | lst {a : Addr} {vs : List V} {ts : List T} {fp : List Addr} : H a = some (.lst vs) → F a = none → TRL vs ts fp → TR (.ref a) (.lst ts) (a :: fp)
  | tup {a : Addr} {vs : List V} {ts : List T} {fp : List Addr} : H a = some (.tup vs) → F a = none → TRL vs ts fp → TR (.ref a) (.tup ts) (a :: fp)
  | ins {a C dx : Addr} {fs : List (Str × V)} {c : Str} {ts : List (Str × T)} {fp : List Addr} : H a = some (.ins C dx fs) → F a = none → mg c = some (.ref C) → TRF fs ts fp → TR (.ref a) (.ins c ts) (a :: fp)
inductive TRL : List V → List T → List Addr → Prop
  | nil : TRL [] [] []
  | cons {v : V} {vs : List V} {t : T} {ts : List T} {f1 f2 : List Addr} : TR v t f1 → TRL vs ts f2 → TRL (v :: vs) (t :: ts) (f1 ++ f2)
inductive TRF : List (Str × V) → List (Str × T) → List Addr → Prop
  | nil : TRF [] [] []
  | cons {f : Str} {v : V} {vs : List (Str × V)} {t : T} {ts : List (Str × T)} {f1 f2 : List Addr} : TR v t f1 → TRF vs ts f2 → TRF ((f, v) :: vs) ((f, t) :: ts) (f1 ++ f2)
end
end

section
variable {K : PySem.W.Frag} {mg : Mg} {F F' H H' : Hp}
theorem Same.seqT {a : Addr} {xs : List V} (e : Same F F') (h : SqT K F a xs) : SqT K F' a xs := by
  rcases h with (h | ⟨o, h⟩) | h
  · exact .inl (.inl (e _ _ h))
  · exact .inl (.inr ⟨o, e _ _ h⟩)
  · exact .inr h
mutual
theorem Dp.mono (e : Same F F') : ∀ {v : V} {x : D}, Dp K mg F v x → Dp K mg F' v x
  | _, _, .non => .non
  | _, _, .bl b => .bl b
  | _, _, .int i => .int i
  | _, _, .str x => .str x
  | _, _, .lst h l => .lst (e _ _ h) (DpL.mono e l)
  | _, _, .ro h l => .ro (e.seq h) (DpL.mono e l)
  | _, _, .tup h l => .tup (Same.seqT e h) (DpL.mono e l)
  | _, _, .ins h m l => .ins (e _ _ h) m (DpF.mono e l)
  | _, _, .glo m => .glo m
  | _, _, .ty n => .ty n
theorem DpL.mono (e : Same F F') : ∀ {v : List V} {x : List D}, DpL K mg F v x → DpL K mg F' v x
  | _, _, .nil => .nil
  | _, _, .cons h r => .cons (Dp.mono e h) (DpL.mono e r)
theorem DpF.mono (e : Same F F') : ∀ {v : List (Str × V)} {x : List (Str × D)}, DpF K mg F v x → DpF K mg F' v x
  | _, _, .nil => .nil
  | _, _, .cons h r => .cons (Dp.mono e h) (DpF.mono e r)
end
theorem DpL.length : ∀ {vs : List V} {xs : List D}, DpL K mg F vs xs → vs.length = xs.length
  | _, _, .nil => rfl
  | _, _, .cons _ r => by simp [DpL.length r]
theorem DpL.get : ∀ {vs : List V} {xs : List D} {i : Nat} {x : D}, DpL K mg F vs xs → xs[i]? = some x → ∃ v, vs[i]? = some v ∧ Dp K mg F v x
  | _, _, _, _, .nil, e => by simp at e
  | _, _, 0, _, .cons h _, e => by simp at e; subst e; exact ⟨_, rfl, h⟩
  | _, _, i + 1, _, .cons _ r, e => by
    obtain ⟨v, h1, h2⟩ := DpL.get (i := i) r (by simpa using e)
    exact ⟨v, by simpa using h1, h2⟩
theorem DpL.append : ∀ {vs ws : List V} {xs ys : List D}, DpL K mg F vs xs → DpL K mg F ws ys → DpL K mg F (vs ++ ws) (xs ++ ys)
  | _, _, _, _, .nil, s => s
  | _, _, _, _, .cons h r, s => .cons h (DpL.append r s)
theorem DpL.take : ∀ {vs : List V} {xs : List D} (n : Nat), DpL K mg F vs xs → DpL K mg F (vs.take n) (xs.take n)
  | _, _, 0, _ => .nil
  | _, _, _ + 1, .nil => .nil
  | _, _, n + 1, .cons h r => .cons h (DpL.take n r)
theorem DpL.drop : ∀ {vs : List V} {xs : List D} (n : Nat), DpL K mg F vs xs → DpL K mg F (vs.drop n) (xs.drop n)
  | _, _, 0, r => r
  | _, _, _ + 1, .nil => .nil
  | _, _, n + 1, .cons _ r => DpL.drop n r
theorem DpL.reverse : ∀ {vs : List V} {xs : List D}, DpL K mg F vs xs → DpL K mg F vs.reverse xs.reverse
  | _, _, .nil => .nil
  | _, _, .cons h r => by simp only [List.reverse_cons]; exact DpL.append (DpL.reverse r) (.cons h .nil)
theorem DpF.get : ∀ {vs : List (Str × V)} {xs : List (Str × D)} {f : Str} {x : D}, DpF K mg F vs xs → xs.lookup f = some x → ∃ v, vs.lookup f = some v ∧ Dp K mg F v x
  | _, _, _, _, .nil, e => by simp at e
  | _, _, f, x, .cons (f := g) h r, e => by
    simp only [List.lookup_cons] at e ⊢
    split at e
    · cases e; exact ⟨_, rfl, h⟩
    · exact DpF.get r e
theorem DpF.none_of : ∀ {vs : List (Str × V)} {xs : List (Str × D)} {f : Str}, DpF K mg F vs xs → xs.lookup f = none → vs.lookup f = none
  | _, _, _, .nil, _ => rfl
  | _, _, f, .cons (f := g) h r, e => by
    simp only [List.lookup_cons] at e ⊢
    split at e
    · cases e
    · exact DpF.none_of r e
theorem TRL.length : ∀ {vs : List V} {xs : List T} {fp : List Addr}, TRL K mg F H vs xs fp → vs.length = xs.length
  | _, _, _, .nil => rfl
  | _, _, _, .cons _ r => by simp [TRL.length r]

mutual
/-- the places of a tree: tracked, not frozen -/
theorem TR.fp : ∀ {v : V} {t : T} {fp : List Addr}, TR K mg F H v t fp → ∀ a ∈ fp, F a = none ∧ ∃ o, H a = some o
  | _, _, _, .d _ => fun _ h => nomatch h
  | _, _, _, .lst h n l => fun a ha => by
    rcases List.mem_cons.mp ha with rfl | ha
    · exact ⟨n, _, h⟩
    · exact TRL.fp l a ha
  | _, _, _, .tup h n l => fun a ha => by
    rcases List.mem_cons.mp ha with rfl | ha
    · exact ⟨n, _, h⟩
    · exact TRL.fp l a ha
  | _, _, _, .ins h n m l => fun a ha => by
    rcases List.mem_cons.mp ha with rfl | ha
    · exact ⟨n, _, h⟩
    · exact TRF.fp l a ha
theorem TRL.fp : ∀ {v : List V} {t : List T} {fp : List Addr}, TRL K mg F H v t fp → ∀ a ∈ fp, F a = none ∧ ∃ o, H a = some o
  | _, _, _, .nil => fun _ h => nomatch h
  | _, _, _, .cons h r => fun a ha => by
    rcases List.mem_append.mp ha with ha | ha
    · exact TR.fp h a ha
    · exact TRL.fp r a ha
theorem TRF.fp : ∀ {v : List (Str × V)} {t : List (Str × T)} {fp : List Addr}, TRF K mg F H v t fp → ∀ a ∈ fp, F a = none ∧ ∃ o, H a = some o
  | _, _, _, .nil => fun _ h => nomatch h
  | _, _, _, .cons h r => fun a ha => by
    rcases List.mem_append.mp ha with ha | ha
    · exact TR.fp h a ha
    · exact TRF.fp r a ha
end
mutual
/-- a tree stays where its places stay -/
theorem TR.stay (e : Same F F') : ∀ {v : V} {t : T} {fp : List Addr}, TR K mg F H v t fp → (∀ a ∈ fp, F' a = none ∧ ∀ o, H a = some o → H' a = some o) → TR K mg F' H' v t fp
  | _, _, _, .d h, _ => .d (h.mono e)
  | _, _, _, .lst h n l, k => .lst ((k _ List.mem_cons_self).2 _ h) (k _ List.mem_cons_self).1 (TRL.stay e l fun a ha => k a (List.mem_cons_of_mem _ ha))
  | _, _, _, .tup h n l, k => .tup ((k _ List.mem_cons_self).2 _ h) (k _ List.mem_cons_self).1 (TRL.stay e l fun a ha => k a (List.mem_cons_of_mem _ ha))
  | _, _, _, .ins h n m l, k => .ins ((k _ List.mem_cons_self).2 _ h) (k _ List.mem_cons_self).1 m (TRF.stay e l fun a ha => k a (List.mem_cons_of_mem _ ha))
theorem TRL.stay (e : Same F F') : ∀ {v : List V} {t : List T} {fp : List Addr}, TRL K mg F H v t fp → (∀ a ∈ fp, F' a = none ∧ ∀ o, H a = some o → H' a = some o) → TRL K mg F' H' v t fp
  | _, _, _, .nil, _ => .nil
  | _, _, _, .cons h r, k => .cons (TR.stay e h fun a ha => k a (List.mem_append_left _ ha)) (TRL.stay e r fun a ha => k a (List.mem_append_right _ ha))
theorem TRF.stay (e : Same F F') : ∀ {v : List (Str × V)} {t : List (Str × T)} {fp : List Addr}, TRF K mg F H v t fp → (∀ a ∈ fp, F' a = none ∧ ∀ o, H a = some o → H' a = some o) → TRF K mg F' H' v t fp
  | _, _, _, .nil, _ => .nil
  | _, _, _, .cons h r, k => .cons (TR.stay e h fun a ha => k a (List.mem_append_left _ ha)) (TRF.stay e r fun a ha => k a (List.mem_append_right _ ha))
end
mutual
/-- what a tree is worth over a heap that holds its places -/
theorem TR.seen (e : Same F F') : ∀ {v : V} {t : T} {fp : List Addr}, TR K mg F H v t fp → (∀ a ∈ fp, ∀ o, H a = some o → F' a = some o) → Dp K mg F' v (frz t)
  | _, _, _, .d h, _ => h.mono e
  | _, _, _, .lst h n l, k => .lst (k _ List.mem_cons_self _ h) (TRL.seen e l fun a ha => k a (List.mem_cons_of_mem _ ha))
  | _, _, _, .tup h n l, k => .tup (SqT.of (k _ List.mem_cons_self _ h)) (TRL.seen e l fun a ha => k a (List.mem_cons_of_mem _ ha))
  | _, _, _, .ins h n m l, k => .ins (k _ List.mem_cons_self _ h) m (TRF.seen e l fun a ha => k a (List.mem_cons_of_mem _ ha))
theorem TRL.seen (e : Same F F') : ∀ {v : List V} {t : List T} {fp : List Addr}, TRL K mg F H v t fp → (∀ a ∈ fp, ∀ o, H a = some o → F' a = some o) → DpL K mg F' v (frzL t)
  | _, _, _, .nil, _ => .nil
  | _, _, _, .cons h r, k => .cons (TR.seen e h fun a ha => k a (List.mem_append_left _ ha)) (TRL.seen e r fun a ha => k a (List.mem_append_right _ ha))
theorem TRF.seen (e : Same F F') : ∀ {v : List (Str × V)} {t : List (Str × T)} {fp : List Addr}, TRF K mg F H v t fp → (∀ a ∈ fp, ∀ o, H a = some o → F' a = some o) → DpF K mg F' v (frzF t)
  | _, _, _, .nil, _ => .nil
  | _, _, _, .cons h r, k => .cons (TR.seen e h fun a ha => k a (List.mem_append_left _ ha)) (TRF.seen e r fun a ha => k a (List.mem_append_right _ ha))
end
end
end DL

/-! DL1: states, how they grow, what a reading says of data -/
namespace DL
open PySem L2

abbrev Mst := List T
inductive R where
  | h (k : Nat) | t (x : T)
inductive SV where
  | d (x : D) | h (k : Nat)
abbrev Ev := List (Option SV)
structure Exc where
  c : Str
  fs : List (Str × D)
inductive Out (α : Type) where
  | ok (a : α) (M : Mst) | exc (e : Exc) (M : Mst) | bad
/-- the ghost of a state: what is frozen, where the mutable objects stand, their places -/
structure Wd where
  F : Hp
  α : Nat → Addr
  φ : Nat → List Addr

/-- a place that may be changed from here -/
def Pm (fs : List Addr) (w : Wd) (H : Hp) (M : Mst) (a : Addr) : Prop := H a = none ∨ (∃ j, j < M.length ∧ a ∈ w.φ j) ∨ a ∈ fs
structure Ext (fs : List Addr) (w : Wd) (H : Hp) (M : Mst) (w' : Wd) (H' : Hp) (M' : Mst) : Prop where
  F : Same w.F w'.F
  len : M.length ≤ M'.length
  al : ∀ k, k < M.length → w'.α k = w.α k
  keep : ∀ a o, H a = some o → ¬ Pm fs w H M a → H' a = some o
  ph : ∀ k, k < M'.length → ∀ a ∈ w'.φ k, Pm fs w H M a
  gr : ∀ a, w'.F a ≠ none → w.F a ≠ none ∨ Pm fs w H M a
  there : ∀ a, H' a = none → H a = none
structure MR (K : PySem.W.Frag) (mg : Mg) (w : Wd) (H : Hp) (M : Mst) : Prop where
  sub : Same w.F H
  obj : ∀ k t, M[k]? = some t → TR K mg w.F H (.ref (w.α k)) t (w.φ k) ∧ (w.φ k).Nodup
  dis : ∀ j k a, j < M.length → k < M.length → a ∈ w.φ j → a ∈ w.φ k → j = k

def RR (K : PySem.W.Frag) (mg : Mg) (w : Wd) (H : Hp) (M : Mst) (v : V) : R → List Addr → Prop
  | .h k, fp => k < M.length ∧ v = .ref (w.α k) ∧ fp = []
  | .t x, fp => TR K mg w.F H v x fp ∧ fp.Nodup ∧ ∀ a ∈ fp, ∀ k, k < M.length → a ∉ w.φ k
inductive RRL (K : PySem.W.Frag) (mg : Mg) (w : Wd) (H : Hp) (M : Mst) : List V → List R → List Addr → Prop
  | nil : RRL K mg w H M [] [] []
  | cons {v : V} {vs : List V} {r : R} {rs : List R} {f1 f2 : List Addr} : RR K mg w H M v r f1 → RRL K mg w H M vs rs f2 → (∀ a ∈ f1, a ∉ f2) → RRL K mg w H M (v :: vs) (r :: rs) (f1 ++ f2)
def VR (K : PySem.W.Frag) (mg : Mg) (w : Wd) (M : Mst) (v : V) : SV → Prop
  | .d x => Dp K mg w.F v x
  | .h k => k < M.length ∧ v = .ref (w.α k)
inductive VRL (K : PySem.W.Frag) (mg : Mg) (w : Wd) (M : Mst) : List V → List SV → Prop
  | nil : VRL K mg w M [] []
  | cons {v : V} {vs : List V} {x : SV} {xs : List SV} : VR K mg w M v x → VRL K mg w M vs xs → VRL K mg w M (v :: vs) (x :: xs)
structure ER (K : PySem.W.Frag) (mg : Mg) (w : Wd) (M : Mst) (σ : St) (ρ : Ev) : Prop where
  len : σ.length = ρ.length
  at_ : ∀ (i : Nat) (x : SV), ρ[i]? = some (some x) → ∃ v, σ[i]? = some (some v) ∧ VR K mg w M v x
def XR (K : PySem.W.Frag) (mg : Mg) (w : Wd) (H : Hp) (cls : Value) (d : Option Addr) (e : Exc) : Prop :=
  ∃ C dx vs, cls = .ref C ∧ mg e.c = some (.ref C) ∧ d = some dx ∧ H dx = some (.xd vs) ∧ DpF K mg w.F vs e.fs

section
variable {K : PySem.W.Frag} {mg : Mg} {fs gs fp f1 f2 : List Addr} {w w' w'' : Wd} {H H' H'' : Hp} {M M' M'' : Mst}
theorem Ext.refl (m : MR K mg w H M) : Ext fs w H M w H M where
  F := Same.refl _
  len := Nat.le_refl _
  al := fun _ _ => rfl
  keep := fun _ _ h _ => h
  ph := fun k hk a ha => .inr (.inl ⟨k, hk, ha⟩)
  gr := fun _ h => .inl h
  there := fun _ h => h
theorem Ext.pm (e : Ext fs w H M w' H' M') (hg : ∀ a ∈ gs, Pm fs w H M a) {a : Addr} (h : Pm gs w' H' M' a) : Pm fs w H M a := by
  rcases h with h | ⟨j, hj, h⟩ | h
  · exact .inl (e.there a h)
  · exact e.ph j hj a h
  · exact hg a h
theorem Ext.trans (e : Ext fs w H M w' H' M') (e' : Ext gs w' H' M' w'' H'' M'') (hg : ∀ a ∈ gs, Pm fs w H M a) : Ext fs w H M w'' H'' M'' where
  F := e.F.trans e'.F
  len := Nat.le_trans e.len e'.len
  al := fun k hk => (e'.al k (Nat.lt_of_lt_of_le hk e.len)).trans (e.al k hk)
  keep := fun a o h n => e'.keep a o (e.keep a o h n) fun z => n (e.pm hg z)
  ph := fun k hk a ha => e.pm hg (e'.ph k hk a ha)
  gr := fun a h => by
    rcases e'.gr a h with z | z
    · exact e.gr a z
    · exact .inr (e.pm hg z)
  there := fun a h => e.there a (e'.there a h)
theorem Ext.trans0 (e : Ext fs w H M w' H' M') (e' : Ext [] w' H' M' w'' H'' M'') : Ext fs w H M w'' H'' M'' := e.trans e' fun _ h => nomatch h
theorem Ext.mono (e : Ext fs w H M w' H' M') (hs : ∀ a ∈ fs, a ∈ gs) : Ext gs w H M w' H' M' := by
  have z : ∀ a, Pm fs w H M a → Pm gs w H M a := fun a h => by
    rcases h with h | h | h
    · exact .inl h
    · exact .inr (.inl h)
    · exact .inr (.inr (hs a h))
  exact ⟨e.F, e.len, e.al, fun a o h n => e.keep a o h fun q => n (z a q), fun k hk a ha => z a (e.ph k hk a ha), fun a h => (e.gr a h).imp id (z a), e.there⟩
theorem RR.fpOk {v : V} {r : R} (h : RR K mg w H M v r fp) : ∀ a ∈ fp, w.F a = none ∧ (∃ o, H a = some o) ∧ ∀ k, k < M.length → a ∉ w.φ k := by
  cases r with
  | h k => obtain ⟨_, _, rfl⟩ := h; exact fun _ z => nomatch z
  | t x => exact fun a ha => ⟨(h.1.fp a ha).1, (h.1.fp a ha).2, h.2.2 a ha⟩
theorem RR.nd {v : V} {r : R} (h : RR K mg w H M v r fp) : fp.Nodup := by
  cases r with
  | h k => obtain ⟨_, _, rfl⟩ := h; exact List.nodup_nil
  | t x => exact h.2.1
/-- a held result stays -/
theorem RR.stay {v : V} {r : R} (h : RR K mg w H M v r fp) (e : Ext gs w H M w' H' M') (hd : ∀ a ∈ fp, a ∉ gs) : RR K mg w' H' M' v r fp := by
  have np : ∀ a ∈ fp, ¬ Pm gs w H M a := fun a ha z => by
    obtain ⟨h1, ⟨o, h2⟩, h3⟩ := h.fpOk a ha
    rcases z with z | ⟨j, hj, z⟩ | z
    · rw [h2] at z; cases z
    · exact h3 j hj z
    · exact hd a ha z
  cases r with
  | h k => obtain ⟨h1, h2, h3⟩ := h; exact ⟨Nat.lt_of_lt_of_le h1 e.len, by rw [e.al k h1]; exact h2, h3⟩
  | t x =>
    obtain ⟨h1, h2, h3⟩ := h
    refine ⟨h1.stay e.F fun a ha => ⟨?_, fun o ho => e.keep a o ho (np a ha)⟩, h2, fun a ha k hk z => np a ha (e.ph k hk a z)⟩
    cases q : w'.F a with
    | none => rfl
    | some o =>
      rcases e.gr a (by rw [q]; exact fun z => nomatch z) with z | z
      · exact absurd (h1.fp a ha).1 z
      · exact absurd z (np a ha)
theorem RRL.fpOk : ∀ {vs : List V} {rs : List R} {fp : List Addr}, RRL K mg w H M vs rs fp → ∀ a ∈ fp, w.F a = none ∧ (∃ o, H a = some o) ∧ ∀ k, k < M.length → a ∉ w.φ k
  | _, _, _, .nil => fun _ z => nomatch z
  | _, _, _, .cons h r _ => fun a ha => by
    rcases List.mem_append.mp ha with z | z
    · exact h.fpOk a z
    · exact RRL.fpOk r a z
theorem RRL.stay : ∀ {vs : List V} {rs : List R} {fp : List Addr}, RRL K mg w H M vs rs fp → Ext gs w H M w' H' M' → (∀ a ∈ fp, a ∉ gs) → RRL K mg w' H' M' vs rs fp
  | _, _, _, .nil, _, _ => .nil
  | _, _, _, .cons h r d, e, hd => .cons (h.stay e fun a ha => hd a (List.mem_append_left _ ha)) (RRL.stay r e fun a ha => hd a (List.mem_append_right _ ha)) d
theorem RRL.length : ∀ {vs : List V} {rs : List R} {fp : List Addr}, RRL K mg w H M vs rs fp → vs.length = rs.length
  | _, _, _, .nil => rfl
  | _, _, _, .cons _ r _ => by simp [RRL.length r]
theorem VR.stay {v : V} {x : SV} (h : VR K mg w M v x) (e : Ext gs w H M w' H' M') : VR K mg w' M' v x := by
  cases x with
  | d x => exact Dp.mono e.F h
  | h k => exact ⟨Nat.lt_of_lt_of_le h.1 e.len, by rw [e.al k h.1]; exact h.2⟩
theorem VRL.stay : ∀ {vs : List V} {xs : List SV}, VRL K mg w M vs xs → Ext gs w H M w' H' M' → VRL K mg w' M' vs xs
  | _, _, .nil, _ => .nil
  | _, _, .cons h r, e => .cons (h.stay e) (VRL.stay r e)
theorem VRL.length : ∀ {vs : List V} {xs : List SV}, VRL K mg w M vs xs → vs.length = xs.length
  | _, _, .nil => rfl
  | _, _, .cons _ r => by simp [VRL.length r]
theorem VRL.get : ∀ {vs : List V} {xs : List SV} {i : Nat} {x : SV}, VRL K mg w M vs xs → xs[i]? = some x → ∃ v, vs[i]? = some v ∧ VR K mg w M v x
  | _, _, _, _, .nil, e => by simp at e
  | _, _, 0, _, .cons h _, e => by simp at e; subst e; exact ⟨_, rfl, h⟩
  | _, _, i + 1, _, .cons _ r, e => by
    obtain ⟨v, h1, h2⟩ := VRL.get (i := i) r (by simpa using e)
    exact ⟨v, by simpa using h1, h2⟩
theorem ER.stay {σ : St} {ρ : Ev} (h : ER K mg w M σ ρ) (e : Ext gs w H M w' H' M') : ER K mg w' M' σ ρ :=
  ⟨h.len, fun i x q => let ⟨v, h1, h2⟩ := h.at_ i x q; ⟨v, h1, h2.stay e⟩⟩
theorem ER.set {σ : St} {ρ : Ev} {i : Nat} {v : V} {x : SV} (h : ER K mg w M σ ρ) (hv : VR K mg w M v x) : ER K mg w M (σ.set i (some v)) (ρ.set i (some x)) := by
  refine ⟨by simpa using h.len, fun j y q => ?_⟩
  by_cases e : i = j
  · subst e
    by_cases hl : i < ρ.length
    · rw [List.getElem?_set_self hl] at q
      cases q
      exact ⟨v, List.getElem?_set_self (by rw [h.len]; exact hl), hv⟩
    · rw [List.getElem?_eq_none (by simpa using hl)] at q; cases q
  · rw [List.getElem?_set_ne e] at q ⊢
    exact h.at_ j y q
theorem ER.clear {σ : St} {ρ : Ev} {i : Nat} (h : ER K mg w M σ ρ) : ER K mg w M (σ.set i none) (ρ.set i none) := by
  refine ⟨by simpa using h.len, fun j y q => ?_⟩
  by_cases e : i = j
  · subst e
    by_cases hl : i < ρ.length
    · rw [List.getElem?_set_self hl] at q; cases q
    · rw [List.getElem?_eq_none (by simpa using hl)] at q; cases q
  · rw [List.getElem?_set_ne e] at q ⊢
    exact h.at_ j y q
def wipeE (ρ : Ev) : List Nat → Ev
  | [] => ρ
  | v :: vs => (wipeE ρ vs).set v none
theorem ER.wipe {σ : St} {ρ : Ev} (h : ER K mg w M σ ρ) : ∀ vs : List Nat, ER K mg w M (L2.wipe σ vs) (wipeE ρ vs)
  | [] => h
  | v :: vs => (ER.wipe h vs).clear

/-! ### freezing -/
def frzR (M : Mst) : R → D
  | .h k => frz (M.getD k (.d .non))
  | .t x => frz x
def frzM (M : Mst) : R → Mst
  | .h k => M.set k (.d (frz (M.getD k (.d .non))))
  | .t _ => M
def frzHp (F H : Hp) (fp : List Addr) : Hp := fun a => if a ∈ fp then H a else F a
theorem frzHp_same {F : Hp} (h : ∀ a ∈ fp, F a = none) : Same F (frzHp F H fp) := fun a o e => by
  unfold frzHp
  split
  · rename_i z; rw [h a z] at e; cases e
  · exact e
theorem frzHp_in (F H : Hp) {fp : List Addr} {a : Addr} (h : a ∈ fp) : frzHp F H fp a = H a := if_pos h
theorem frzHp_out (F H : Hp) {fp : List Addr} {a : Addr} (h : a ∉ fp) : frzHp F H fp a = F a := if_neg h
theorem frzM_length {r : R} : (frzM M r).length = M.length := by cases r <;> simp [frzM]
theorem getD_of {k : Nat} {x : T} (h : M[k]? = some x) : M.getD k (.d .non) = x := by rw [List.getD_eq_getElem?_getD, h]; rfl

/-- a result becomes data -/
theorem settle {v : V} {r : R} (m : MR K mg w H M) (h : RR K mg w H M v r fp) :
    ∃ w', Ext fp w H M w' H (frzM M r) ∧ MR K mg w' H (frzM M r) ∧ Dp K mg w'.F v (frzR M r) ∧ w'.α = w.α := by
  cases r with
  | t x =>
    obtain ⟨h1, h2, h3⟩ := h
    have hn : ∀ a ∈ fp, w.F a = none := fun a ha => (h1.fp a ha).1
    have sF : Same w.F (frzHp w.F H fp) := frzHp_same hn
    refine ⟨⟨frzHp w.F H fp, w.α, w.φ⟩, ⟨sF, Nat.le_refl _, fun _ _ => rfl, fun _ _ q _ => q, fun k hk a ha => .inr (.inl ⟨k, hk, ha⟩), fun a q => ?_, fun _ q => q⟩, ⟨fun a o e => ?_, fun k t e => ?_, m.dis⟩, ?_, rfl⟩
    · by_cases ha : a ∈ fp
      · exact .inr (.inr (.inr ha))
      · exact .inl (by rw [← frzHp_out w.F H ha]; exact q)
    · by_cases ha : a ∈ fp
      · rw [← frzHp_in w.F H ha]; exact e
      · exact m.sub a o (by rw [← frzHp_out w.F H ha]; exact e)
    · obtain ⟨q1, q2⟩ := m.obj k t e
      have hk : k < M.length := (List.getElem?_eq_some_iff.mp e).1
      refine ⟨q1.stay sF fun a ha => ⟨?_, fun _ z => z⟩, q2⟩
      show frzHp w.F H fp a = none
      rw [frzHp_out w.F H fun z => h3 a z k hk ha]
      exact (q1.fp a ha).1
    · exact h1.seen sF fun a ha o ho => by show frzHp w.F H fp a = _; rw [frzHp_in w.F H ha]; exact ho
  | h k =>
    obtain ⟨hk, rfl, rfl⟩ := h
    obtain ⟨x, hx⟩ : ∃ x, M[k]? = some x := ⟨M[k], List.getElem?_eq_getElem hk⟩
    obtain ⟨q1, q2⟩ := m.obj k x hx
    have hn : ∀ a ∈ w.φ k, w.F a = none := fun a ha => (q1.fp a ha).1
    have sF : Same w.F (frzHp w.F H (w.φ k)) := frzHp_same hn
    have seen : Dp K mg (frzHp w.F H (w.φ k)) (.ref (w.α k)) (frz x) := q1.seen sF fun a ha o ho => by rw [frzHp_in w.F H ha]; exact ho
    refine ⟨⟨frzHp w.F H (w.φ k), w.α, fun j => if j = k then [] else w.φ j⟩, ⟨sF, by rw [frzM_length]; exact Nat.le_refl _, fun _ _ => rfl, fun _ _ q _ => q, fun j hj a ha => ?_, fun a q => ?_, fun _ q => q⟩, ⟨fun a o e => ?_, fun j t e => ?_, fun i j a hi hj h1 h2 => ?_⟩, ?_, rfl⟩
    · rw [frzM_length] at hj
      have ha : a ∈ (if j = k then [] else w.φ j) := ha
      split at ha
      · cases ha
      · exact .inr (.inl ⟨j, hj, ha⟩)
    · by_cases ha : a ∈ w.φ k
      · exact .inr (.inr (.inl ⟨k, hk, ha⟩))
      · exact .inl (by rw [← frzHp_out w.F H ha]; exact q)
    · by_cases ha : a ∈ w.φ k
      · rw [← frzHp_in w.F H ha]; exact e
      · exact m.sub a o (by rw [← frzHp_out w.F H ha]; exact e)
    · have e : (M.set k (.d (frz (M.getD k (.d .non)))))[j]? = some t := e
      by_cases hj : k = j
      · subst hj
        rw [List.getElem?_set_self hk, getD_of hx] at e
        cases e
        refine ⟨?_, by simp⟩
        show TR K mg _ H _ _ (if k = k then [] else w.φ k)
        rw [if_pos rfl]
        exact .d seen
      · rw [List.getElem?_set_ne hj] at e
        obtain ⟨z1, z2⟩ := m.obj j t e
        have hj' : j < M.length := (List.getElem?_eq_some_iff.mp e).1
        have ej : (if j = k then [] else w.φ j) = w.φ j := if_neg (Ne.symm hj)
        refine ⟨?_, by show (if j = k then [] else w.φ j).Nodup; rw [ej]; exact z2⟩
        show TR K mg _ H _ _ (if j = k then [] else w.φ j)
        rw [ej]
        refine z1.stay sF fun a ha => ⟨?_, fun _ z => z⟩
        rw [frzHp_out w.F H fun z => hj (m.dis j k a hj' hk ha z).symm]
        exact (z1.fp a ha).1
    · rw [frzM_length] at hi hj
      have h1 : a ∈ (if i = k then [] else w.φ i) := h1
      have h2 : a ∈ (if j = k then [] else w.φ j) := h2
      split at h1
      · cases h1
      · split at h2
        · cases h2
        · exact m.dis i j a hi hj h1 h2
    · show Dp K mg (frzHp w.F H (w.φ k)) _ (frz (M.getD k (.d .non)))
      rw [getD_of hx]
      exact seen
/-- what a result is worth now -/
theorem seen {v : V} {r : R} (m : MR K mg w H M) (h : RR K mg w H M v r fp) : Dp K mg H v (frzR M r) := by
  cases r with
  | t x => exact h.1.seen m.sub fun _ _ _ ho => ho
  | h k =>
    obtain ⟨hk, rfl, rfl⟩ := h
    obtain ⟨x, hx⟩ : ∃ x, M[k]? = some x := ⟨M[k], List.getElem?_eq_getElem hk⟩
    show Dp K mg H _ (frz (M.getD k (.d .non)))
    rw [getD_of hx]
    exact (m.obj k x hx).1.seen m.sub fun _ _ _ ho => ho
end
end DL

/-! DL2: what a reading says by data; names, constants, operators, tests, blocks -/
namespace DL
open PySem L2

def Out.bind {α β : Type} (o : Out α) (k : α → Mst → Out β) : Out β := match o with
  | .ok a M => k a M
  | .exc e M => .exc e M
  | .bad => .bad
abbrev Den := Ev → Mst → Out R
abbrev DenT := Ev → Mst → Out Bool
abbrev DenA := Ev → Mst → Out (List R)

def Post (X : Cx) (W : WX) (σ : St) (fs : List Addr) (w : Wd) (H : Hp) (M : Mst) {α : Type} (o : Out α) (C : Wd → Hp → Mst → α → Prop) : Prop :=
  match o with
  | .ok a M' => ∀ w' H', Ext fs w H M w' H' M' → MR X.K X.mg w' H' M' → C w' H' M' a
  | .exc e M' => ∀ w' H' cls d, Ext fs w H M w' H' M' → MR X.K X.mg w' H' M' → XR X.K X.mg w' H' cls d e → W cls d σ H'
  | .bad => False
def CE (X : Cx) (fs : List Addr) (w : Wd) (H : Hp) (M : Mst) (Q : VK) : Wd → Hp → Mst → R → Prop :=
  fun w' H' M' r => ∀ v fp, RR X.K X.mg w' H' M' v r fp → (∀ a ∈ fp, Pm fs w H M a) → Q v H'
def CA (X : Cx) (fs : List Addr) (w : Wd) (H : Hp) (M : Mst) (Q : List V → Hp → Prop) : Wd → Hp → Mst → List R → Prop :=
  fun w' H' M' rs => ∀ vs fp, RRL X.K X.mg w' H' M' vs rs fp → (∀ a ∈ fp, Pm fs w H M a) → Q vs H'
def rdE (X : Cx) (W : WX) (F : Den) : TE := fun σ H Q => ∃ w ρ M, MR X.K X.mg w H M ∧ ER X.K X.mg w M σ ρ ∧ Post X W σ [] w H M (F ρ M) (CE X [] w H M Q)
def rdT (X : Cx) (W : WX) (F : DenT) : TT := fun σ H Q => ∃ w ρ M, MR X.K X.mg w H M ∧ ER X.K X.mg w M σ ρ ∧ Post X W σ [] w H M (F ρ M) (fun _ H' _ b => Q b H')
def rdA (X : Cx) (W : WX) (F : DenA) : TA := fun σ H Q => ∃ w ρ M, MR X.K X.mg w H M ∧ ER X.K X.mg w M σ ρ ∧ Post X W σ [] w H M (F ρ M) (CA X [] w H M Q)
def DE (X : Cx) (W : WX) (e : Expr) (F : Den) : Prop := PE X e (rdE X W F)
def DT (X : Cx) (W : WX) (e : Expr) (F : DenT) : Prop := PT X e (rdT X W F)
def DW (X : Cx) (W : WX) (e : Expr) (F : DenT) : Prop := PW X e (rdT X W F)
def DA (X : Cx) (W : WX) (es : List Expr) (F : DenA) : Prop := PA X es (rdA X W F)

section
variable {X : Cx} {W : WX} {σ : St} {fs gs : List Addr} {w w2 : Wd} {H H2 : Hp} {M M2 : Mst} {α β : Type}
theorem Post.imp {o : Out α} {C C' : Wd → Hp → Mst → α → Prop} (h : Post X W σ fs w H M o C) (k : ∀ w' H' M' a, Ext fs w H M w' H' M' → MR X.K X.mg w' H' M' → C w' H' M' a → C' w' H' M' a) : Post X W σ fs w H M o C' := by
  cases o with
  | ok a M' => exact fun w' H' e m => k _ _ _ _ e m (h w' H' e m)
  | exc e M' => exact h
  | bad => exact h
theorem Post.from {o : Out α} {C : Wd → Hp → Mst → α → Prop} (h : Post X W σ fs w H M o C) (e : Ext fs w H M w2 H2 M2) (hg : ∀ a ∈ gs, Pm fs w H M a) : Post X W σ gs w2 H2 M2 o C := by
  cases o with
  | ok a M' => exact fun w' H' e' m => h w' H' (e.trans e' hg) m
  | exc x M' => exact fun w' H' c d e' m z => h w' H' c d (e.trans e' hg) m z
  | bad => exact h
theorem Post.bind {o : Out α} {k : α → Mst → Out β} {C : Wd → Hp → Mst → β → Prop} (h : Post X W σ fs w H M (o.bind k) C) :
    Post X W σ fs w H M o (fun w1 H1 M1 a => Post X W σ [] w1 H1 M1 (k a M1) C) := by
  cases o with
  | ok a M' => exact fun w1 H1 e1 _ => Post.from h e1 (fun _ z => nomatch z)
  | exc x M' => exact h
  | bad => exact h
/-- .. behind a: whatever is held there -/
theorem Post.bindF {o : Out α} {k : α → Mst → Out β} {C : Wd → Hp → Mst → β → Prop} (h : Post X W σ fs w H M (o.bind k) C) :
    Post X W σ [] w H M o (fun w1 H1 M1 a => Ext [] w H M w1 H1 M1 ∧ MR X.K X.mg w1 H1 M1 ∧ ∀ gs, (∀ b ∈ gs, Pm fs w H M b) → Post X W σ gs w1 H1 M1 (k a M1) C) := by
  cases o with
  | ok a M' => exact fun w1 H1 e1 m1 => ⟨e1, m1, fun gs hg => Post.from h (e1.mono fun _ z => nomatch z) hg⟩
  | exc x M' => exact fun w1 H1 c d e1 m1 z => h w1 H1 c d (e1.mono fun _ z => nomatch z) m1 z
  | bad => exact h
theorem Post.now {a : α} {C : Wd → Hp → Mst → α → Prop} (h : Post X W σ fs w H M (.ok a M) C) (m : MR X.K X.mg w H M) : C w H M a := h w H (Ext.refl m) m
/-- the end of a part is an end of the whole -/
theorem CE.from {Q : VK} {w' : Wd} {H' : Hp} {M' : Mst} {r : R} (h : CE X fs w H M Q w' H' M' r) (e : Ext fs w H M w2 H2 M2) (hg : ∀ a ∈ gs, Pm fs w H M a) : CE X gs w2 H2 M2 Q w' H' M' r :=
  fun v fp q hp => h v fp q fun a ha => e.pm hg (hp a ha)
theorem CA.from {Q : List V → Hp → Prop} {w' : Wd} {H' : Hp} {M' : Mst} {r : List R} (h : CA X fs w H M Q w' H' M' r) (e : Ext fs w H M w2 H2 M2) (hg : ∀ a ∈ gs, Pm fs w H M a) : CA X gs w2 H2 M2 Q w' H' M' r :=
  fun v fp q hp => h v fp q fun a ha => e.pm hg (hp a ha)
theorem PostE.from {o : Out R} {Q : VK} (h : Post X W σ fs w H M o (CE X fs w H M Q)) (e : Ext fs w H M w2 H2 M2) (hg : ∀ a ∈ gs, Pm fs w H M a) : Post X W σ gs w2 H2 M2 o (CE X gs w2 H2 M2 Q) :=
  (h.from e hg).imp fun _ _ _ _ _ _ q => q.from e hg

theorem _root_.L2.PE.mono {e : Expr} {t t' : TE} (h : PE X e t) (k : ∀ σ H Q, t' σ H Q → t σ H Q) : PE X e t' := ⟨fun pins s σ H Q I q => h.run pins s σ H Q I (k _ _ _ q)⟩
theorem _root_.L2.PT.mono {e : Expr} {t t' : TT} (h : PT X e t) (k : ∀ σ H Q, t' σ H Q → t σ H Q) : PT X e t' := ⟨fun pins s σ H Q I q => h.run pins s σ H Q I (k _ _ _ q)⟩
theorem _root_.L2.PW.mono {e : Expr} {t t' : TT} (h : PW X e t) (k : ∀ σ H Q, t' σ H Q → t σ H Q) : PW X e t' := ⟨fun whole pins s σ H Q I q => h.run whole pins s σ H Q I (k _ _ _ q)⟩
theorem _root_.L2.PA.mono {e : List Expr} {t t' : TA} (h : PA X e t) (k : ∀ σ H Q, t' σ H Q → t σ H Q) : PA X e t' := ⟨fun pos pins s σ H Q I q => h.run pos pins s σ H Q I (k _ _ _ q)⟩
theorem _root_.L2.PS.mono {e : Stmt} {t t' : TS} (h : PS X e t) (k : ∀ D σ H, t' D σ H → t D σ H) : PS X e t' := ⟨fun pins s σ H D I q => h.run pins s σ H D I (k _ _ _ q)⟩
theorem _root_.L2.PSs.mono {e : List Stmt} {t t' : TS} (h : PSs X e t) (k : ∀ D σ H, t' D σ H → t D σ H) : PSs X e t' := ⟨fun pins s σ H D I q => h.run pins s σ H D I (k _ _ _ q)⟩
theorem _root_.L2.PE.or {e : Expr} {t t' : TE} (h : PE X e t) (h' : PE X e t') : PE X e (fun σ H Q => t σ H Q ∨ t' σ H Q) := ⟨fun pins s σ H Q I q => q.elim (h.run pins s σ H Q I) (h'.run pins s σ H Q I)⟩

/-! ### names, constants -/
def eVar (i : Nat) : Den := fun ρ M => match ρ[i]? with
  | some (some (.d x)) => .ok (.t (.d x)) M
  | some (some (.h k)) => .ok (.h k) M
  | _ => .bad
def eC (x : D) : Den := fun _ M => .ok (.t (.d x)) M
variable {e a b c : Expr} {Fe Fa Fb Fc : Den} {pos : Pos}
theorem rr_d {K : PySem.W.Frag} {mg : Mg} {v : V} {x : D} (h : Dp K mg w.F v x) : RR K mg w H M v (.t (.d x)) [] := ⟨.d h, List.nodup_nil, fun _ z => nomatch z⟩
theorem de_const {v : V} {x : D} (h : PE X e (tC v)) (hd : ∀ F, Dp X.K X.mg F v x) : DE X W e (eC x) :=
  h.mono fun σ H Q ⟨w, ρ, M, m, er, p⟩ => (p.now m) v [] (rr_d (hd _)) fun _ z => nomatch z
theorem de_var (i : Nat) (h : PE X e (tVar i)) : DE X W e (eVar i) := h.mono fun σ H Q ⟨w, ρ, M, m, er, p⟩ => by
  unfold eVar at p
  split at p
  · rename_i x hx
    obtain ⟨v, h1, h2⟩ := er.at_ i _ hx
    exact ⟨v, h1, (p.now m) v [] (rr_d h2) fun _ z => nomatch z⟩
  · rename_i k hk
    obtain ⟨v, h1, h2⟩ := er.at_ i _ hk
    exact ⟨v, h1, (p.now m) v [] ⟨h2.1, h2.2, rfl⟩ fun _ z => nomatch z⟩
  · exact p.elim

/-! ### operators -/
def eSeq2 (g : R → R → Mst → Out R) (Fa Fb : Den) : Den := fun ρ M => (Fa ρ M).bind fun x M1 => (Fb ρ M1).bind fun y M2 => g x y M2
def Op2 (X : Cx) (g : R → R → Mst → Out R) (r : R2) : Prop := ∀ (W : WX) (σ : St) (w : Wd) (H : Hp) (M : Mst) (x y : V) (r1 r2 : R) (f1 f2 : List Addr) (Q : VK), MR X.K X.mg w H M →
  RR X.K X.mg w H M x r1 f1 → RR X.K X.mg w H M y r2 f2 → (∀ a ∈ f1, a ∉ f2) → Post X W σ (f1 ++ f2) w H M (g r1 r2 M) (CE X (f1 ++ f2) w H M Q) → r x y H Q
theorem pm_nil {a : Addr} (h : Pm [] w H M a) (gs : List Addr) : Pm gs w H M a := h.imp id (Or.imp id fun z => nomatch z)
/-- a new thing is not a held one -/
theorem RR.apart {v : V} {r : R} {f1 f2 : List Addr} (q1 : RR X.K X.mg w H M v r f1) (h2 : ∀ a ∈ f2, Pm [] w H M a) : ∀ a ∈ f1, a ∉ f2 := fun a ha hb => by
  obtain ⟨_, ⟨o, ho⟩, hn⟩ := q1.fpOk a ha
  rcases h2 a hb with z | ⟨j, hj, z⟩ | z
  · rw [ho] at z; cases z
  · exact hn j hj z
  · cases z
theorem rd_op {g : R → R → Mst → Out R} {r : R2} (hg : Op2 X g r) {Q : VK} (h : rdE X W (eSeq2 g Fa Fb) σ H Q) : tOp r (rdE X W Fa) (rdE X W Fb) σ H Q := by
  obtain ⟨w, ρ, M, m, er, p⟩ := h
  refine ⟨w, ρ, M, m, er, p.bindF.imp fun w1 H1 M1 x _ _ z => ?_⟩
  obtain ⟨e1, m1, p1⟩ := z
  intro v1 f1 q1 hf1
  refine ⟨w1, ρ, M1, m1, er.stay e1, (p1 f1 hf1).bindF.imp fun w2 H2 M2 y _ _ z => ?_⟩
  obtain ⟨e2, m2, p2⟩ := z
  intro v2 f2 q2 hf2
  have e12 : Ext [] w H M w2 H2 M2 := e1.trans0 e2
  have hp : ∀ a ∈ f1 ++ f2, Pm f1 w1 H1 M1 a := fun a ha => (List.mem_append.mp ha).elim (fun z => .inr (.inr z)) fun z => pm_nil (hf2 a z) _
  have hp' : ∀ a ∈ f1 ++ f2, Pm [] w H M a := fun a ha => (List.mem_append.mp ha).elim (hf1 a) fun z => e1.pm (gs := []) (fun _ z => nomatch z) (hf2 a z)
  exact hg W σ w2 H2 M2 v1 v2 x y f1 f2 Q m2 (q1.stay e2 fun _ _ z => nomatch z) q2 (q1.apart hf2) ((p2 _ hp).imp fun _ _ _ _ _ _ q => q.from e12 hp')
theorem de_op {op : Operator} {r : R2} {g : R → R → Mst → Out R} (hr : OpR X (binaryOp op) r) (hg : Op2 X g r) (ha : DE X W a Fa) (hb : DE X W b Fb) : DE X W (.BinOp a op b pos) (eSeq2 g Fa Fb) :=
  (pe_op hr ha hb).mono fun _ _ _ h => rd_op hg h
end
end DL

/-! DL3: operators by data, comparisons, tests, argument lists, displays -/
namespace DL
open PySem L2
section
variable {X : Cx} {W : WX} {σ : St} {fs gs : List Addr} {w w2 : Wd} {H H2 : Hp} {M M2 : Mst} {α β : Type}
variable {e a b c : Expr} {Fe Fa Fb Fc : Den} {pos : Pos}

/-- a plain answer -/
theorem CE.val {v : V} {x : D} {Q : VK} {C : Mst → R} (h : CE X fs w H M Q w H M (.t (.d x))) (hv : Dp X.K X.mg w.F v x) : Q v H := h v [] (rr_d hv) fun _ z => nomatch z
/-- a scalar operation of two values as they are worth now -/
def sc2 (h : D → D → Option D) : R → R → Mst → Out R := fun r1 r2 M => match h (frzR M r1) (frzR M r2) with
  | some x => .ok (.t (.d x)) M
  | none => .bad
theorem op2_sc {h : D → D → Option D} {r : R2} (hh : ∀ (F : Hp) (H : Hp) (x y : V) (d1 d2 d : D) (Q : VK), Dp X.K X.mg H x d1 → Dp X.K X.mg H y d2 → h d1 d2 = some d → (∀ v, Dp X.K X.mg F v d → Q v H) → r x y H Q) : Op2 X (sc2 h) r := by
  intro W σ w H M x y r1 r2 f1 f2 Q m q1 q2 _ p
  unfold sc2 at p
  split at p
  · rename_i d hd
    exact hh w.F H x y _ _ d Q (seen m q1) (seen m q2) hd fun v hv => (p.now m).val (C := fun _ => r1) hv
  · exact p.elim
theorem Op2.or {g : R → R → Mst → Out R} {r r' : R2} (h : Op2 X g r ∨ Op2 X g r') : Op2 X g (fun x y H Q => r x y H Q ∨ r' x y H Q) :=
  fun W σ w H M x y r1 r2 f1 f2 Q m q1 q2 d p => h.elim (fun z => .inl (z W σ w H M x y r1 r2 f1 f2 Q m q1 q2 d p)) fun z => .inr (z W σ w H M x y r1 r2 f1 f2 Q m q1 q2 d p)
/-- by the operands' data: g is g1 where it is told -/
def case2 (t : D → D → Bool) (g1 g2 : R → R → Mst → Out R) : R → R → Mst → Out R := fun r1 r2 M => if t (frzR M r1) (frzR M r2) = true then g1 r1 r2 M else g2 r1 r2 M
theorem Op2.case {t : D → D → Bool} {g1 g2 : R → R → Mst → Out R} {r r' : R2} (h : Op2 X g1 r) (h' : Op2 X g2 r') : Op2 X (case2 t g1 g2) (fun x y H Q => r x y H Q ∨ r' x y H Q) := by
  intro W σ w H M x y r1 r2 f1 f2 Q m q1 q2 d p
  unfold case2 at p
  split at p
  · exact .inl (h W σ w H M x y r1 r2 f1 f2 Q m q1 q2 d p)
  · exact .inr (h' W σ w H M x y r1 r2 f1 f2 Q m q1 q2 d p)

/-! ### ints and texts -/
def iOp (c : Int → Int → Bool) (g : Int → Int → Int) : D → D → Option D
  | .int i, .int j => if c i j = true then some (.int (g i j)) else none
  | _, _ => none
def iRel (g : Int → Int → Bool) : D → D → Option D
  | .int i, .int j => some (.bl (g i j))
  | _, _ => none
theorem op2_i {cc : Int → Int → Bool} {C : Int → Int → Prop} {g : Int → Int → Int} (hc : ∀ i j, cc i j = true → C i j) : Op2 X (sc2 (iOp cc g)) (rI C fun i j => .int (g i j)) := op2_sc fun F H x y d1 d2 d Q h1 h2 hd q => by
  unfold iOp at hd
  split at hd
  · split at hd
    · rename_i i j z
      cases h1; cases h2; cases hd
      exact ⟨i, j, rfl, rfl, hc _ _ z, q _ (.int _)⟩
    · cases hd
  · cases hd
theorem op2_i0 {g : Int → Int → Int} : Op2 X (sc2 (iOp (fun _ _ => true) g)) (rI0 fun i j => .int (g i j)) := op2_sc fun F H x y d1 d2 d Q h1 h2 hd q => by
  unfold iOp at hd
  split at hd
  · rename_i i j
    cases h1; cases h2; cases hd
    exact ⟨i, j, rfl, rfl, q _ (.int _)⟩
  · cases hd
theorem op2_rel {g : Int → Int → Bool} : Op2 X (sc2 (iRel g)) (rI0 fun i j => .bl (g i j)) := op2_sc fun F H x y d1 d2 d Q h1 h2 hd q => by
  unfold iRel at hd
  split at hd
  · rename_i i j
    cases h1; cases h2; cases hd
    exact ⟨i, j, rfl, rfl, q _ (.bl _)⟩
  · cases hd
def strCap : Nat := 1000000
theorem cap_le : strCap ≤ sizeLine := by rw [sizeLine_eq]; decide
def sCat : D → D → Option D
  | .str x, .str y => if x.length + y.length ≤ strCap then some (.str (x ++ y)) else none
  | _, _ => none
theorem op2_scat : Op2 X (sc2 sCat) (fun x y H Q => ∃ i j, x = .str i ∧ y = .str j ∧ i.length + j.length ≤ sizeLine ∧ Q (.str (i ++ j)) H) := op2_sc fun F H x y d1 d2 d Q h1 h2 hd q => by
  unfold sCat at hd
  split at hd
  · split at hd
    · rename_i i j z
      cases h1; cases h2; cases hd
      exact ⟨i, j, rfl, rfl, Nat.le_trans z cap_le, q _ (.str _)⟩
    · cases hd
  · cases hd

/-! ### a new object -/
theorem MR.new {p : Addr} {o : HO} (m : MR X.K X.mg w H M) (hp : H p = none) : MR X.K X.mg w (upd H p o) M := by
  have ne : ∀ q u, H q = some u → q ≠ p := fun q u e => ne_of_none e hp
  refine ⟨fun q u e => ?_, fun k t e => ?_, m.dis⟩
  · rw [upd_ne (ne q u (m.sub q u e))]; exact m.sub q u e
  · obtain ⟨h1, h2⟩ := m.obj k t e
    exact ⟨h1.stay (Same.refl _) fun q hq => ⟨(h1.fp q hq).1, fun u hu => by rw [upd_ne (ne q u hu)]; exact hu⟩, h2⟩
theorem Ext.new {p : Addr} {o : HO} (m : MR X.K X.mg w H M) (hp : H p = none) : Ext fs w H M w (upd H p o) M where
  F := Same.refl _
  len := Nat.le_refl _
  al := fun _ _ => rfl
  keep := fun q u e _ => by rw [upd_ne (ne_of_none e hp)]; exact e
  ph := fun k hk q hq => .inr (.inl ⟨k, hk, hq⟩)
  gr := fun _ h => .inl h
  there := fun q e => by
    by_cases z : q = p
    · rw [z]; exact hp
    · rw [upd_ne z] at e; exact e
/-- a new list of held trees -/
theorem RR.newL {p : Addr} {vs : List V} {ts : List T} {fp : List Addr} (m : MR X.K X.mg w H M) (hp : H p = none) (q : TRL X.K X.mg w.F H vs ts fp) (nd : fp.Nodup) (dj : ∀ a ∈ fp, ∀ k, k < M.length → a ∉ w.φ k) :
    RR X.K X.mg w (upd H p (.lst vs)) M (.ref p) (.t (.lst ts)) (p :: fp) := by
  have nf : w.F p = none := by
    cases z : w.F p with
    | none => rfl
    | some o => rw [m.sub p o z] at hp; cases hp
  have np : p ∉ fp := fun z => by obtain ⟨_, o, e⟩ := q.fp p z; rw [e] at hp; cases hp
  refine ⟨.lst upd_same nf (q.stay (Same.refl _) fun b hb => ⟨(q.fp b hb).1, fun o ho => by rw [upd_ne (ne_of_none ho hp)]; exact ho⟩), List.nodup_cons.mpr ⟨np, nd⟩, fun b hb k hk z => ?_⟩
  rcases List.mem_cons.mp hb with rfl | hb
  · obtain ⟨x, hx⟩ : ∃ x, M[k]? = some x := ⟨M[k], List.getElem?_eq_getElem hk⟩
    obtain ⟨_, o, e⟩ := (m.obj k x hx).1.fp _ z
    rw [e] at hp; cases hp
  · exact dj b hb k hk z
theorem RR.newT {p : Addr} {vs : List V} {ts : List T} {fp : List Addr} (m : MR X.K X.mg w H M) (hp : H p = none) (q : TRL X.K X.mg w.F H vs ts fp) (nd : fp.Nodup) (dj : ∀ a ∈ fp, ∀ k, k < M.length → a ∉ w.φ k) :
    RR X.K X.mg w (upd H p (.tup vs)) M (.ref p) (.t (.tup ts)) (p :: fp) := by
  have nf : w.F p = none := by
    cases z : w.F p with
    | none => rfl
    | some o => rw [m.sub p o z] at hp; cases hp
  have np : p ∉ fp := fun z => by obtain ⟨_, o, e⟩ := q.fp p z; rw [e] at hp; cases hp
  refine ⟨.tup upd_same nf (q.stay (Same.refl _) fun b hb => ⟨(q.fp b hb).1, fun o ho => by rw [upd_ne (ne_of_none ho hp)]; exact ho⟩), List.nodup_cons.mpr ⟨np, nd⟩, fun b hb k hk z => ?_⟩
  rcases List.mem_cons.mp hb with rfl | hb
  · obtain ⟨x, hx⟩ : ∃ x, M[k]? = some x := ⟨M[k], List.getElem?_eq_getElem hk⟩
    obtain ⟨_, o, e⟩ := (m.obj k x hx).1.fp _ z
    rw [e] at hp; cases hp
  · exact dj b hb k hk z
theorem DpL.trees {vs : List V} {ds : List D} (h : DpL X.K X.mg w.F vs ds) : TRL X.K X.mg w.F H vs (ds.map T.d) [] := by
  induction ds generalizing vs with
  | nil => cases h; exact .nil
  | cons x r ih =>
    cases h with
    | cons h1 h2 => exact .cons (f1 := []) (f2 := []) (.d h1) (ih h2)

/-! ### argument lists -/
def eNil : DenA := fun _ M => .ok [] M
def eCons (F : Den) (G : DenA) : DenA := fun ρ M => (F ρ M).bind fun r M1 => (G ρ M1).bind fun rs M2 => .ok (r :: rs) M2
theorem da_nil : DA X W [] eNil := pa_nil.mono fun σ H Q h => by
  obtain ⟨w, ρ, M, m, er, p⟩ := h
  exact p.now m [] [] .nil fun _ z => nomatch z
theorem rd_cons {Q : List V → Hp → Prop} {F : Den} {G : DenA} (h : rdA X W (eCons F G) σ H Q) : tCons (rdE X W F) (rdA X W G) σ H Q := by
  obtain ⟨w, ρ, M, m, er, p⟩ := h
  refine ⟨w, ρ, M, m, er, p.bindF.imp fun w1 H1 M1 x _ _ z => ?_⟩
  obtain ⟨e1, m1, p1⟩ := z
  intro v1 f1 q1 hf1
  refine ⟨w1, ρ, M1, m1, er.stay e1, (p1 f1 hf1).bindF.imp fun w2 H2 M2 y _ _ z => ?_⟩
  obtain ⟨e2, m2, p2⟩ := z
  intro v2 f2 q2 hf2
  have hp : ∀ a ∈ f1 ++ f2, Pm f1 w1 H1 M1 a := fun a ha => (List.mem_append.mp ha).elim (fun z => .inr (.inr z)) fun z => pm_nil (hf2 a z) _
  have hp' : ∀ a ∈ f1 ++ f2, Pm [] w H M a := fun a ha => (List.mem_append.mp ha).elim (hf1 a) fun z => e1.pm (gs := []) (fun _ z => nomatch z) (hf2 a z)
  exact (p2 _ hp).now m2 (v1 :: v2) (f1 ++ f2) (.cons (q1.stay e2 fun _ _ z => nomatch z) q2 (q1.apart hf2)) hp'
theorem da_cons {es : List Expr} {F : Den} {G : DenA} (ha : DE X W e F) (hr : DA X W es G) (hs : starEach (e :: es) X.env = (false, eval e X.env) :: starEach es X.env := by rfl) : DA X W (e :: es) (eCons F G) :=
  (pa_cons ha hr hs).mono fun _ _ _ h => rd_cons h

/-! ### displays -/
def treesM : List R → Mst → List T × Mst
  | [], M => ([], M)
  | .t x :: r, M => let (ts, M') := treesM r M; (x :: ts, M')
  | .h k :: r, M => let (ts, M') := treesM r (frzM M (.h k)); (.d (frzR M (.h k)) :: ts, M')
theorem trees_ok {rs : List R} : ∀ {vs : List V} {fp : List Addr} {w : Wd} {H : Hp} {M : Mst}, MR X.K X.mg w H M → RRL X.K X.mg w H M vs rs fp →
    ∃ w', Ext [] w H M w' H (treesM rs M).2 ∧ MR X.K X.mg w' H (treesM rs M).2 ∧ TRL X.K X.mg w'.F H vs (treesM rs M).1 fp ∧ fp.Nodup ∧ ∀ a ∈ fp, ∀ k, k < (treesM rs M).2.length → a ∉ w'.φ k := by
  induction rs with
  | nil =>
    intro vs fp w H M m h
    cases h
    exact ⟨w, Ext.refl m, m, .nil, List.nodup_nil, fun _ z => nomatch z⟩
  | cons r rs ih =>
    intro vs fp w H M m h
    cases h with
    | @cons v vs _ _ f1 f2 h1 h2 dj =>
      cases r with
      | t x =>
        obtain ⟨w', e, m', q, nd, na⟩ := ih m h2
        have h1' := h1.stay e fun _ _ z => nomatch z
        exact ⟨w', e, m', .cons h1'.1 q, List.nodup_append.mpr ⟨h1'.2.1, nd, fun a ha b hb z => dj a ha (z ▸ hb)⟩, fun a ha => (List.mem_append.mp ha).elim (h1'.2.2 a) (na a)⟩
      | h k =>
        obtain ⟨w1, e1, m1, d1, _⟩ := settle m h1
        have hk : f1 = [] := h1.2.2
        subst hk
        obtain ⟨w', e, m', q, nd, na⟩ := ih m1 (h2.stay e1 fun _ _ z => nomatch z)
        exact ⟨w', e1.trans0 e, m', .cons (.d (d1.mono e.F)) q, nd, na⟩
def eLst (G : DenA) : Den := fun ρ M => (G ρ M).bind fun rs M1 => if rs.length ≤ 1000000 then .ok (.t (.lst (treesM rs M1).1)) (treesM rs M1).2 else .bad
def eTup (G : DenA) : Den := fun ρ M => (G ρ M).bind fun rs M1 => if rs.length ≤ 1000000 then .ok (.t (.tup (treesM rs M1).1)) (treesM rs M1).2 else .bad
theorem big_le {n : Nat} (h : n ≤ 1000000) : n ≤ sizeLine := Nat.le_trans h cap_le
theorem de_lst {es : List Expr} {G : DenA} (h : DA X W es G) : DE X W (.List es pos) (eLst G) := (pe_lst h).mono fun σ H Q h => by
  obtain ⟨w, ρ, M, m, er, p⟩ := h
  refine ⟨w, ρ, M, m, er, p.bindF.imp fun w1 H1 M1 rs _ _ z => ?_⟩
  obtain ⟨e1, m1, p1⟩ := z
  intro vs fp q hf
  replace p1 := p1 fp hf
  split at p1
  · rename_i hl
    refine ⟨by rw [q.length]; exact big_le hl, fun a ha => ?_⟩
    obtain ⟨w2, e2, m2, q2, nd, na⟩ := trees_ok m1 q
    refine p1 w2 _ ((e2.mono fun _ z => nomatch z).trans0 (Ext.new m2 ha)) (m2.new ha) _ (a :: fp) (RR.newL m2 ha q2 nd na) fun b hb => ?_
    rcases List.mem_cons.mp hb with rfl | hb
    · exact .inl (e1.there _ ha)
    · exact hf b hb
  · exact p1.elim
theorem de_tup {es : List Expr} {G : DenA} {x1 : Nat} (h : DA X W es G) : DE X W (.Tuple es x1 pos) (eTup G) := (pe_tup h).mono fun σ H Q h => by
  obtain ⟨w, ρ, M, m, er, p⟩ := h
  refine ⟨w, ρ, M, m, er, p.bindF.imp fun w1 H1 M1 rs _ _ z => ?_⟩
  obtain ⟨e1, m1, p1⟩ := z
  intro vs fp q hf
  replace p1 := p1 fp hf
  split at p1
  · rename_i hl
    refine ⟨by rw [q.length]; exact big_le hl, fun a ha => ?_⟩
    obtain ⟨w2, e2, m2, q2, nd, na⟩ := trees_ok m1 q
    refine p1 w2 _ ((e2.mono fun _ z => nomatch z).trans0 (Ext.new m2 ha)) (m2.new ha) _ (a :: fp) (RR.newT m2 ha q2 nd na) fun b hb => ?_
    rcases List.mem_cons.mp hb with rfl | hb
    · exact .inl (e1.there _ ha)
    · exact hf b hb
  · exact p1.elim
end
end DL

/-! DL4: comparisons, tests, and or not, conditional expressions -/
namespace DL
open PySem L2
section
variable {X : Cx} {W : WX} {σ : St} {fs gs : List Addr} {w w2 : Wd} {H H2 : Hp} {M M2 : Mst} {α β : Type}
variable {e a b c : Expr} {Fe Fa Fb Fc : Den} {Ta Tb : DenT} {pos : Pos}

theorem rr_bl {K : PySem.W.Frag} {mg : Mg} {v : V} {k : Bool} {fp : List Addr} (h : RR K mg w H M v (.t (.d (.bl k))) fp) : v = .bl k := by
  obtain ⟨h, _⟩ := h
  cases h with
  | d h => cases h; rfl
def eTB (F : Den) : DenT := fun ρ M => (F ρ M).bind fun r M' => match r with
  | .t (.d (.bl b)) => .ok b M'
  | _ => .bad
theorem rd_tb {F : Den} {Q : Bool → Hp → Prop} (h : rdT X W (eTB F) σ H Q) : rdE X W F σ H (fun x H' => ∃ k, x = .bl k ∧ Q k H') := by
  obtain ⟨w, ρ, M, m, er, p⟩ := h
  refine ⟨w, ρ, M, m, er, p.bindF.imp fun w1 H1 M1 r _ _ z => ?_⟩
  obtain ⟨e1, m1, p1⟩ := z
  intro v fp q hf
  replace p1 := p1 [] (fun _ z => nomatch z)
  split at p1
  · exact ⟨_, rr_bl q, p1.now m1⟩
  · exact p1.elim
theorem de_cmp {op : CmpOp} {r : R2} {g : R → R → Mst → Out R} (hr : OpR X (compareOp op) r) (hg : Op2 X g r) (ha : DE X W a Fa) (hb : DE X W b Fb) (hm : behindInMarks op b = false) : DE X W (.Compare a [op] [b] pos) (eSeq2 g Fa Fb) :=
  (pe_cmpR hr ha hb hm).mono fun _ _ _ h => rd_op hg h
theorem dt_cmp {op : CmpOp} {r : R2} {g : R → R → Mst → Out R} (hr : OpR X (compareOp op) r) (hg : Op2 X g r) (ha : DE X W a Fa) (hb : DE X W b Fb) (hm : behindInMarks op b = false) : DT X W (.Compare a [op] [b] pos) (eTB (eSeq2 g Fa Fb)) :=
  (pt_cmpR hr ha hb hm).mono fun _ _ _ h => rd_op hg (rd_tb h)
theorem dt_val (h : DE X W e Fe) (he : ∀ whole, isTrue e X.env whole = (do let v ← whole; standAt e.pos; holding [v] (truthy v)) := by intro _; rfl) : DT X W e (eTB Fe) :=
  (pt_val h he).mono fun _ _ _ h => rd_tb h

/-! ### truth -/
def truth : D → Option Bool
  | .non => some false
  | .bl b => some b
  | .int i => some (i != 0)
  | .str x => if x.length ≤ strCap then some ((x.length : Int) != 0) else none
  | .lst ds => some (!ds.isEmpty)
  | .tup ds => some (!ds.isEmpty)
  | _ => none
def eTru (F : Den) : DenT := fun ρ M => (F ρ M).bind fun r M' => match truth (frzR M' r) with
  | some b => .ok b M'
  | none => .bad
theorem DpL.empty {F : Hp} {K : PySem.W.Frag} {mg : Mg} {vs : List V} {ds : List D} (h : DpL K mg F vs ds) : ds.isEmpty = vs.isEmpty := by cases h <;> rfl
theorem dt_tru (h : DE X W e Fe) (he : ∀ whole, isTrue e X.env whole = (do let v ← whole; standAt e.pos; holding [v] (truthy v)) := by intro _; rfl) : DT X W e (eTru Fe) :=
  (pt_truth h he).mono fun σ H Q h => by
    obtain ⟨w, ρ, M, m, er, p⟩ := h
    refine ⟨w, ρ, M, m, er, p.bindF.imp fun w1 H1 M1 r _ _ z => ?_⟩
    obtain ⟨e1, m1, p1⟩ := z
    intro v fp q hf
    replace p1 := p1 [] (fun _ z => nomatch z)
    split at p1
    · rename_i k hk
      refine ⟨k, ?_, p1.now m1⟩
      have s := seen m1 q
      unfold truth at hk
      split at hk
      · rename_i z; rw [z] at s; cases s; cases hk; rfl
      · rename_i z; rw [z] at s; cases s; cases hk; rfl
      · rename_i z; rw [z] at s; cases s; cases hk; rfl
      · rename_i z
        rw [z] at s; cases s
        split at hk
        · rename_i hl
          cases hk
          exact ⟨Nat.le_trans hl cap_le, rfl⟩
        · cases hk
      · rename_i z
        rw [z] at s
        cases s with
        | lst h l => cases hk; exact .inl ⟨_, SqL.of h, by rw [l.empty]⟩
      · rename_i z
        rw [z] at s
        cases s with
        | tup h l => cases hk; exact .inr (.inl ⟨_, h, by rw [l.empty]⟩)
      · cases hk
    · exact p1.elim

/-! ### and, or, not as tests -/
def tAndD (Fa Fb : DenT) : DenT := fun ρ M => (Fa ρ M).bind fun k M1 => if k = true then Fb ρ M1 else .ok false M1
def tOrD (Fa Fb : DenT) : DenT := fun ρ M => (Fa ρ M).bind fun k M1 => if k = true then .ok true M1 else Fb ρ M1
def tNotD (Fa : DenT) : DenT := fun ρ M => (Fa ρ M).bind fun k M1 => .ok (!k) M1
theorem DW.dt (h : DW X W e Ta) : DT X W e Ta := PW.pt h
theorem dw_and1 (ha : DT X W a Ta) : DW X W (.BoolOp .And [a] pos) Ta := pw_and1 ha
theorem dw_or1 (ha : DT X W a Ta) : DW X W (.BoolOp .Or [a] pos) Ta := pw_or1 ha
variable {rest : List Expr}
theorem dw_and (ha : DT X W a Ta) (hb : DW X W (.BoolOp .And (b :: rest) pos) Tb) : DW X W (.BoolOp .And (a :: b :: rest) pos) (tAndD Ta Tb) :=
  (pw_and ha hb).mono fun σ H Q h => by
    obtain ⟨w, ρ, M, m, er, p⟩ := h
    refine ⟨w, ρ, M, m, er, p.bindF.imp fun w1 H1 M1 k _ _ z => ?_⟩
    obtain ⟨e1, m1, p1⟩ := z
    replace p1 := p1 [] (fun _ z => nomatch z)
    cases k with
    | true => exact ⟨w1, ρ, M1, m1, er.stay e1, p1⟩
    | false => exact p1.now m1
theorem dw_or (ha : DT X W a Ta) (hb : DW X W (.BoolOp .Or (b :: rest) pos) Tb) : DW X W (.BoolOp .Or (a :: b :: rest) pos) (tOrD Ta Tb) :=
  (pw_or ha hb).mono fun σ H Q h => by
    obtain ⟨w, ρ, M, m, er, p⟩ := h
    refine ⟨w, ρ, M, m, er, p.bindF.imp fun w1 H1 M1 k _ _ z => ?_⟩
    obtain ⟨e1, m1, p1⟩ := z
    replace p1 := p1 [] (fun _ z => nomatch z)
    cases k with
    | true => exact p1.now m1
    | false => exact ⟨w1, ρ, M1, m1, er.stay e1, p1⟩
theorem dt_not (ha : DT X W a Ta) : DT X W (.UnaryOp .Not a pos) (tNotD Ta) :=
  (pt_not ha).mono fun σ H Q h => by
    obtain ⟨w, ρ, M, m, er, p⟩ := h
    refine ⟨w, ρ, M, m, er, p.bindF.imp fun w1 H1 M1 k _ _ z => ?_⟩
    obtain ⟨e1, m1, p1⟩ := z
    exact (p1 [] (fun _ z => nomatch z)).now m1
/-! ### .. as values -/
def eAnd (Fa Fb : Den) : Den := fun ρ M => (eTB Fa ρ M).bind fun k M1 => if k = true then Fb ρ M1 else .ok (.t (.d (.bl false))) M1
def eOr (Fa Fb : Den) : Den := fun ρ M => (eTB Fa ρ M).bind fun k M1 => if k = true then .ok (.t (.d (.bl true))) M1 else Fb ρ M1
def eNot (Fa : Den) : Den := fun ρ M => (eTB Fa ρ M).bind fun k M1 => .ok (.t (.d (.bl !k))) M1
theorem de_one {op : BoolOp} (h : DE X W a Fa) : DE X W (.BoolOp op [a] pos) Fa := pe_one h
theorem rd_tb' {F : Den} {Q : VK} {k : Bool → Mst → Out R} (h : rdE X W (fun ρ M => (eTB F ρ M).bind k) σ H Q) (kk : ∀ w1 ρ M1 H1 c, MR X.K X.mg w1 H1 M1 → ER X.K X.mg w1 M1 σ ρ → Post X W σ [] w1 H1 M1 (k c M1) (CE X [] w1 H1 M1 Q) → True) : True := trivial
theorem de_and (ha : DE X W a Fa) (hb : DE X W (.BoolOp .And (b :: rest) pos) Fb) : DE X W (.BoolOp .And (a :: b :: rest) pos) (eAnd Fa Fb) :=
  (pe_and ha hb).mono fun σ H Q h => by
    obtain ⟨w, ρ, M, m, er, p⟩ := h
    refine rd_tb (Q := fun c H1 => if c = true then rdE X W Fb σ H1 Q else Q (.bl false) H1) ⟨w, ρ, M, m, er, p.bindF.imp fun w1 H1 M1 k _ _ z => ?_⟩
    obtain ⟨e1, m1, p1⟩ := z
    replace p1 := p1 [] (fun _ z => nomatch z)
    cases k with
    | true =>
      rw [if_pos rfl]
      exact ⟨w1, ρ, M1, m1, er.stay e1, Post.imp p1 fun _ _ _ _ _ _ q => q.from e1 fun _ z => nomatch z⟩
    | false =>
      rw [if_neg Bool.false_ne_true]
      exact (p1.now m1) _ [] (rr_d (.bl _)) fun _ z => nomatch z
theorem de_or (ha : DE X W a Fa) (hb : DE X W (.BoolOp .Or (b :: rest) pos) Fb) : DE X W (.BoolOp .Or (a :: b :: rest) pos) (eOr Fa Fb) :=
  (pe_or ha hb).mono fun σ H Q h => by
    obtain ⟨w, ρ, M, m, er, p⟩ := h
    refine rd_tb (Q := fun c H1 => if c = true then Q (.bl true) H1 else rdE X W Fb σ H1 Q) ⟨w, ρ, M, m, er, p.bindF.imp fun w1 H1 M1 k _ _ z => ?_⟩
    obtain ⟨e1, m1, p1⟩ := z
    replace p1 := p1 [] (fun _ z => nomatch z)
    cases k with
    | true =>
      rw [if_pos rfl]
      exact (p1.now m1) _ [] (rr_d (.bl _)) fun _ z => nomatch z
    | false =>
      rw [if_neg Bool.false_ne_true]
      exact ⟨w1, ρ, M1, m1, er.stay e1, Post.imp p1 fun _ _ _ _ _ _ q => q.from e1 fun _ z => nomatch z⟩
theorem de_not (ha : DE X W a Fa) : DE X W (.UnaryOp .Not a pos) (eNot Fa) :=
  (pe_not ha).mono fun σ H Q h => by
    obtain ⟨w, ρ, M, m, er, p⟩ := h
    refine rd_tb (Q := fun c H1 => Q (.bl !c) H1) ⟨w, ρ, M, m, er, p.bindF.imp fun w1 H1 M1 k _ _ z => ?_⟩
    obtain ⟨e1, m1, p1⟩ := z
    exact ((p1 [] (fun _ z => nomatch z)).now m1) _ [] (rr_d (.bl _)) fun _ z => nomatch z
def eIf (T : DenT) (Fa Fb : Den) : Den := fun ρ M => (T ρ M).bind fun k M1 => if k = true then Fa ρ M1 else Fb ρ M1
theorem de_if (hc : DT X W c Ta) (ha : DE X W a Fa) (hb : DE X W b Fb) : DE X W (.IfExp c a b pos) (eIf Ta Fa Fb) :=
  (pe_ifExp hc ha hb).mono fun σ H Q h => by
    obtain ⟨w, ρ, M, m, er, p⟩ := h
    refine ⟨w, ρ, M, m, er, p.bindF.imp fun w1 H1 M1 k _ _ z => ?_⟩
    obtain ⟨e1, m1, p1⟩ := z
    replace p1 := p1 [] (fun _ z => nomatch z)
    cases k with
    | true => exact ⟨w1, ρ, M1, m1, er.stay e1, Post.imp p1 fun _ _ _ _ _ _ q => q.from e1 fun _ z => nomatch z⟩
    | false => exact ⟨w1, ρ, M1, m1, er.stay e1, Post.imp p1 fun _ _ _ _ _ _ q => q.from e1 fun _ z => nomatch z⟩

/-! ### a < b < c -/
def dat : R → Option D
  | .t (.d x) => some x
  | _ => none
def eChain (g g' : R → R → Mst → Out R) (Fa Fb Fc : Den) : Den := fun ρ M => (Fa ρ M).bind fun x M1 => (Fb ρ M1).bind fun y M2 => match dat x, dat y with
  | some x, some y => (g (.t (.d x)) (.t (.d y)) M2).bind fun z M3 => match dat z with
    | some (.bl k) => if k = true then (Fc ρ M3).bind fun u M4 => g' (.t (.d y)) u M4 else .ok (.t (.d (.bl false))) M3
    | _ => .bad
  | _, _ => .bad
theorem dat_eq {r : R} {x : D} (h : dat r = some x) : r = .t (.d x) := by
  unfold dat at h
  split at h
  · cases h; rfl
  · cases h
theorem rr_dat {K : PySem.W.Frag} {mg : Mg} {v : V} {x : D} {fp : List Addr} (h : RR K mg w H M v (.t (.d x)) fp) : Dp K mg w.F v x ∧ fp = [] := by
  obtain ⟨h, _⟩ := h
  cases h with
  | d h => exact ⟨h, rfl⟩
theorem rd_chain {g g' : R → R → Mst → Out R} {r r' : R2} (hg : Op2 X g r) (hg' : Op2 X g' r') {Q : VK} (h : rdE X W (eChain g g' Fa Fb Fc) σ H Q) : tChain r r' (rdE X W Fa) (rdE X W Fb) (rdE X W Fc) σ H Q := by
  obtain ⟨w, ρ, M, m, er, p⟩ := h
  refine ⟨w, ρ, M, m, er, p.bindF.imp fun w1 H1 M1 x _ _ z => ?_⟩
  obtain ⟨e1, m1, p1⟩ := z
  intro v1 f1 q1 hf1
  refine ⟨w1, ρ, M1, m1, er.stay e1, (p1 [] fun _ z => nomatch z).bindF.imp fun w2 H2 M2 y _ _ z => ?_⟩
  obtain ⟨e2, m2, p2⟩ := z
  intro v2 f2 q2 hf2
  replace p2 := p2 [] fun _ z => nomatch z
  split at p2
  · rename_i dx dy hx hy
    have hx := dat_eq hx; subst hx
    have hy := dat_eq hy; subst hy
    obtain ⟨a1, rfl⟩ := rr_dat q1
    obtain ⟨a2, rfl⟩ := rr_dat q2
    have e12 : Ext [] w H M w2 H2 M2 := e1.trans0 e2
    have er2 := er.stay e12
    refine hg W σ w2 H2 M2 v1 v2 _ _ [] [] _ m2 (rr_d (Dp.mono e2.F a1)) (rr_d a2) (fun _ z => nomatch z) (p2.bindF.imp fun w3 H3 M3 z _ _ q => ?_)
    obtain ⟨e3, m3, p3⟩ := q
    intro v3 f3 q3 hf3
    replace p3 := p3 [] fun _ z => nomatch z
    split at p3
    · rename_i k hk
      have hk := dat_eq hk; subst hk
      refine ⟨k, rr_bl q3, ?_⟩
      have e13 := e12.trans0 e3
      cases k with
      | true =>
        rw [if_pos rfl]
        refine ⟨w3, ρ, M3, m3, er2.stay e3, (Post.bindF p3).imp fun w4 H4 M4 u _ _ q => ?_⟩
        obtain ⟨e4, m4, p4⟩ := q
        intro v4 f4 q4 hf4
        refine hg' W σ w4 H4 M4 v2 v4 _ _ [] f4 _ m4 (rr_d (Dp.mono (e3.F.trans e4.F) a2)) q4 (fun _ z => nomatch z) ?_
        refine (p4 f4 hf4).imp fun _ _ _ _ _ _ q => q.from (e13.trans0 e4) fun a ha => e13.pm (gs := []) (fun _ z => nomatch z) (hf4 a ha)
      | false =>
        rw [if_neg Bool.false_ne_true]
        exact (p3.now m3) _ [] (rr_d (.bl _)) fun _ z => nomatch z
    · exact p3.elim
  · exact p2.elim
theorem de_chain {op op' : CmpOp} {g g' : R → R → Mst → Out R} {r r' : R2} (hr : OpR X (compareOp op) r) (hr' : OpR X (compareOp op') r') (hg : Op2 X g r) (hg' : Op2 X g' r') (ha : DE X W a Fa) (hb : DE X W b Fb) (hc : DE X W c Fc)
    (hm : lastMarks [op, op'] [b, c] = false := by with_unfolding_all rfl) : DE X W (.Compare a [op, op'] [b, c] pos) (eChain g g' Fa Fb Fc) := (pe_chain hr hr' ha hb hc hm).mono fun _ _ _ h => rd_chain hg hg' h
theorem dt_chain {op op' : CmpOp} {g g' : R → R → Mst → Out R} {r r' : R2} (hr : OpR X (compareOp op) r) (hr' : OpR X (compareOp op') r') (hg : Op2 X g r) (hg' : Op2 X g' r') (ha : DE X W a Fa) (hb : DE X W b Fb) (hc : DE X W c Fc)
    (hm : lastMarks [op, op'] [b, c] = false := by with_unfolding_all rfl) : DT X W (.Compare a [op, op'] [b, c] pos) (eTB (eChain g g' Fa Fb Fc)) := (pt_chain hr hr' ha hb hc hm).mono fun _ _ _ h => rd_chain hg hg' (rd_tb h)
/-! ### one operand -/
def eSeq1 (g : R → Mst → Out R) (F : Den) : Den := fun ρ M => (F ρ M).bind g
def Op1 (X : Cx) (g : R → Mst → Out R) (r : V → Hp → VK → Prop) : Prop := ∀ (W : WX) (σ : St) (w : Wd) (H : Hp) (M : Mst) (x : V) (r1 : R) (f1 : List Addr) (Q : VK), MR X.K X.mg w H M →
  RR X.K X.mg w H M x r1 f1 → Post X W σ f1 w H M (g r1 M) (CE X f1 w H M Q) → r x H Q
theorem rd_un {g : R → Mst → Out R} {r : V → Hp → VK → Prop} (hg : Op1 X g r) {Q : VK} (h : rdE X W (eSeq1 g Fa) σ H Q) : tUn r (rdE X W Fa) σ H Q := by
  obtain ⟨w, ρ, M, m, er, p⟩ := h
  refine ⟨w, ρ, M, m, er, p.bindF.imp fun w1 H1 M1 x _ _ z => ?_⟩
  obtain ⟨e1, m1, p1⟩ := z
  intro v1 f1 q1 hf1
  exact hg W σ w1 H1 M1 v1 x f1 Q m1 q1 ((p1 f1 hf1).imp fun _ _ _ _ _ _ q => q.from e1 hf1)
theorem de_un {op : UnaryOp} {r : V → Hp → VK → Prop} {g : R → Mst → Out R} (hr : UnR X (unaryOp op) r) (hg : Op1 X g r) (ha : DE X W a Fa) : DE X W (.UnaryOp op a pos) (eSeq1 g Fa) :=
  (pe_un hr ha).mono fun _ _ _ h => rd_un hg h
def sc1 (h : D → Option D) : R → Mst → Out R := fun r1 M => match h (frzR M r1) with
  | some x => .ok (.t (.d x)) M
  | none => .bad
theorem op1_sc {h : D → Option D} {r : V → Hp → VK → Prop} (hh : ∀ (F : Hp) (H : Hp) (x : V) (d1 d : D) (Q : VK), Dp X.K X.mg H x d1 → h d1 = some d → (∀ v, Dp X.K X.mg F v d → Q v H) → r x H Q) : Op1 X (sc1 h) r := by
  intro W σ w H M x r1 f1 Q m q1 p
  unfold sc1 at p
  split at p
  · rename_i d hd
    exact hh w.F H x _ d Q (seen m q1) hd fun v hv => (p.now m).val (C := fun _ => r1) hv
  · exact p.elim
def iNeg : D → Option D
  | .int i => some (.int (-i))
  | _ => none
theorem op1_neg : Op1 X (sc1 iNeg) (rU fun i => .int (-i)) := op1_sc fun F H x d1 d Q h hd q => by
  unfold iNeg at hd
  split at hd
  · cases h; cases hd; exact ⟨_, rfl, q _ (.int _)⟩
  · cases hd
end
end DL

/-! DL5: statements, targets -/
namespace DL
open PySem L2
inductive Fl where
  | nx (ρ : Ev) | rt (r : R) | bk (ρ : Ev) | ct (ρ : Ev) | xc (e : Exc) (ρ : Ev)
abbrev DenS := Ev → Mst → Option (Fl × Mst)
abbrev DenG := R → Ev → Mst → Option (Ev × Mst)
def bindS {α : Type} (o : Out α) (ρ : Ev) (k : α → Mst → Option (Fl × Mst)) : Option (Fl × Mst) := match o with
  | .ok a M => k a M
  | .exc e M => some (.xc e ρ, M)
  | .bad => none
def PostF (X : Cx) (W : WX) (fs : List Addr) (w : Wd) (H : Hp) (M : Mst) (Dn : Ends) : Fl → Mst → Prop
  | .nx ρ', M' => ∀ w' H' σ', Ext fs w H M w' H' M' → MR X.K X.mg w' H' M' → ER X.K X.mg w' M' σ' ρ' → Dn.nx σ' H'
  | .bk ρ', M' => ∀ w' H' σ', Ext fs w H M w' H' M' → MR X.K X.mg w' H' M' → ER X.K X.mg w' M' σ' ρ' → Dn.bk σ' H'
  | .ct ρ', M' => ∀ w' H' σ', Ext fs w H M w' H' M' → MR X.K X.mg w' H' M' → ER X.K X.mg w' M' σ' ρ' → Dn.ct σ' H'
  | .rt r, M' => ∀ w' H' v fp, Ext fs w H M w' H' M' → MR X.K X.mg w' H' M' → RR X.K X.mg w' H' M' v r fp → (∀ a ∈ fp, Pm fs w H M a) → Dn.rt v H'
  | .xc e ρ', M' => ∀ w' H' σ' cls d, Ext fs w H M w' H' M' → MR X.K X.mg w' H' M' → ER X.K X.mg w' M' σ' ρ' → XR X.K X.mg w' H' cls d e → W cls d σ' H'
def PostS (X : Cx) (W : WX) (fs : List Addr) (w : Wd) (H : Hp) (M : Mst) (o : Option (Fl × Mst)) (Dn : Ends) : Prop := match o with
  | some (f, M') => PostF X W fs w H M Dn f M'
  | none => False
def PostG (X : Cx) (fs : List Addr) (w : Wd) (H : Hp) (M : Mst) (o : Option (Ev × Mst)) (Q : St → Hp → Prop) : Prop := match o with
  | some (ρ', M') => ∀ w' H' σ', Ext fs w H M w' H' M' → MR X.K X.mg w' H' M' → ER X.K X.mg w' M' σ' ρ' → Q σ' H'
  | none => False
def rdS (X : Cx) (W : WX) (F : DenS) : TS := fun Dn σ H => ∃ w ρ M, MR X.K X.mg w H M ∧ ER X.K X.mg w M σ ρ ∧ PostS X W [] w H M (F ρ M) Dn
def rdG (X : Cx) (W : WX) (G : DenG) : TG := fun v σ H Q => ∃ w ρ M r fp, MR X.K X.mg w H M ∧ ER X.K X.mg w M σ ρ ∧ RR X.K X.mg w H M v r fp ∧
  PostG X fp w H M (G r ρ M) Q
def DS (X : Cx) (W : WX) (st : Stmt) (F : DenS) : Prop := PS X st (rdS X W F)
def DB (X : Cx) (W : WX) (st : List Stmt) (F : DenS) : Prop := PSs X st (rdS X W F)
def DG (X : Cx) (W : WX) (tg : Expr) (G : DenG) : Prop := PG X tg (rdG X W G)
section
variable {X : Cx} {W : WX} {σ : St} {fs gs : List Addr} {w w2 : Wd} {H H2 : Hp} {M M2 : Mst} {α β : Type}
variable {e a b c : Expr} {Fe Fa Fb Fc : Den} {Ta Tb : DenT} {pos : Pos} {st : Stmt} {rest sa sb : List Stmt} {F G : DenS} {Dn : Ends}
theorem PostF.from {f : Fl} {M' : Mst} (h : PostF X W fs w H M Dn f M') (e : Ext fs w H M w2 H2 M2) (hg : ∀ a ∈ gs, Pm fs w H M a) : PostF X W gs w2 H2 M2 Dn f M' := by
  cases f with
  | nx ρ => exact fun w' H' σ' e' m er => h w' H' σ' (e.trans e' hg) m er
  | bk ρ => exact fun w' H' σ' e' m er => h w' H' σ' (e.trans e' hg) m er
  | ct ρ => exact fun w' H' σ' e' m er => h w' H' σ' (e.trans e' hg) m er
  | rt r => exact fun w' H' v fp e' m q hp => h w' H' v fp (e.trans e' hg) m q fun a ha => e.pm hg (hp a ha)
  | xc x ρ => exact fun w' H' σ' c d e' m er z => h w' H' σ' c d (e.trans e' hg) m er z
theorem PostS.from {o : Option (Fl × Mst)} (h : PostS X W fs w H M o Dn) (e : Ext fs w H M w2 H2 M2) (hg : ∀ a ∈ gs, Pm fs w H M a) : PostS X W gs w2 H2 M2 o Dn := by
  cases o with
  | none => exact h
  | some p => obtain ⟨f, M'⟩ := p; exact PostF.from h e hg
theorem PostS.bindF {o : Out α} {ρ : Ev} {k : α → Mst → Option (Fl × Mst)} (h : PostS X W fs w H M (bindS o ρ k) Dn) (er : ER X.K X.mg w M σ ρ) :
    Post X W σ [] w H M o (fun w1 H1 M1 a => Ext [] w H M w1 H1 M1 ∧ MR X.K X.mg w1 H1 M1 ∧ ∀ gs, (∀ b ∈ gs, Pm fs w H M b) → PostS X W gs w1 H1 M1 (k a M1) Dn) := by
  cases o with
  | ok a M' => exact fun w1 H1 e1 m1 => ⟨e1, m1, fun gs hg => PostS.from h (e1.mono fun _ z => nomatch z) hg⟩
  | exc x M' => exact fun w1 H1 c d e1 m1 z => h w1 H1 σ c d (e1.mono fun _ z => nomatch z) m1 (er.stay e1) z
  | bad => exact h
theorem PostS.nx {ρ' : Ev} {σ' : St} (h : PostS X W fs w H M (some (.nx ρ', M)) Dn) (m : MR X.K X.mg w H M) (er : ER X.K X.mg w M σ' ρ') : Dn.nx σ' H := h w H σ' (Ext.refl m) m er

theorem PostG.from {o : Option (Ev × Mst)} {Q : St → Hp → Prop} (h : PostG X fs w H M o Q) (e : Ext fs w H M w2 H2 M2) (hg : ∀ a ∈ gs, Pm fs w H M a) : PostG X gs w2 H2 M2 o Q := by
  cases o with
  | none => exact h
  | some p => exact fun w' H' σ' e' m er => h w' H' σ' (e.trans e' hg) m er
/-! ### blocks -/
def sNil : DenS := fun ρ M => some (.nx ρ, M)
def sBad : DenS := fun _ _ => none
def sSeq (F G : DenS) : DenS := fun ρ M => match F ρ M with
  | some (.nx ρ', M') => G ρ' M'
  | o => o
theorem rd_seq (h : rdS X W (sSeq F G) Dn σ H) : tSeq (rdS X W F) (rdS X W G) Dn σ H := by
  obtain ⟨w, ρ, M, m, er, p⟩ := h
  refine ⟨w, ρ, M, m, er, ?_⟩
  unfold sSeq at p
  cases z : F ρ M with
  | none => rw [z] at p; exact p
  | some q =>
    obtain ⟨f, M'⟩ := q
    rw [z] at p
    cases f with
    | nx ρ' => exact fun w' H' σ' e' m' er' => ⟨w', ρ', M', m', er', PostS.from p e' fun _ z => nomatch z⟩
    | bk ρ' => exact p
    | ct ρ' => exact p
    | rt r => exact p
    | xc x ρ' => exact p
theorem db_nil : DB X W [] sNil := pss_nil.mono fun Dn σ H h => by
  obtain ⟨w, ρ, M, m, er, p⟩ := h
  exact p.nx m er
theorem db_cons (h1 : DS X W st F) (h2 : DB X W rest G) : DB X W (st :: rest) (sSeq F G) := (pss_cons h1 h2).mono fun _ _ _ h => rd_seq h
theorem db_one (h1 : DS X W st F) : DB X W [st] F := pss_one h1
theorem ds_never : DS X W st sBad := ps_never.mono fun Dn σ H h => by
  obtain ⟨w, ρ, M, m, er, p⟩ := h
  exact p
theorem db_never : DB X W rest sBad := pss_never.mono fun Dn σ H h => by
  obtain ⟨w, ρ, M, m, er, p⟩ := h
  exact p
theorem ds_pass : DS X W (.Pass pos) sNil := ps_pass.mono fun Dn σ H h => by
  obtain ⟨w, ρ, M, m, er, p⟩ := h
  exact p.nx m er
def sBreak : DenS := fun ρ M => some (.bk ρ, M)
def sCont : DenS := fun ρ M => some (.ct ρ, M)
theorem ds_break : DS X W (.Break pos) sBreak := ps_break.mono fun Dn σ H h => by
  obtain ⟨w, ρ, M, m, er, p⟩ := h
  exact p w H σ (Ext.refl m) m er
theorem ds_cont : DS X W (.Continue pos) sCont := ps_continue.mono fun Dn σ H h => by
  obtain ⟨w, ρ, M, m, er, p⟩ := h
  exact p w H σ (Ext.refl m) m er
def sExpr (F : Den) : DenS := fun ρ M => bindS (F ρ M) ρ fun _ M1 => some (.nx ρ, M1)
theorem ds_expr (h : DE X W e Fe) (hs : swapsWith e none pos.line X.env = pure false := by rfl) : DS X W (.Expr e pos) (sExpr Fe) := (ps_expr h hs).mono fun Dn σ H h => by
  obtain ⟨w, ρ, M, m, er, p⟩ := h
  refine ⟨w, ρ, M, m, er, (p.bindF er).imp fun w1 H1 M1 r _ _ z => ?_⟩
  obtain ⟨e1, m1, p1⟩ := z
  intro v fp q hf
  exact (p1 [] fun _ z => nomatch z).nx m1 (er.stay e1)
def sRet (F : Den) : DenS := fun ρ M => bindS (F ρ M) ρ fun r M1 => some (.rt r, M1)
theorem ds_ret (h : DE X W e Fe) : DS X W (.Return (some e) pos) (sRet Fe) := (ps_ret h).mono fun Dn σ H h => by
  obtain ⟨w, ρ, M, m, er, p⟩ := h
  refine ⟨w, ρ, M, m, er, (p.bindF er).imp fun w1 H1 M1 r _ _ z => ?_⟩
  obtain ⟨e1, m1, p1⟩ := z
  intro v fp q hf
  exact p1 fp hf w1 H1 v fp (Ext.refl m1) m1 q fun a ha => .inr (.inr ha)
def sRetN : DenS := fun _ M => some (.rt (.t (.d .non)), M)
theorem ds_retN : DS X W (.Return none pos) sRetN := ps_retN.mono fun Dn σ H h => by
  obtain ⟨w, ρ, M, m, er, p⟩ := h
  exact p w H .non [] (Ext.refl m) m (rr_d .non) fun _ z => nomatch z
def sIf (T : DenT) (F G : DenS) : DenS := fun ρ M => bindS (T ρ M) ρ fun k M1 => if k = true then F ρ M1 else G ρ M1
theorem ds_if (hc : DT X W c Ta) (ha : DB X W sa F) (hb : DB X W sb G) : DS X W (.If c sa sb pos) (sIf Ta F G) := (ps_if hc ha hb).mono fun Dn σ H h => by
  obtain ⟨w, ρ, M, m, er, p⟩ := h
  refine ⟨w, ρ, M, m, er, (p.bindF er).imp fun w1 H1 M1 k _ _ z => ?_⟩
  obtain ⟨e1, m1, p1⟩ := z
  replace p1 := p1 [] fun _ z => nomatch z
  cases k with
  | true => exact ⟨w1, ρ, M1, m1, er.stay e1, p1⟩
  | false => exact ⟨w1, ρ, M1, m1, er.stay e1, p1⟩

/-! ### targets -/
def svR : R → SV
  | .h k => .h k
  | .t x => .d (frz x)
theorem settleV {v : V} {r : R} {fp : List Addr} (m : MR X.K X.mg w H M) (h : RR X.K X.mg w H M v r fp) :
    ∃ w', Ext fp w H M w' H M ∧ MR X.K X.mg w' H M ∧ VR X.K X.mg w' M v (svR r) ∧ w'.α = w.α := by
  cases r with
  | h k => exact ⟨w, Ext.refl m, m, ⟨h.1, h.2.1⟩, rfl⟩
  | t x => exact settle m h
def gSet (i : Nat) : DenG := fun r ρ M => some (ρ.set i (some (svR r)), M)
theorem rd_set {i : Nat} {v : V} {Q : St → Hp → Prop} (h : rdG X W (gSet i) v σ H Q) : gName i v σ H Q := by
  obtain ⟨w, ρ, M, r, fp, m, er, q, p⟩ := h
  obtain ⟨w', e, m', hv, _⟩ := settleV m q
  exact p w' H _ e m' ((er.stay e).set hv)
/-- a mutable object of one's own -/
def gSetM (i : Nat) : DenG := fun r ρ M => match r with
  | .h k => some (ρ.set i (some (.h k)), M)
  | .t (.d _) => none
  | .t x => some (ρ.set i (some (.h M.length)), M ++ [x])
theorem keepM {v : V} {x : T} {fp : List Addr} (m : MR X.K X.mg w H M) (h : RR X.K X.mg w H M v (.t x) fp) {p : Addr} (hv : v = .ref p) :
    ∃ w', Ext fp w H M w' H (M ++ [x]) ∧ MR X.K X.mg w' H (M ++ [x]) ∧ VR X.K X.mg w' (M ++ [x]) v (.h M.length) := by
  obtain ⟨h1, h2, h3⟩ := h
  subst hv
  refine ⟨⟨w.F, fun k => if k = M.length then p else w.α k, fun k => if k = M.length then fp else w.φ k⟩, ⟨Same.refl _, by simp, fun k hk => if_neg (Nat.ne_of_lt hk), fun _ _ q _ => q, fun k hk a ha => ?_, fun a z => .inl z, fun _ z => z⟩, ⟨m.sub, fun k t e => ?_, fun j k a hj hk h1' h2' => ?_⟩, ?_⟩
  · have ha : a ∈ (if k = M.length then fp else w.φ k) := ha
    split at ha
    · exact .inr (.inr ha)
    · exact .inr (.inl ⟨k, by simp at hk; omega, ha⟩)
  · by_cases hk : k = M.length
    · subst hk
      rw [List.getElem?_append_right (Nat.le_refl _)] at e
      simp at e
      subst e
      show TR X.K X.mg w.F H (.ref (if M.length = M.length then p else _)) _ (if M.length = M.length then fp else _) ∧ (if M.length = M.length then fp else _).Nodup
      rw [if_pos rfl, if_pos rfl]
      exact ⟨h1, h2⟩
    · have hl : k < M.length := by
        have := (List.getElem?_eq_some_iff.mp e).1
        simp at this; omega
      rw [List.getElem?_append_left hl] at e
      show TR X.K X.mg w.F H (.ref (if k = M.length then p else _)) _ (if k = M.length then fp else _) ∧ (if k = M.length then fp else _).Nodup
      rw [if_neg hk, if_neg hk]
      exact m.obj k t e
  · have h1' : a ∈ (if j = M.length then fp else w.φ j) := h1'
    have h2' : a ∈ (if k = M.length then fp else w.φ k) := h2'
    simp at hj hk
    split at h1'
    · split at h2'
      · omega
      · exact absurd h2' (h3 a h1' k (by omega))
    · split at h2'
      · exact absurd h1' (h3 a h2' j (by omega))
      · exact m.dis j k a (by omega) (by omega) h1' h2'
  · refine ⟨by simp, ?_⟩
    show V.ref p = .ref (if M.length = M.length then p else _)
    rw [if_pos rfl]
theorem rd_setM {i : Nat} {v : V} {Q : St → Hp → Prop} (h : rdG X W (gSetM i) v σ H Q) : gName i v σ H Q := by
  obtain ⟨w, ρ, M, r, fp, m, er, q, p⟩ := h
  have go : ∀ x : T, r = .t x → (∃ p, v = .ref p) → PostG X fp w H M (some (ρ.set i (some (.h M.length)), M ++ [x])) Q → gName i v σ H Q := fun x hr ⟨a, hv⟩ p' => by
    subst hr
    obtain ⟨w', e, m', hv⟩ := keepM m q hv
    exact p' w' H _ e m' ((er.stay e).set hv)
  cases r with
  | h k => exact p w H _ (Ext.refl m) m (er.set (x := .h k) ⟨q.1, q.2.1⟩)
  | t x =>
    cases x with
    | d x => exact p.elim
    | lst ts => exact go _ rfl (by cases q.1; exact ⟨_, rfl⟩) p
    | tup ts => exact go _ rfl (by cases q.1; exact ⟨_, rfl⟩) p
    | ins c ts => exact go _ rfl (by cases q.1; exact ⟨_, rfl⟩) p
theorem dg_name {x : Str} (i : Nat) (h : PG X (.Name x pos) (gName i)) : DG X W (.Name x pos) (gSet i) := ⟨fun pins s σ H v u Q I r q => h.run pins s σ H v u Q I r (rd_set q)⟩
theorem dg_nameM {x : Str} (i : Nat) (h : PG X (.Name x pos) (gName i)) : DG X W (.Name x pos) (gSetM i) := ⟨fun pins s σ H v u Q I r q => h.run pins s σ H v u Q I r (rd_setM q)⟩
def sAsg (F : Den) (G : DenG) : DenS := fun ρ M => bindS (F ρ M) ρ fun r M1 => match G r ρ M1 with
  | some (ρ', M2) => some (.nx ρ', M2)
  | none => none
theorem rd_asg {g : TG} {Gd : DenG} (hg : ∀ v σ H Q, rdG X W Gd v σ H Q → g v σ H Q) (h : rdS X W (sAsg Fe Gd) Dn σ H) : tAsg (rdE X W Fe) g Dn σ H := by
  obtain ⟨w, ρ, M, m, er, p⟩ := h
  refine ⟨w, ρ, M, m, er, (p.bindF er).imp fun w1 H1 M1 r _ _ z => ?_⟩
  obtain ⟨e1, m1, p1⟩ := z
  intro v fp q hf
  refine hg _ _ _ _ ⟨w1, ρ, M1, r, fp, m1, er.stay e1, q, ?_⟩
  have p2 := p1 fp hf
  cases z : Gd r ρ M1 with
  | some q => rw [z] at p2; exact p2
  | none => rw [z] at p2; exact p2
theorem ds_set {i : Nat} {x : Str} {pos' : Pos} (hN : X.N.Nodup) (hi : X.N[i]? = some x) (hx : Loc X.env.scope x) (he : DE X W e Fe) (hs : swapsWith e (some (.Name x pos')) pos.line X.env = pure false := by rfl) (hf : X.fn x = true ∨ X.env.scope.names.lookup x = some .local := by first | exact .inl rfl | exact .inr rfl | assumption) :
    DS X W (.Assign [.Name x pos'] e pos) (sAsg Fe (gSet i)) := (ps_set hN hi hx he hs hf).mono fun _ _ _ h => rd_asg (fun _ _ _ _ => rd_set) h
theorem ds_setM {i : Nat} {x : Str} {pos' : Pos} (hN : X.N.Nodup) (hi : X.N[i]? = some x) (hx : Loc X.env.scope x) (he : DE X W e Fe) (hs : swapsWith e (some (.Name x pos')) pos.line X.env = pure false := by rfl) (hf : X.fn x = true ∨ X.env.scope.names.lookup x = some .local := by first | exact .inl rfl | exact .inr rfl | assumption) :
    DS X W (.Assign [.Name x pos'] e pos) (sAsg Fe (gSetM i)) := (ps_set hN hi hx he hs hf).mono fun _ _ _ h => rd_asg (fun _ _ _ _ => rd_setM) h
theorem ds_asg {tg : Expr} {Gd : DenG} (he : DE X W e Fe) (hg : DG X W tg Gd) (hs : swapsWithSole [tg] e pos.line X.env = pure false := by rfl) (hw : swappedStores [tg] e X.env = pure none := by rfl)
    (h1 : (assignEach [tg] X.env).map (·.2) = [assign tg X.env] := by rfl) : DS X W (.Assign [tg] e pos) (sAsg Fe Gd) := (ps_asg he hg hs hw h1).mono fun _ _ _ h => rd_asg (fun _ _ _ _ q => q) h

/-! ### a, b, .. = a tuple -/
abbrev DenGs := List T → Ev → Mst → Option (Ev × Mst)
def rdGs (X : Cx) (W : WX) (G : DenGs) : TGs := fun vs σ H Q => ∃ w ρ M ts fp, MR X.K X.mg w H M ∧ ER X.K X.mg w M σ ρ ∧ TRL X.K X.mg w.F H vs ts fp ∧ fp.Nodup ∧ (∀ a ∈ fp, ∀ k, k < M.length → a ∉ w.φ k) ∧
  PostG X fp w H M (G ts ρ M) Q
def DGs (X : Cx) (W : WX) (tg : List Expr) (G : DenGs) : Prop := PGs X tg (rdGs X W G)
def gNilD : DenGs := fun ts ρ M => if ts.isEmpty then some (ρ, M) else none
def gConsD (G : DenG) (Gs : DenGs) : DenGs := fun ts ρ M => match ts with
  | t :: r => (match G (.t t) ρ M with
    | some (ρ', M') => Gs r ρ' M'
    | none => none)
  | [] => none
theorem _root_.L2.PGs.mono {es : List Expr} {t t' : TGs} (h : PGs X es t) (k : ∀ vs σ H Q, t' vs σ H Q → t vs σ H Q) : PGs X es t' := ⟨fun pins s σ H vs us Q I r q => h.run pins s σ H vs us Q I r (k _ _ _ _ q)⟩
theorem _root_.L2.PG.mono {es : Expr} {t t' : TG} (h : PG X es t) (k : ∀ vs σ H Q, t' vs σ H Q → t vs σ H Q) : PG X es t' := ⟨fun pins s σ H vs us Q I r q => h.run pins s σ H vs us Q I r (k _ _ _ _ q)⟩
theorem dgs_nil : DGs X W [] gNilD := pgs_nil.mono fun vs σ H Q h => by
  obtain ⟨w, ρ, M, ts, fp, m, er, q, nd, na, p⟩ := h
  unfold gNilD at p
  cases ts with
  | nil => cases q; exact ⟨rfl, p w H _ (Ext.refl m) m er⟩
  | cons t r => exact p.elim
/-- a target only writes the state that it is given -/
theorem dgs_cons {tg : Expr} {es : List Expr} {G : DenG} {Gs : DenGs} (h1 : DG X W tg G) (h2 : DGs X W es Gs)
    (hs : (assignEach (tg :: es) X.env).map (·.2) = assign tg X.env :: (assignEach es X.env).map (·.2) := by rfl) : DGs X W (tg :: es) (gConsD G Gs) := (pgs_cons h1 h2 hs).mono fun vs σ H Q h => by
  obtain ⟨w, ρ, M, ts, fp, m, er, q, nd, na, p⟩ := h
  cases q with
  | nil => exact p.elim
  | @cons v vs t ts f1 f2 q1 q2 =>
    obtain ⟨nd1, nd2, dj⟩ := List.nodup_append.mp nd
    have dj' : ∀ a ∈ f2, a ∉ f1 := fun a ha hb => dj a hb a ha rfl
    refine ⟨v, vs, rfl, w, ρ, M, .t t, f1, m, er, ⟨q1, nd1, fun a ha => na a (List.mem_append_left _ ha)⟩, ?_⟩
    have p : PostG X (f1 ++ f2) w H M (match G (.t t) ρ M with
      | some (ρ', M') => Gs ts ρ' M'
      | none => none) Q := p
    cases z : G (.t t) ρ M with
    | none => rw [z] at p; exact p
    | some q =>
      obtain ⟨ρ', M'⟩ := q
      rw [z] at p
      intro w' H' σ' e' m' er'
      have s2 : TRL X.K X.mg w'.F H' vs ts f2 ∧ ∀ a ∈ f2, ∀ k, k < M'.length → a ∉ w'.φ k := by
        have np : ∀ a ∈ f2, ¬ Pm f1 w H M a := fun a ha z => by
          obtain ⟨h1, o, h2⟩ := q2.fp a ha
          rcases z with z | ⟨j, hj, z⟩ | z
          · rw [h2] at z; cases z
          · exact na a (List.mem_append_right _ ha) j hj z
          · exact dj' a ha z
        refine ⟨q2.stay e'.F fun a ha => ⟨?_, fun o ho => e'.keep a o ho (np a ha)⟩, fun a ha k hk z => np a ha (e'.ph k hk a z)⟩
        cases q : w'.F a with
        | none => rfl
        | some o =>
          rcases e'.gr a (by rw [q]; exact fun z => nomatch z) with z | z
          · exact absurd (q2.fp a ha).1 z
          · exact absurd z (np a ha)
      refine ⟨w', ρ', M', ts, f2, m', er', s2.1, nd2, s2.2, ?_⟩
      have e2 : Ext (f1 ++ f2) w H M w' H' M' := e'.mono fun a ha => List.mem_append_left _ ha
      have p : PostG X (f1 ++ f2) w H M (Gs ts ρ' M') Q := p
      cases z3 : Gs ts ρ' M' with
      | none => rw [z3] at p; exact p
      | some q => rw [z3] at p; exact fun w3 H3 σ3 e3 m3 er3 => p w3 H3 σ3 (e2.trans e3 fun a ha => .inr (.inr (List.mem_append_right _ ha))) m3 er3
/-- the items of a tuple -/
def tupItems : R → Option (List T)
  | .t (.tup ts) => some ts
  | .t (.d (.tup ds)) => some (ds.map T.d)
  | _ => none
def gTupD (n : Nat) (G : DenGs) : DenG := fun r ρ M => match tupItems r with
  | some ts => if ts.length = n then G ts ρ M else none
  | none => none
theorem dg_tup {es : List Expr} {k n : Nat} {G : DenGs} (hc : X.calm = true) (h : DGs X W es G) (hn : (assignEach es X.env).length = n := by rfl) (hst : (assignEach es X.env).findIdx? (·.1) = none := by rfl) : DG X W (.Tuple es k pos) (gTupD n G) :=
  (pg_tup hc h hn hst).mono fun v σ H Q h => by
    obtain ⟨w, ρ, M, r, fp, m, er, q, p⟩ := h
    unfold gTupD at p
    split at p
    · rename_i ts hts
      split at p
      · rename_i hl
        unfold tupItems at hts
        split at hts
        · cases hts
          obtain ⟨q1, nd, na⟩ := q
          cases q1 with
          | @tup a vs _ fp h n l =>
            exact ⟨a, vs, rfl, SqT.of h, by rw [l.length]; exact hl, w, ρ, M, _, fp, m, er, l, (List.nodup_cons.mp nd).2, fun b hb => na b (List.mem_cons_of_mem _ hb), p.from (Ext.refl m) fun b hb => .inr (.inr (List.mem_cons_of_mem _ hb))⟩
        · cases hts
          obtain ⟨q1, rfl⟩ := rr_dat q
          cases q1 with
          | @tup a vs _ h l =>
            exact ⟨a, vs, rfl, Same.seqT m.sub h, by rw [l.length]; simpa using hl, w, ρ, M, _, [], m, er, l.trees, List.nodup_nil, (fun _ z => nomatch z), p⟩
        · cases hts
      · exact p.elim
    · exact p.elim
end
end DL

/-! DL6: defs and their calls, new instances, methods -/
namespace DL
open PySem L2 PySem.Spec PyProof.Rows
abbrev Fn := List SV → Mst → Out R
def retR (n : Nat) (M : Mst) : R → R
  | .h k => if k < n then .h k else .t (M.getD k (.d .non))
  | .t x => .t x
def outOf (n : Nat) (o : Option (Fl × Mst)) : Out R := match o with
  | some (.nx _, M) => .ok (.t (.d .non)) (M.take n)
  | some (.rt r, M) => .ok (retR n M r) (M.take n)
  | some (.xc e _, M) => .exc e (M.take n)
  | _ => .bad
def env0 (N : Nat) (xs : List SV) : Ev := xs.map some ++ List.replicate (N - xs.length) none
def body (N : Nat) (b : DenS) : Fn := fun xs M => outOf M.length (b (env0 N xs) M)
def PostC (K : PySem.W.Frag) (mg : Mg) (E : XK) (w : Wd) (H : Hp) (M : Mst) (o : Out R) (Q : VK) : Prop := match o with
  | .ok r M' => ∀ w' H' v fp, Ext [] w H M w' H' M' → MR K mg w' H' M' → RR K mg w' H' M' v r fp → (∀ a ∈ fp, Pm [] w H M a) → Q v H'
  | .exc e M' => ∀ w' H' cls d, Ext [] w H M w' H' M' → MR K mg w' H' M' → XR K mg w' H' cls d e → E cls d H'
  | .bad => False
def spD (K : PySem.W.Frag) (mg : Mg) (n : Nat) (G : Fn) : Sp := fun vs H Q E => ∃ w xs M, MR K mg w H M ∧ VRL K mg w M vs xs ∧ vs.length = n ∧ PostC K mg E w H M (G xs M) Q
/-- the def at f keeps the promise «it does as G tells», by at most k calls one in another -/
def FOk (P : Program) (w : World) (K : PySem.W.Frag) (mg : Mg) (base : Heap) (k : Nat) (f : Addr) (ps : List Str) (G : Fn) : Prop :=
  ∃ fd, FnOk P w K mg base (L2.CX P w) k f fd ps (spD K mg ps.length G) ∧ Binds K fd ps []

section
variable {K : PySem.W.Frag} {mg : Mg} {w w' : Wd} {H H' : Hp} {M M' : Mst} {fs fp : List Addr}
theorem MR.take (m : MR K mg w H M) (n : Nat) : MR K mg w H (M.take n) := by
  refine ⟨m.sub, fun k t e => ?_, fun j k a hj hk => m.dis j k a (by rw [List.length_take] at hj; omega) (by rw [List.length_take] at hk; omega)⟩
  rw [List.getElem?_take] at e
  split at e
  · exact m.obj k t e
  · cases e
theorem Ext.take (e : Ext fs w H M w' H' M') : Ext fs w H M w' H' (M'.take M.length) :=
  ⟨e.F, by rw [List.length_take]; exact Nat.le_min.mpr ⟨Nat.le_refl _, e.len⟩, e.al, e.keep, fun k hk => e.ph k (by rw [List.length_take] at hk; omega), e.gr, e.there⟩
theorem RR.ret {v : V} {r : R} {n : Nat} (hn : n ≤ M.length) (m : MR K mg w H M) (h : RR K mg w H M v r fp) : ∃ fp', RR K mg w H (M.take n) v (retR n M r) fp' ∧ ∀ a ∈ fp', a ∈ fp ∨ ∃ k, k < M.length ∧ a ∈ w.φ k := by
  cases r with
  | t x =>
    obtain ⟨h1, h2, h3⟩ := h
    exact ⟨fp, ⟨h1, h2, fun a ha k hk => h3 a ha k (by rw [List.length_take] at hk; omega)⟩, fun a ha => .inl ha⟩
  | h k =>
    obtain ⟨h1, h2, h3⟩ := h
    by_cases hk : k < n
    · rw [show retR n M (.h k) = .h k from if_pos hk]
      exact ⟨[], ⟨by rw [List.length_take]; omega, h2, rfl⟩, fun _ z => nomatch z⟩
    · rw [show retR n M (.h k) = .t (M.getD k (.d .non)) from if_neg hk]
      obtain ⟨x, hx⟩ : ∃ x, M[k]? = some x := ⟨M[k], List.getElem?_eq_getElem h1⟩
      obtain ⟨q1, q2⟩ := m.obj k x hx
      rw [getD_of hx]
      refine ⟨w.φ k, ⟨h2 ▸ q1, q2, fun a ha j hj z => ?_⟩, fun a ha => .inr ⟨k, h1, ha⟩⟩
      rw [List.length_take] at hj
      exact absurd (m.dis k j a h1 (by omega) ha z) (by omega)
theorem settleL {X : Cx} {rs : List R} : ∀ {vs : List V} {fp : List Addr} {w : Wd} {H : Hp} {M : Mst}, MR X.K X.mg w H M → RRL X.K X.mg w H M vs rs fp → ∃ w', Ext fp w H M w' H M ∧ MR X.K X.mg w' H M ∧ VRL X.K X.mg w' M vs (rs.map svR) := by
  induction rs with
  | nil => intro vs fp w H M m h; cases h; exact ⟨w, Ext.refl m, m, .nil⟩
  | cons r rs ih =>
    intro vs fp w H M m h
    cases h with
    | @cons v vs _ _ f1 f2 h1 h2 dj =>
      obtain ⟨w1, e1, m1, v1, _⟩ := settleV m h1
      obtain ⟨w2, e2, m2, v2⟩ := ih m1 (h2.stay e1 fun a ha hb => dj a hb ha)
      exact ⟨w2, (e1.mono fun a ha => List.mem_append_left _ ha).trans e2 fun a ha => .inr (.inr (List.mem_append_right _ ha)), m2, .cons (v1.stay e2) v2⟩
end

/-- THE RULE for a def: what its body does by data -/
theorem fn_okF {P : Program} {w : World} {K : PySem.W.Frag} {mg : Mg} {base : Heap} {x qual : Str} {st : Stmt} {f : Addr} {fd : FuncData} {N ps : List Str} {k : Nat} {b : DenS} (F : Fun K x qual st f fd) (S : FnScope N ps (defScope st))
    (h : ∀ (cdv : Value) (A : Around) (outer : List Env) (s : Shared) (H : Hp) (E : XK), Room k (A.deeper (envOfC qual (defScope st) s.heap.objs.size f cdv)) → Takes (cxOf (L2.CX P w) P w K mg base N qual (defScope st) f cdv A outer s H E) (fun cls d _ H => E cls d H) →
      PassesOwn (model P w) (A.deeper (envOfC qual (defScope st) s.heap.objs.size f cdv)) (cxOf (L2.CX P w) P w K mg base N qual (defScope st) f cdv A outer s H E).env (cxOf (L2.CX P w) P w K mg base N qual (defScope st) f cdv A outer s H E).xe →
      DB (cxOf (L2.CX P w) P w K mg base N qual (defScope st) f cdv A outer s H E) (fun cls d _ H => E cls d H) (defBody st) b) : FnOk P w K mg base (L2.CX P w) (k + 1) f fd ps (spD K mg ps.length (body N.length b)) := by
  refine F.okX S (fun vs H Q E h => ?_) (fun cdv A outer s H vs Q E hr hq => ⟨_, h cdv A outer s H E hr (takes_of rfl rfl rfl rfl) (passes_of rfl), ?_⟩)
  · obtain ⟨_, _, _, _, _, hl, _⟩ := h
    exact hl
  · obtain ⟨wd, xs, M, m, vr, hl, p⟩ := hq
    have er : ER K mg wd M (L2.start N vs) (env0 N.length xs) := by
      have hxs := vr.length
      refine ⟨by unfold L2.start env0; simp [hxs], fun i y q => ?_⟩
      unfold env0 at q
      by_cases hi : i < xs.length
      · rw [List.getElem?_append_left (by simpa using hi), List.getElem?_map] at q
        cases z : xs[i]? with
        | none => rw [z] at q; cases q
        | some y' =>
          rw [z] at q
          have e : y' = y := Option.some.inj (Option.some.inj q)
          subst e
          obtain ⟨v, h1, h2⟩ := vr.get z
          refine ⟨v, ?_, h2⟩
          unfold L2.start
          rw [List.getElem?_append_left (by simpa [hxs] using hi), List.getElem?_map, h1]
          rfl
      · rw [List.getElem?_append_right (by simpa using hi), List.getElem?_replicate] at q
        split at q <;> cases q
    refine ⟨wd, _, M, m, er, ?_⟩
    unfold body at p
    show PostS _ _ [] wd H M _ _
    cases z : b (env0 N.length xs) M with
    | none => rw [z] at p; exact p
    | some q =>
      obtain ⟨fl, M'⟩ := q
      rw [z] at p
      cases fl with
      | nx ρ => exact fun w' H' σ' e m' _ => p w' H' .non [] e.take (m'.take _) (rr_d .non) fun _ z => nomatch z
      | rt r =>
        intro w' H' v fp e m' q hf
        obtain ⟨fp', q', hf'⟩ := q.ret e.len m'
        refine p w' H' v fp' e.take (m'.take _) q' fun a ha => ?_
        rcases hf' a ha with z | ⟨k, hk, z⟩
        · exact hf a z
        · exact e.ph k hk a z
      | bk ρ => exact p.elim
      | ct ρ => exact p.elim
      | xc e ρ => exact fun w' H' σ' cls d ex m' _ xr => p w' H' cls d ex.take (m'.take _) xr
theorem FOk.of {P : Program} {w : World} {K : PySem.W.Frag} {mg : Mg} {base : Heap} {k : Nat} {f : Addr} {fd : FuncData} {ps : List Str} {G : Fn} (F : FnOk P w K mg base (L2.CX P w) k f fd ps (spD K mg ps.length G)) (hb : Binds K fd ps []) : FOk P w K mg base k f ps G := ⟨fd, F, hb⟩
theorem FOk.mono {P : Program} {w : World} {K : PySem.W.Frag} {mg : Mg} {base : Heap} {j k : Nat} {f : Addr} {ps : List Str} {G : Fn} (F : FOk P w K mg base j f ps G) (h : j ≤ k) : FOk P w K mg base k f ps G :=
  let ⟨fd, h1, h2⟩ := F; ⟨fd, h1.mono h, h2⟩
theorem FOk.imp {P : Program} {w : World} {K : PySem.W.Frag} {mg : Mg} {base : Heap} {k : Nat} {f : Addr} {ps : List Str} {G G' : Fn} (F : FOk P w K mg base k f ps G) (h : ∀ xs M, xs.length = ps.length → G' xs M = .bad ∨ G' xs M = G xs M) : FOk P w K mg base k f ps G' := by
  obtain ⟨fd, h1, h2⟩ := F
  refine ⟨fd, h1.imp fun vs H Q E ⟨w, xs, M, m, vr, hl, p⟩ => ⟨w, xs, M, m, vr, hl, ?_⟩, h2⟩
  rcases h xs M (by rw [← vr.length]; exact hl) with z | z
  · rw [z] at p; exact p.elim
  · rw [z] at p; exact p

section
variable {X : Cx} {W : WX} {σ : L2.St} {fs gs : List Addr} {w w2 : Wd} {H H2 : Hp} {M M2 : Mst}
variable {e o : Expr} {es : List Expr} {Fe Fa : Den} {A : DenA} {pos p apos : Pos} {x m : Str} {k : Nat} {f C : Addr} {ps : List Str} {G : Fn}
def eCall (G : Fn) (A : DenA) : Den := fun ρ M => (A ρ M).bind fun rs M1 => G (rs.map svR) M1
theorem PostC.of {w0 : Wd} {H0 : Hp} {M0 : Mst} {Q : VK} {o : Out R} {fp : List Addr} (p : Post X W σ fp w H M o (CE X [] w0 H0 M0 Q)) (e0 : Ext [] w0 H0 M0 w H M) (hf : ∀ a ∈ fp, Pm [] w0 H0 M0 a) (e : Ext fp w H M w2 H2 M2) : PostC X.K X.mg (WE W σ) w2 H2 M2 o Q := by
  cases o with
  | bad => exact p
  | exc x M' => exact fun w' H' c d e' m' xr => p w' H' c d (e.trans0 e') m' xr
  | ok r M' => exact fun w' H' v fp' e' m' q hq => p w' H' (e.trans0 e') m' v fp' q fun a ha => e0.pm hf (e.pm (gs := []) (fun _ z => nomatch z) (hq a ha))
theorem FOk.run (F : FOk X.prog X.w X.K X.mg X.base k f ps G) (hr : Room k X.A) (tk : Takes X W) {pins : List (Addr × Obj)} {s : Shared} {Q : VK} {us : List Value} {vs : List V} (I : Inv X pins σ H s) (r : Vals vs us)
    (h : spD X.K X.mg ps.length G vs H Q (WE W σ)) : wpAny (model X.prog X.w) X.A (call (.ref f) us) (EP X pins σ Q) X.xe s := by
  obtain ⟨fd, F, hb⟩ := F
  exact run_fnS (E := fun σ => WE W σ) F hr hb (passAt tk σ) I r h
def eArity (n : Nat) (A : DenA) : DenA := fun ρ M => (A ρ M).bind fun rs M1 => if rs.length = n then .ok rs M1 else .bad
theorem rd_call' {n : Nat} {Q : VK} (h : rdE X W (eCall G (eArity n A)) σ H Q) : rdA X W A σ H fun vs H1 => spD X.K X.mg n G vs H1 Q (WE W σ) := by
  obtain ⟨w, ρ, M, m, er, p⟩ := h
  have p : Post X W σ [] w H M ((eArity n A ρ M).bind fun rs M1 => G (rs.map svR) M1) (CE X [] w H M Q) := p
  refine ⟨w, ρ, M, m, er, ?_⟩
  have p : Post X W σ [] w H M ((A ρ M).bind fun rs M1 => if rs.length = n then G (rs.map svR) M1 else .bad) (CE X [] w H M Q) := by
    unfold eArity at p
    cases z : A ρ M with
    | bad => rw [z] at p; exact p
    | exc x M' => rw [z] at p; exact p
    | ok rs M' =>
      rw [z] at p
      show Post X W σ [] w H M (if rs.length = n then _ else _) _
      have p : Post X W σ [] w H M ((if rs.length = n then Out.ok rs M' else .bad).bind fun rs M1 => G (rs.map svR) M1) (CE X [] w H M Q) := p
      split at p
      · rename_i hl; rw [if_pos hl]; exact p
      · rename_i hl; rw [if_neg hl]; exact p
  refine p.bindF.imp fun w1 H1 M1 rs _ _ z => ?_
  obtain ⟨e1, m1, p1⟩ := z
  intro vs fp q hf
  replace p1 := p1 fp hf
  split at p1
  · rename_i hl
    obtain ⟨w2, e2, m2, v2⟩ := settleL m1 q
    exact ⟨w2, _, M1, m2, v2, by rw [q.length]; exact hl, PostC.of p1 e1 hf e2⟩
  · exact p1.elim
/-- f(e, ..) -/
theorem de_call (F : FOk X.prog X.w X.K X.mg X.base k f ps G) (hr : Room k X.A) (tk : Takes X W) (hg : Gl X x) (hm : X.mg x = some (.ref f)) (hk : PySem.W.keepIn X.K (.ref f) = true) (ha : DA X W (e :: es) A)
    (hdb : (x == ("__debug__" : Str)) = false := by decide) (he : starEach (e :: es) X.env = (false, eval e X.env) :: starEach es X.env := by rfl) (hpl : (backTo pos (starEach es X.env)).any (·.1) = false := by rfl) :
    DE X W (.Call (.Name x p) (e :: es) [] pos) (eCall G (eArity ps.length A)) := by
  obtain ⟨fd, F, hb⟩ := F
  exact (pe_callS (E := fun σ => WE W σ) F hr hg hm hk hb (fun σ => passAt tk σ) ha hdb he hpl).mono fun _ _ _ h => rd_call' h
theorem de_call0 (F : FOk X.prog X.w X.K X.mg X.base k f ps G) (hr : Room k X.A) (tk : Takes X W) (hg : Gl X x) (hm : X.mg x = some (.ref f)) (hk : PySem.W.keepIn X.K (.ref f) = true)
    (hdb : (x == ("__debug__" : Str)) = false := by decide) : DE X W (.Call (.Name x p) [] [] pos) (eCall G (eArity ps.length eNil)) := by
  refine ⟨fun pins s σ H Q I h => ?_⟩
  refine wpAny_Call_Name_kw (ld_glob I hg hm ?_ hdb)
  have h := rd_call' h
  obtain ⟨w, ρ, M, m, er, p⟩ := h
  exact PySem.W.callWith_K0 I.kIn hk (F.run hr tk I (us := []) .nil (p.now m [] [] .nil fun _ z => nomatch z))
end
end DL

/-! DL7: what is walked; for, while, comprehensions -/
namespace DL
open PySem L2
/-- a loop's target: a name, or names in a tuple -/
inductive Tg where
  | one (i : Nat) | many (is : List Nat)
def gNames : List Nat → TGs
  | [] => gNil
  | i :: r => gCons (gName i) (gNames r)
def tgR (K : PySem.W.Frag) : Tg → TG
  | .one i => gName i
  | .many is => gTup K is.length (gNames is)
def DTg (X : Cx) (tg : Expr) (g : Tg) : Prop := PG X tg (tgR X.K g)
def setAll : List Nat → List D → Ev → Ev
  | i :: is, d :: ds, ρ => setAll is ds (ρ.set i (some (.d d)))
  | _, _, ρ => ρ
def setT : Tg → D → Ev → Option Ev
  | .one i, d, ρ => some (ρ.set i (some (.d d)))
  | .many is, .tup ds, ρ => if ds.length = is.length then some (setAll is ds ρ) else none
  | .many _, _, _ => none
def setAllV : List Nat → List V → L2.St → L2.St
  | i :: is, d :: ds, ρ => setAllV is ds (ρ.set i (some d))
  | _, _, ρ => ρ
def Tg.slots : Tg → List Nat
  | .one i => [i]
  | .many is => is
section
variable {X : Cx} {W : WX} {σ : L2.St} {fs gs : List Addr} {w w2 : Wd} {H H2 : Hp} {M M2 : Mst}
theorem gNames_run {Q : L2.St → Hp → Prop} : ∀ (is : List Nat) (vs : List V) (σ : L2.St), vs.length = is.length → Q (setAllV is vs σ) H → gNames is vs σ H Q
  | [], [], σ, _, q => ⟨rfl, q⟩
  | i :: is, v :: vs, σ, h, q => ⟨v, vs, rfl, gNames_run is vs _ (by simpa using h) q⟩
  | [], v :: vs, σ, h, _ => by simp at h
  | i :: is, [], σ, h, _ => by simp at h
theorem er_all : ∀ (is : List Nat) {vs : List V} {ds : List D} {σ : L2.St} {ρ : Ev}, DpL X.K X.mg w.F vs ds → ER X.K X.mg w M σ ρ → ER X.K X.mg w M (setAllV is vs σ) (setAll is ds ρ)
  | [], _, _, _, _, _, er => by unfold setAllV setAll; exact er
  | i :: is, _, _, _, _, .nil, er => by unfold setAllV setAll; exact er
  | i :: is, _, _, _, _, .cons h r, er => er_all is r (er.set (x := .d _) h)
theorem wipe_set {i : Nat} {v : Option V} {σ : L2.St} : ∀ {vs : List Nat}, i ∈ vs → L2.wipe (σ.set i v) vs = L2.wipe σ vs
  | j :: vs, h => by
    unfold L2.wipe
    by_cases e : i = j
    · subst e
      by_cases hm : i ∈ vs
      · rw [wipe_set hm]
      · have : ∀ (vs : List Nat) (σ : L2.St), L2.wipe (σ.set i v) vs = (L2.wipe σ vs).set i v ∨ L2.wipe (σ.set i v) vs = L2.wipe σ vs := by
          intro vs
          induction vs with
          | nil => intro σ; exact .inl rfl
          | cons k ks ih =>
            intro σ
            unfold L2.wipe
            rcases ih σ with z | z
            · rw [z]
              by_cases e : i = k
              · subst e; right; rw [List.set_set]
              · left; rw [List.set_comm _ _ e]
            · right; rw [z]
        rcases this vs σ with z | z
        · rw [z, List.set_set]
        · rw [z]
    · have hm : i ∈ vs := by
        rcases List.mem_cons.mp h with z | z
        · exact absurd z e
        · exact z
      rw [wipe_set hm]
theorem wipe_all : ∀ (is : List Nat) (ws : List V) {σ : L2.St} {vs : List Nat}, (∀ i ∈ is, i ∈ vs) → L2.wipe (setAllV is ws σ) vs = L2.wipe σ vs
  | [], _, _, _, _ => by unfold setAllV; rfl
  | _ :: _, [], _, _, _ => by unfold setAllV; rfl
  | i :: is, v :: ws, σ, vs, h => by
    unfold setAllV
    rw [wipe_all is ws fun j hj => h j (List.mem_cons_of_mem _ hj)]
    exact wipe_set (h i List.mem_cons_self)
/-- a target takes its item -/
theorem tg_run {g : Tg} {d : D} {ρ ρ' : Ev} {v : V} {Q : L2.St → Hp → Prop} (m : MR X.K X.mg w H M) (er : ER X.K X.mg w M σ ρ) (hv : Dp X.K X.mg w.F v d) (h : setT g d ρ = some ρ')
    (k : ∀ σ', ER X.K X.mg w M σ' ρ' → (∀ vs : List Nat, (∀ i ∈ g.slots, i ∈ vs) → L2.wipe σ' vs = L2.wipe σ vs) → Q σ' H) : tgR X.K g v σ H Q := by
  cases g with
  | one i =>
    cases h
    exact k _ (er.set (x := .d _) hv) fun vs hi => wipe_set (hi i (by simp [Tg.slots]))
  | many is =>
    unfold setT at h
    split at h
    · rename_i e; cases e
    · rename_i is' ds e
      cases e
      split at h
      · rename_i hl
        cases h
        cases hv with
        | @tup a vs _ h l => exact ⟨a, vs, rfl, Same.seqT m.sub h, by rw [l.length]; exact hl, gNames_run is vs σ (by rw [l.length]; exact hl) (k _ (er_all is l er) fun us hi => wipe_all is vs hi)⟩
      · cases h
    · cases h
end

/-- an iterator that hands out the items -/
structure ItOk (K : PySem.W.Frag) (mg : Mg) (F : Hp) (J : It) (items : List D) : Prop where
  go : ∀ (i : Nat) (w : Wd) (H : Hp) (M : Mst) (d : D), MR K mg w H M → Same F w.F → items[i]? = some d → J.go i H ∧ ∀ x H', J.yld i H x H' → ∃ w', Ext [] w H M w' H' M ∧ MR K mg w' H' M ∧ Dp K mg w'.F x d
  stop : ∀ (i : Nat) (w : Wd) (H : Hp) (M : Mst), MR K mg w H M → Same F w.F → items.length ≤ i → J.stop i H
abbrev DenI := Ev → Mst → Out (List D)
def rdI (X : Cx) (W : WX) (G : DenI) : TI := fun σ H R => ∃ w ρ M, MR X.K X.mg w H M ∧ ER X.K X.mg w M σ ρ ∧ Post X W σ [] w H M (G ρ M) (fun w' H' M' items => ∀ J, ItOk X.K X.mg w'.F J items → R J H')
def DI (X : Cx) (W : WX) (tg iter : Expr) (G : DenI) : Prop := PI X tg iter (rdI X W G)
theorem _root_.L2.PI.mono {X : Cx} {tg e : Expr} {t t' : TI} (h : PI X tg e t) (k : ∀ σ H Q, t' σ H Q → t σ H Q) : PI X tg e t' := ⟨fun pins s σ H Q I q => h.run pins s σ H Q I (k _ _ _ q)⟩
theorem _root_.L2.PI.or {X : Cx} {tg e : Expr} {t t' : TI} (h : PI X tg e t) (h' : PI X tg e t') : PI X tg e (fun σ H Q => t σ H Q ∨ t' σ H Q) := ⟨fun pins s σ H Q I q => q.elim (h.run pins s σ H Q I) (h'.run pins s σ H Q I)⟩

/-! ### for -/
def forS (g : Tg) (b : DenS) : List D → Ev → Mst → Option (Fl × Mst)
  | [], ρ, M => some (.nx ρ, M)
  | d :: ds, ρ, M => match setT g d ρ with
    | none => none
    | some ρ1 => match b ρ1 M with
      | some (.nx ρ2, M2) => forS g b ds ρ2 M2
      | some (.ct ρ2, M2) => forS g b ds ρ2 M2
      | some (.bk ρ2, M2) => some (.nx ρ2, M2)
      | o => o
def sFor (G : DenI) (g : Tg) (b : DenS) : DenS := fun ρ M => bindS (G ρ M) ρ fun items M1 => forS g b items ρ M1
section
variable {X : Cx} {W : WX} {σ : L2.St} {fs gs : List Addr} {w w2 : Wd} {H H2 : Hp} {M M2 : Mst} {Dn : Ends}
variable {tg iter e : Expr} {G : DenI} {g : Tg} {b : DenS} {pos : Pos} {bd : List Stmt}
theorem ds_for (hp : PassesOwn (model X.prog X.w) X.A X.env X.xe) (hc : X.calm = true) (hi : DI X W tg iter G) (hg : DTg X tg g) (hb : DB X W bd b) (hs : ∀ x, foldedSetIterable iter X.env x = pure x := by intro _; rfl) :
    DS X W (.For tg iter bd [] pos) (sFor G g b) := (ps_for hp hc hi hg hb hs).mono fun Dn σ H h => by
  obtain ⟨w, ρ, M, m, er, p⟩ := h
  refine ⟨w, ρ, M, m, er, (p.bindF er).imp fun w1 H1 M1 items _ _ z => ?_⟩
  obtain ⟨e1, m1, p1⟩ := z
  intro J ok
  replace p1 := p1 [] fun _ z => nomatch z
  refine ⟨fun i mm σ H => i ≤ items.length ∧ mm = items.length - i ∧ ∃ w ρ M, MR X.K X.mg w H M ∧ ER X.K X.mg w M σ ρ ∧ Same w1.F w.F ∧ PostS X W [] w H M (forS g b (items.drop i) ρ M) Dn,
    ⟨_, Nat.zero_le _, rfl, w1, ρ, M1, m1, er.stay e1, Same.refl _, p1⟩, ?_⟩
  rintro i mm σ H ⟨hi, rfl, w, ρ, M, m, er, sF, p⟩
  by_cases hl : i < items.length
  · obtain ⟨d, hd⟩ : ∃ d, items[i]? = some d := ⟨items[i], List.getElem?_eq_getElem hl⟩
    obtain ⟨g1, g2⟩ := ok.go i w H M d m sF hd
    have ed : items.drop i = d :: items.drop (i + 1) := by
      rw [List.drop_eq_getElem_cons hl]
      rw [List.getElem?_eq_getElem hl] at hd
      rw [Option.some.inj hd]
    rw [ed] at p
    refine .inr ⟨g1, _, fun σ' H' q => q, fun x H' y => ?_⟩
    · obtain ⟨w', e', m', hx⟩ := g2 x H' y
      unfold forS at p
      cases z : setT g d ρ with
      | none => rw [z] at p; exact p.elim
      | some ρ1 =>
        rw [z] at p
        refine tg_run m' (er.stay e') hx z fun σ2 er2 _ => ⟨w', ρ1, M, m', er2, ?_⟩
        have p : PostS X W [] w' H' M (match b ρ1 M with
          | some (.nx ρ2, M2) => forS g b (items.drop (i + 1)) ρ2 M2
          | some (.ct ρ2, M2) => forS g b (items.drop (i + 1)) ρ2 M2
          | some (.bk ρ2, M2) => some (.nx ρ2, M2)
          | o => o) Dn := PostS.from p e' fun _ z => nomatch z
        cases z2 : b ρ1 M with
        | none => rw [z2] at p; exact p
        | some q =>
          obtain ⟨f, M2⟩ := q
          rw [z2] at p
          cases f with
          | nx ρ2 => exact fun w3 H3 σ3 e3 m3 er3 => ⟨_, by omega, hl, rfl, w3, ρ2, M2, m3, er3, (sF.trans e'.F).trans e3.F, PostS.from p e3 fun _ z => nomatch z⟩
          | ct ρ2 => exact fun w3 H3 σ3 e3 m3 er3 => ⟨_, by omega, hl, rfl, w3, ρ2, M2, m3, er3, (sF.trans e'.F).trans e3.F, PostS.from p e3 fun _ z => nomatch z⟩
          | bk ρ2 => exact fun w3 H3 σ3 e3 m3 er3 => p w3 H3 σ3 e3 m3 er3
          | rt r => exact p
          | xc x ρ2 => exact p
  · have e : i = items.length := by omega
    subst e
    rw [List.drop_length] at p
    exact .inl ⟨ok.stop _ w H M m sF (Nat.le_refl _), p.nx m er⟩

/-! ### while -/
def whileS (c : DenT) (b : DenS) : Nat → Ev → Mst → Option (Fl × Mst)
  | 0, _, _ => none
  | n + 1, ρ, M => bindS (c ρ M) ρ fun k M1 => if k = true then (match b ρ M1 with
      | some (.nx ρ2, M2) => whileS c b n ρ2 M2
      | some (.ct ρ2, M2) => whileS c b n ρ2 M2
      | some (.bk ρ2, M2) => some (.nx ρ2, M2)
      | o => o) else some (.nx ρ, M1)
def sWhile (n : Nat) (c : DenT) (b : DenS) : DenS := fun ρ M => whileS c b n ρ M
theorem ds_while (n : Nat) {ce : Expr} {c : DenT} (hp : PassesOwn (model X.prog X.w) X.A X.env X.xe) (hc : DT X W ce c) (hb : DB X W bd b) : DS X W (.While ce bd [] pos) (sWhile n c b) := (ps_while hp hc hb).mono fun Dn σ H h => by
  obtain ⟨w, ρ, M, m, er, p⟩ := h
  refine ⟨fun n σ H => ∃ w ρ M, MR X.K X.mg w H M ∧ ER X.K X.mg w M σ ρ ∧ PostS X W [] w H M (whileS c b n ρ M) Dn, ⟨n, w, ρ, M, m, er, p⟩, ?_⟩
  rintro n σ H ⟨w, ρ, M, m, er, p⟩
  cases n with
  | zero => exact p.elim
  | succ n =>
    refine ⟨w, ρ, M, m, er, (PostS.bindF p er).imp fun w1 H1 M1 k _ _ z => ?_⟩
    obtain ⟨e1, m1, p1⟩ := z
    replace p1 := p1 [] fun _ z => nomatch z
    cases k with
    | false => rw [if_neg Bool.false_ne_true] at p1 ⊢; exact p1.nx m1 (er.stay e1)
    | true =>
      rw [if_pos rfl] at p1 ⊢
      refine ⟨_, fun σ' H' q => q, ?_⟩
      · refine ⟨w1, ρ, M1, m1, er.stay e1, ?_⟩
        cases z2 : b ρ M1 with
        | none => rw [z2] at p1; exact p1
        | some q =>
          obtain ⟨f, M2⟩ := q
          rw [z2] at p1
          cases f with
          | nx ρ2 => exact fun w3 H3 σ3 e3 m3 er3 => ⟨n, Nat.lt_succ_self _, w3, ρ2, M2, m3, er3, PostS.from p1 e3 fun _ z => nomatch z⟩
          | ct ρ2 => exact fun w3 H3 σ3 e3 m3 er3 => ⟨n, Nat.lt_succ_self _, w3, ρ2, M2, m3, er3, PostS.from p1 e3 fun _ z => nomatch z⟩
          | bk ρ2 => exact fun w3 H3 σ3 e3 m3 er3 => p1 w3 H3 σ3 e3 m3 er3
          | rt r => exact p1
          | xc x ρ2 => exact p1
end
end DL

/-! DL8: comprehensions -/
namespace DL
open PySem L2
def noX {α : Type} : Out α → Out α
  | .ok a M => .ok a M
  | _ => .bad
def treeT (M : Mst) : R → T
  | .t x => x
  | .h k => .d (frz (M.getD k (.d .non)))
def lcL (g : Tg) (own : List Nat) (c : DenT) (f : Den) (ρ : Ev) : List D → List T → Mst → Out (List T)
  | [], acc, M => .ok acc M
  | d :: ds, acc, M => match setT g d (wipeE ρ own) with
    | none => .bad
    | some ρ1 => (noX (c ρ1 M)).bind fun k M2 => if k = true then (noX (f ρ1 M2)).bind fun r M3 => if acc.length < 1000000 then lcL g own c f ρ ds (acc ++ [treeT M3 r]) (frzM M3 r) else .bad
      else lcL g own c f ρ ds acc M2
def lcL2 (g : Tg) (own : List Nat) (c : DenT) (G1 : DenI) (g1 : Tg) (own1 : List Nat) (c1 : DenT) (f : Den) (ρ : Ev) : List D → List T → Mst → Out (List T)
  | [], acc, M => .ok acc M
  | d :: ds, acc, M => match setT g d (wipeE ρ own) with
    | none => .bad
    | some ρ1 => (noX (c ρ1 M)).bind fun k M2 => if k = true then (noX (G1 ρ1 M2)).bind fun items M3 => (lcL g1 own1 c1 f ρ1 items acc M3).bind fun acc' M4 => lcL2 g own c G1 g1 own1 c1 f ρ ds acc' M4
      else lcL2 g own c G1 g1 own1 c1 f ρ ds acc M2
def eLc (G : DenI) (g : Tg) (own : List Nat) (c : DenT) (f : Den) : Den := fun ρ M => (G ρ M).bind fun items M1 => (lcL g own c f ρ items [] M1).bind fun ts M2 => .ok (.t (.lst ts)) M2
def eLc2 (G : DenI) (g : Tg) (own : List Nat) (c : DenT) (G1 : DenI) (g1 : Tg) (own1 : List Nat) (c1 : DenT) (f : Den) : Den := fun ρ M => (G ρ M).bind fun items M1 => (lcL2 g own c G1 g1 own1 c1 f ρ items [] M1).bind fun ts M2 => .ok (.t (.lst ts)) M2
abbrev W0 : WX := fun _ _ _ _ => False
def tYesD : DenT := fun _ M => .ok true M
theorem Out.bind_assoc {α β γ : Type} (o : Out α) (k : α → Mst → Out β) (l : β → Mst → Out γ) : (o.bind k).bind l = o.bind fun a M => (k a M).bind l := by cases o <;> rfl
section
variable {X : Cx} {W : WX} {σ : L2.St} {fs gs : List Addr} {w w2 : Wd} {H H2 : Hp} {M M2 : Mst} {α β : Type}
/-- the list so far, at L, and what is left to do -/
def LcS (X : Cx) (W : WX) (w0 : Wd) (H0 : Hp) (M0 : Mst) (σ : L2.St) (ρ : Ev) (F1 : Hp) (L : Addr) (C : Wd → Hp → Mst → R → Prop) (kont : Mst → Out R) (acc : List T) (H : Hp) : Prop :=
  ∃ w M vs fp, MR X.K X.mg w H M ∧ ER X.K X.mg w M σ ρ ∧ Same F1 w.F ∧ H L = some (.lst vs) ∧ w.F L = none ∧ (∀ k, k < M.length → L ∉ w.φ k) ∧ TRL X.K X.mg w.F H vs acc fp ∧ (L :: fp).Nodup ∧ (∀ a ∈ fp, ∀ k, k < M.length → a ∉ w.φ k) ∧ Ext [] w0 H0 M0 w H M ∧ (∀ a ∈ L :: fp, Pm [] w0 H0 M0 a) ∧ Post X W σ (L :: fp) w H M (kont M) C
theorem MR.put {a : Addr} {o : HO} (m : MR X.K X.mg w H M) (hF : w.F a = none) (hn : ∀ k, k < M.length → a ∉ w.φ k) : MR X.K X.mg w (upd H a o) M := by
  refine ⟨fun q u e => ?_, fun k t e => ?_, m.dis⟩
  · have hq : q ≠ a := fun z => by rw [z, hF] at e; cases e
    rw [upd_ne hq]; exact m.sub q u e
  · obtain ⟨h1, h2⟩ := m.obj k t e
    have hk : k < M.length := (List.getElem?_eq_some_iff.mp e).1
    exact ⟨h1.stay (Same.refl _) fun q hq => ⟨(h1.fp q hq).1, fun u hu => by
      have ne : q ≠ a := fun z => hn k hk (by rw [← z]; exact hq)
      rw [upd_ne ne]; exact hu⟩, h2⟩
theorem Ext.put {a : Addr} {o : HO} (h : a ∈ fs) : Ext fs w H M w (upd H a o) M where
  F := Same.refl _
  len := Nat.le_refl _
  al := fun _ _ => rfl
  keep := fun q u e n => by
    have ne : q ≠ a := fun z => n (.inr (.inr (by rw [z]; exact h)))
    rw [upd_ne ne]; exact e
  ph := fun k hk q hq => .inr (.inl ⟨k, hk, hq⟩)
  gr := fun _ h => .inl h
  there := fun q e => by
    by_cases z : q = a
    · rw [z, upd_same] at e; cases e
    · rw [upd_ne z] at e; exact e
/-- a held list stays -/
theorem held {L : Addr} {vs : List V} {acc : List T} {fp : List Addr} {w' : Wd} {H' : Hp} {M' : Mst} (e : Ext [] w H M w' H' M') (hL : H L = some (.lst vs)) (hF : w.F L = none) (hn : ∀ k, k < M.length → L ∉ w.φ k) (q : TRL X.K X.mg w.F H vs acc fp) (dj : ∀ a ∈ fp, ∀ k, k < M.length → a ∉ w.φ k) :
    H' L = some (.lst vs) ∧ w'.F L = none ∧ (∀ k, k < M'.length → L ∉ w'.φ k) ∧ TRL X.K X.mg w'.F H' vs acc fp ∧ ∀ a ∈ fp, ∀ k, k < M'.length → a ∉ w'.φ k := by
  have np : ∀ a o, H a = some o → w.F a = none → (∀ k, k < M.length → a ∉ w.φ k) → ¬ Pm [] w H M a := fun a o h1 _ h2 z => by
    rcases z with z | ⟨j, hj, z⟩ | z
    · rw [h1] at z; cases z
    · exact h2 j hj z
    · cases z
  have nf : ∀ a o, H a = some o → w.F a = none → (∀ k, k < M.length → a ∉ w.φ k) → w'.F a = none := fun a o h1 h0 h2 => by
    cases z : w'.F a with
    | none => rfl
    | some u =>
      rcases e.gr a (by rw [z]; exact fun z => nomatch z) with z | z
      · exact absurd h0 z
      · exact absurd z (np a o h1 h0 h2)
  refine ⟨e.keep L _ hL (np L _ hL hF hn), nf L _ hL hF hn, fun k hk z => np L _ hL hF hn (e.ph k hk L z), q.stay e.F fun a ha => ?_, fun a ha k hk z => ?_⟩
  · obtain ⟨h1, o, h2⟩ := q.fp a ha
    exact ⟨nf a o h2 h1 (dj a ha), fun u hu => e.keep a u hu (np a u hu h1 (dj a ha))⟩
  · obtain ⟨h1, o, h2⟩ := q.fp a ha
    exact np a o h2 h1 (dj a ha) (e.ph k hk a z)
theorem Post.unX {o : Out α} {C : Wd → Hp → Mst → α → Prop} {σ' : L2.St} {W' : WX} (h : Post X W σ fs w H M (noX o) C) : Post X W' σ' fs w H M o C := by
  cases o with
  | ok a M' => exact h
  | exc x M' => exact h.elim
  | bad => exact h
theorem Post.sig {o : Out α} {C : Wd → Hp → Mst → α → Prop} {σ' : L2.St} {W' : WX} (h : Post X W σ fs w H M (noX o) C) : Post X W' σ' fs w H M (noX o) C := by
  cases o with
  | ok a M' => exact h
  | exc x M' => exact h.elim
  | bad => exact h
theorem trl_app : ∀ {vs ws : List V} {ts us : List T} {f1 f2 : List Addr} {F : Hp}, TRL X.K X.mg F H vs ts f1 → TRL X.K X.mg F H ws us f2 → TRL X.K X.mg F H (vs ++ ws) (ts ++ us) (f1 ++ f2)
  | _, _, _, _, _, _, _, .nil, s => s
  | _, _, _, _, _, _, _, .cons h r, s => by rw [List.append_assoc]; exact .cons h (trl_app r s)
theorem treeT_ok {v : V} {r : R} {fp : List Addr} (m : MR X.K X.mg w H M) (h : RR X.K X.mg w H M v r fp) : ∃ w', Ext [] w H M w' H (frzM M r) ∧ MR X.K X.mg w' H (frzM M r) ∧ TR X.K X.mg w'.F H v (treeT M r) fp ∧ fp.Nodup ∧ ∀ a ∈ fp, ∀ k, k < (frzM M r).length → a ∉ w'.φ k := by
  cases r with
  | t x => exact ⟨w, Ext.refl m, m, h.1, h.2.1, h.2.2⟩
  | h k =>
    obtain ⟨w', e, m', d, _⟩ := settle m h
    obtain ⟨_, _, rfl⟩ := h
    exact ⟨w', e, m', .d d, List.nodup_nil, fun _ z => nomatch z⟩
theorem wipe_get (σ : L2.St) : ∀ (vs : List Nat) (i : Nat), (L2.wipe σ vs)[i]? = if i ∈ vs then (σ[i]?).map (fun _ => none) else σ[i]?
  | [], i => by simp [L2.wipe]
  | v :: vs, i => by
    unfold L2.wipe
    rw [List.getElem?_set, wipe_get σ vs i]
    have hl : (L2.wipe σ vs).length = σ.length := L2.wipe_length σ vs
    by_cases e : v = i
    · subst e
      rw [if_pos rfl, if_pos List.mem_cons_self, hl]
      by_cases h : v < σ.length
      · rw [if_pos h, List.getElem?_eq_getElem h]; rfl
      · rw [if_neg h, List.getElem?_eq_none (by omega)]; rfl
    · rw [if_neg e]
      by_cases h : i ∈ vs
      · rw [if_pos h, if_pos (List.mem_cons_of_mem _ h)]
      · rw [if_neg h, if_neg (fun z => (List.mem_cons.mp z).elim (fun q => e q.symm) h)]
theorem wipe_wipe (σ : L2.St) (vs : List Nat) : L2.wipe (L2.wipe σ vs) vs = L2.wipe σ vs := by
  apply List.ext_getElem?
  intro i
  rw [wipe_get, wipe_get]
  split
  · cases σ[i]? <;> rfl
  · rfl
/-- THE LOOP of a comprehension over an iterator -/
theorem lc_loop {J : It} {items : List D} {F1 : Hp} {L : Addr} {C : Wd → Hp → Mst → R → Prop} {g : Tg} {own : List Nat} {c : DenT} {f : Den} {ρ : Ev} {acc : List T} {w0 : Wd} {H0 Hs : Hp} {M0 : Mst} {kont : List T → Mst → Out R} (hsl : ∀ i ∈ g.slots, i ∈ own) (ok : ItOk X.K X.mg F1 J items)
    (st : LcS X W w0 H0 M0 σ ρ F1 L C (fun M => (lcL g own c f ρ items acc M).bind kont) acc Hs) {Fin : Hp → Prop} (hF : ∀ acc' H, LcS X W w0 H0 M0 σ ρ F1 L C (kont acc') acc' H → Fin H) :
    ∃ Wf : Nat → Nat → Hp → Prop, (∃ m, Wf 0 m Hs) ∧ ∀ i m H, Wf i m H → (J.stop i H ∧ Fin H) ∨ (J.go i H ∧ ∃ Nx : Hp → Prop, (∀ H', Nx H' → ∃ m', m' < m ∧ Wf (i + 1) m' H') ∧
      ∀ x H', J.yld i H x H' → tgR X.K g x (L2.wipe σ own) H' fun σ2 H2 => L2.wipe σ2 own = L2.wipe σ own ∧ rdT X W0 c σ2 H2 fun b H3 => if b = true then rdE X W0 f σ2 H3 fun y H4 => ∃ a, H4 L = some (.lst a) ∧ a.length < sizeLine ∧ Nx (upd H4 L (.lst (a ++ [y]))) else Nx H3) := by
  refine ⟨fun i m H => i ≤ items.length ∧ m = items.length - i ∧ ∃ acc, LcS X W w0 H0 M0 σ ρ F1 L C (fun M => (lcL g own c f ρ (items.drop i) acc M).bind kont) acc H, ⟨_, Nat.zero_le _, rfl, acc, st⟩, ?_⟩
  rintro i mm H ⟨hi, rfl, acc, w, M, vs, fp, m, er, sF, hL, hFL, hnL, q, nd, dj, e0, hp0, p⟩
  by_cases hl : i < items.length
  · obtain ⟨d, hd⟩ : ∃ d, items[i]? = some d := ⟨items[i], List.getElem?_eq_getElem hl⟩
    obtain ⟨g1, g2⟩ := ok.go i w H M d m sF hd
    have ed : items.drop i = d :: items.drop (i + 1) := by
      rw [List.drop_eq_getElem_cons hl]
      rw [List.getElem?_eq_getElem hl] at hd
      rw [Option.some.inj hd]
    rw [ed] at p
    refine .inr ⟨g1, _, fun H' q => q, fun x H' y => ?_⟩
    obtain ⟨w', e', m', hx⟩ := g2 x H' y
    obtain ⟨hL', hFL', hnL', q', dj'⟩ := held e' hL hFL hnL q dj
    unfold lcL at p
    cases z : setT g d (wipeE ρ own) with
    | none => rw [z] at p; exact p.elim
    | some ρ1 =>
      rw [z] at p
      refine tg_run m' ((er.stay e').wipe own) hx z fun σ2 er2 hw => ⟨(hw own hsl).trans (wipe_wipe σ own), w', ρ1, M, m', er2, ?_⟩
      have p : Post X W σ (L :: fp) w' H' M (((noX (c ρ1 M)).bind fun k M2 => if k = true then (noX (f ρ1 M2)).bind fun r M3 => if acc.length < 1000000 then lcL g own c f ρ (items.drop (i + 1)) (acc ++ [treeT M3 r]) (frzM M3 r) else .bad
        else lcL g own c f ρ (items.drop (i + 1)) acc M2).bind kont) C := Post.from p (e'.mono fun _ z => nomatch z) fun a ha => .inr (.inr ha)
      rw [Out.bind_assoc] at p
      refine Post.unX (p.bindF.imp fun w2 H2 M2 k _ _ z => ?_)
      obtain ⟨e2, m2, p2⟩ := z
      obtain ⟨hL2, hFL2, hnL2, q2, dj2⟩ := held e2 hL' hFL' hnL' q' dj'
      cases k with
      | false =>
        rw [if_neg Bool.false_ne_true]
        refine ⟨_, by omega, hl, rfl, acc, w2, M2, vs, fp, m2, (er.stay e').stay e2, (sF.trans e'.F).trans e2.F, hL2, hFL2, hnL2, q2, nd, dj2, (e0.trans0 e').trans0 e2, hp0, ?_⟩
        have := p2 (L :: fp) fun a ha => .inr (.inr ha)
        rw [if_neg Bool.false_ne_true] at this
        exact this
      | true =>
        rw [if_pos rfl]
        have p3 := p2 (L :: fp) fun a ha => .inr (.inr ha)
        rw [if_pos rfl, Out.bind_assoc] at p3
        refine ⟨w2, ρ1, M2, m2, er2.stay e2, Post.unX (p3.bindF.imp fun w3 H3 M3 r _ _ z => ?_)⟩
        obtain ⟨e3, m3, p4⟩ := z
        intro v f3 q3 hf3
        obtain ⟨hL3, hFL3, hnL3, q3', dj3⟩ := held e3 hL2 hFL2 hnL2 q2 dj2
        have dv : ∀ a ∈ f3, a ∉ L :: fp := fun a ha hb => by
          have : H2 a ≠ none ∧ ∀ k, k < M2.length → a ∉ w2.φ k := by
            rcases List.mem_cons.mp hb with rfl | hb
            · exact ⟨by rw [hL2]; exact (fun z => nomatch z), hnL2⟩
            · obtain ⟨_, o, h2⟩ := q2.fp a hb
              exact ⟨by rw [h2]; exact (fun z => nomatch z), dj2 a hb⟩
          rcases hf3 a ha with z | ⟨j, hj, z⟩ | z
          · exact this.1 z
          · exact this.2 j hj z
          · cases z
        have p5 := p4 (L :: (fp ++ f3)) fun a ha => by
          rcases List.mem_cons.mp ha with rfl | ha
          · exact .inr (.inr List.mem_cons_self)
          · rcases List.mem_append.mp ha with ha | ha
            · exact .inr (.inr (List.mem_cons_of_mem _ ha))
            · exact pm_nil (hf3 a ha) _
        split at p5
        · rename_i hacc
          have hlen := q3'.length
          refine ⟨vs, hL3, by rw [hlen]; exact Nat.lt_of_lt_of_le hacc cap_le, ?_⟩
          obtain ⟨w4, e4, m4, t4, nd4, dj4⟩ := treeT_ok m3 q3
          obtain ⟨hL4, hFL4, hnL4, q4, dj4'⟩ := held e4 hL3 hFL3 hnL3 q3' dj3
          have ndfp := (List.nodup_cons.mp nd)
          have hu : ∀ a ∈ fp ++ f3, a ≠ L := fun a ha z => by
            subst z
            rcases List.mem_append.mp ha with ha | ha
            · exact ndfp.1 ha
            · exact dv _ ha List.mem_cons_self
          have tall := trl_app q4 (.cons t4 .nil : TRL X.K X.mg w4.F H3 [v] [treeT M3 r] (f3 ++ []))
          rw [List.append_nil] at tall
          refine ⟨_, by omega, hl, rfl, acc ++ [treeT M3 r], w4, frzM M3 r, vs ++ [v], fp ++ f3, m4.put hFL4 hnL4, (((er.stay e').stay e2).stay e3).stay e4, (((sF.trans e'.F).trans e2.F).trans e3.F).trans e4.F, upd_same, hFL4, hnL4, ?_, ?_, ?_, ?_, ?_, ?_⟩
          · exact tall.stay (Same.refl _) fun a ha => ⟨(tall.fp a ha).1, fun o ho => by rw [upd_ne (hu a ha)]; exact ho⟩
          · refine List.nodup_cons.mpr ⟨fun z => hu L z rfl, List.nodup_append.mpr ⟨ndfp.2, nd4, fun a ha b hb z => ?_⟩⟩
            subst z
            exact dv a hb (List.mem_cons_of_mem _ ha)
          · intro a ha
            rcases List.mem_append.mp ha with ha | ha
            · exact dj4' a ha
            · exact dj4 a ha
          · exact ((((e0.trans0 e').trans0 e2).trans0 e3).trans0 e4).trans (Ext.put (fs := [L]) List.mem_cons_self) fun a ha => by rw [List.mem_singleton.mp ha]; exact hp0 L List.mem_cons_self
          · intro a ha
            rcases List.mem_cons.mp ha with rfl | ha
            · exact hp0 _ List.mem_cons_self
            · rcases List.mem_append.mp ha with ha | ha
              · exact hp0 a (List.mem_cons_of_mem _ ha)
              · exact ((e0.trans0 e').trans0 e2).pm (gs := []) (fun _ z => nomatch z) (hf3 a ha)
          · exact Post.from p5 ((e4.mono fun _ z => nomatch z).trans (Ext.put (fs := [L]) List.mem_cons_self) fun a ha => .inr (.inr (by rw [List.mem_singleton.mp ha]; exact List.mem_cons_self))) fun a ha => .inr (.inr ha)
        · exact p5.elim
  · have e : i = items.length := by omega
    subst e
    rw [List.drop_length] at p
    exact .inl ⟨ok.stop _ w H M m sF (Nat.le_refl _), hF acc H ⟨w, M, vs, fp, m, er, sF, hL, hFL, hnL, q, nd, dj, e0, hp0, p⟩⟩
/-- the start -/
theorem LcS.new {ρ : Ev} {L : Addr} {C : Wd → Hp → Mst → R → Prop} {kont : Mst → Out R} (m : MR X.K X.mg w H M) (er : ER X.K X.mg w M σ ρ) (hL : H L = none) (p : Post X W σ [] w H M (kont M) C) : LcS X W w H M σ ρ w.F L C kont [] (upd H L (.lst [])) := by
  have nf : w.F L = none := by
    cases z : w.F L with
    | none => rfl
    | some o => rw [m.sub L o z] at hL; cases hL
  refine ⟨w, M, [], [], m.new hL, er, Same.refl _, upd_same, nf, fun k hk z => ?_, .nil, by simp, (fun _ z => nomatch z), Ext.new m hL, fun a ha => .inl (by rw [List.mem_singleton.mp ha]; exact hL), Post.from p (Ext.new m hL) fun a ha => .inl (by rw [List.mem_singleton.mp ha]; exact hL)⟩
  obtain ⟨x, hx⟩ : ∃ x, M[k]? = some x := ⟨M[k], List.getElem?_eq_getElem hk⟩
  obtain ⟨_, o, e⟩ := (m.obj k x hx).1.fp _ z
  rw [e] at hL; cases hL
/-- the end -/
theorem LcS.done {ρ : Ev} {F1 : Hp} {L : Addr} {w0 w1 : Wd} {H0 H1 : Hp} {M0 M1 : Mst} {Q : VK} {acc : List T} (e1 : Ext [] w0 H0 M0 w1 H1 M1) (h : LcS X W w1 H1 M1 σ ρ F1 L (CE X [] w0 H0 M0 Q) (fun M => .ok (.t (.lst acc)) M) acc H) : Q (.ref L) H := by
  obtain ⟨w, M, vs, fp, m, er, sF, hL, hFL, hnL, q, nd, dj, e0, hp0, p⟩ := h
  refine (p.now m) (.ref L) (L :: fp) ⟨.lst hL hFL q, nd, fun a ha k hk => ?_⟩ fun a ha => e1.pm (gs := []) (fun _ z => nomatch z) (hp0 a ha)
  rcases List.mem_cons.mp ha with rfl | ha
  · exact hnL k hk
  · exact dj a ha k hk
variable {G G1 : DenI} {g g1 : Tg} {own own1 : List Nat} {c c1 : DenT} {f : Den}
theorem rd_lc {Q : VK} (hsl : ∀ i ∈ g.slots, i ∈ own) (h : rdE X W (eLc G g own c f) σ H Q) : tLc (rdI X W G) (tgR X.K g) (rdT X W0 c) (rdE X W0 f) own σ H Q := by
  obtain ⟨w, ρ, M, m, er, p⟩ := h
  refine ⟨w, ρ, M, m, er, p.bindF.imp fun w1 H1 M1 items _ _ z => ?_⟩
  obtain ⟨e1, m1, p1⟩ := z
  intro J ok L hL
  have p2 := p1 [] fun _ z => nomatch z
  have st := LcS.new (kont := fun M => (lcL g own c f ρ items [] M).bind fun ts M2 => .ok (.t (.lst ts)) M2) m1 (er.stay e1) hL p2
  exact lc_loop hsl ok st fun acc' H h => LcS.done e1 h
theorem Post.resig {o : Out α} {C : Wd → Hp → Mst → α → Prop} {σ' : L2.St} {W' : WX} (h : Post X W σ fs w H M o C) (hn : ∀ e M', o ≠ .exc e M') : Post X W' σ' fs w H M o C := by
  cases o with
  | ok a M' => exact h
  | exc x M' => exact absurd rfl (hn x M')
  | bad => exact h
theorem noX_noexc (o : Out α) : ∀ e M', noX o ≠ .exc e M' := fun e M' z => by cases o <;> cases z
theorem bind_noexc {o : Out α} {k : α → Mst → Out β} (h : ∀ e M', o ≠ .exc e M') (hk : ∀ a M e M', k a M ≠ .exc e M') : ∀ e M', o.bind k ≠ .exc e M' := fun e M' z => by
  cases o with
  | ok a M => exact hk a M e M' z
  | exc x M => exact h x M rfl
  | bad => cases z
theorem lcL_noexc {ρ : Ev} : ∀ (items : List D) (acc : List T) (M : Mst) (e : Exc) (M' : Mst), lcL g own c f ρ items acc M ≠ .exc e M'
  | [], acc, M, e, M' => fun z => by unfold lcL at z; cases z
  | d :: ds, acc, M, e, M' => by
    unfold lcL
    split
    · exact fun z => nomatch z
    · refine bind_noexc (noX_noexc _) (fun k M2 e M' => ?_) e M'
      split
      · refine bind_noexc (noX_noexc _) (fun r M3 e M' => ?_) e M'
        split
        · exact lcL_noexc ds _ _ e M'
        · exact fun z => nomatch z
      · exact lcL_noexc ds _ _ e M'
theorem lcL2_noexc' {ρ : Ev} : ∀ (items : List D) (acc : List T) (M : Mst) (e : Exc) (M' : Mst), lcL2 g own c G1 g1 own1 c1 f ρ items acc M ≠ .exc e M'
  | [], acc, M, e, M' => fun z => by unfold lcL2 at z; cases z
  | d :: ds, acc, M, e, M' => by
    unfold lcL2
    split
    · exact fun z => nomatch z
    · refine bind_noexc (noX_noexc _) (fun k M2 e M' => ?_) e M'
      split
      · refine bind_noexc (noX_noexc _) (fun r M3 e M' => ?_) e M'
        exact bind_noexc (lcL_noexc _ _ _) (fun acc' M4 e M' => lcL2_noexc' ds _ _ e M') e M'
      · exact lcL2_noexc' ds _ _ e M'
theorem lcL2_noexc {ρ : Ev} (items : List D) (acc : List T) (M : Mst) : ∀ (e : Exc) (M' : Mst), ((lcL2 g own c G1 g1 own1 c1 f ρ items acc M).bind fun ts M2 => Out.ok (R.t (.lst ts)) M2) ≠ .exc e M' :=
  bind_noexc (lcL2_noexc' items acc M) fun _ _ _ _ z => nomatch z
theorem rd_lc2 {Q : VK} (hsl : ∀ i ∈ g.slots, i ∈ own) (hsl1 : ∀ i ∈ g1.slots, i ∈ own1) (h : rdE X W (eLc2 G g own c G1 g1 own1 c1 f) σ H Q) :
    tLc2 (rdI X W G) (tgR X.K g) (rdT X W0 c) (rdI X W0 G1) (tgR X.K g1) (rdT X W0 c1) (rdE X W0 f) own own1 σ H Q := by
  obtain ⟨w, ρ, M, m, er, p⟩ := h
  refine ⟨w, ρ, M, m, er, p.bindF.imp fun w1 H1 M1 items _ _ z => ?_⟩
  obtain ⟨e1, m1, p1⟩ := z
  intro J ok L hL
  have er1 := er.stay e1
  have p2 := p1 [] fun _ z => nomatch z
  have st := LcS.new (kont := fun M => (lcL2 g own c G1 g1 own1 c1 f ρ items [] M).bind fun ts M2 => .ok (.t (.lst ts)) M2) m1 (er.stay e1) hL p2
  refine ⟨fun i m H => i ≤ items.length ∧ m = items.length - i ∧ ∃ acc, LcS X W w1 H1 M1 σ ρ w1.F L (CE X [] w _ M Q) (fun M => (lcL2 g own c G1 g1 own1 c1 f ρ (items.drop i) acc M).bind fun ts M2 => .ok (.t (.lst ts)) M2) acc H, ⟨_, Nat.zero_le _, rfl, [], st⟩, ?_⟩
  rintro i mm H ⟨hi, rfl, acc, w, M, vs, fp, m, er, sF, hL, hFL, hnL, q, nd, dj, e0, hp0, p⟩
  by_cases hl : i < items.length
  · obtain ⟨d, hd⟩ : ∃ d, items[i]? = some d := ⟨items[i], List.getElem?_eq_getElem hl⟩
    obtain ⟨go1, go2⟩ := ok.go i w H M d m sF hd
    have ed : items.drop i = d :: items.drop (i + 1) := by
      rw [List.drop_eq_getElem_cons hl]
      rw [List.getElem?_eq_getElem hl] at hd
      rw [Option.some.inj hd]
    rw [ed] at p
    refine .inr ⟨go1, _, fun H' q => q, fun x H' y => ?_⟩
    obtain ⟨w', e', m', hx⟩ := go2 x H' y
    obtain ⟨hL', hFL', hnL', q', dj'⟩ := held e' hL hFL hnL q dj
    unfold lcL2 at p
    cases z : setT g d (wipeE ρ own) with
    | none => rw [z] at p; exact p.elim
    | some ρ1 =>
      rw [z] at p
      refine tg_run m' ((er.stay e').wipe own) hx z fun σ2 er2 hw => ⟨(hw own hsl).trans (wipe_wipe σ own), w', ρ1, M, m', er2, ?_⟩
      have p : Post X W σ (L :: fp) w' H' M (((noX (c ρ1 M)).bind fun k M2 => if k = true then (noX (G1 ρ1 M2)).bind fun items1 M3 => (lcL g1 own1 c1 f ρ1 items1 acc M3).bind fun acc' M4 => lcL2 g own c G1 g1 own1 c1 f ρ (items.drop (i + 1)) acc' M4
        else lcL2 g own c G1 g1 own1 c1 f ρ (items.drop (i + 1)) acc M2).bind fun ts M2 => Out.ok (R.t (.lst ts)) M2) _ := Post.from p (e'.mono fun _ z => nomatch z) fun a ha => .inr (.inr ha)
      rw [Out.bind_assoc] at p
      refine Post.unX (p.bindF.imp fun w2 H2 M2 k _ _ z => ?_)
      obtain ⟨e2, m2, p2⟩ := z
      obtain ⟨hL2, hFL2, hnL2, q2, dj2⟩ := held e2 hL' hFL' hnL' q' dj'
      cases k with
      | false =>
        rw [if_neg Bool.false_ne_true]
        refine ⟨_, by omega, hl, rfl, acc, w2, M2, vs, fp, m2, (er.stay e').stay e2, (sF.trans e'.F).trans e2.F, hL2, hFL2, hnL2, q2, nd, dj2, (e0.trans0 e').trans0 e2, hp0, ?_⟩
        have := p2 (L :: fp) fun a ha => .inr (.inr ha)
        rw [if_neg Bool.false_ne_true] at this
        exact this
      | true =>
        rw [if_pos rfl]
        have p3 := p2 (L :: fp) fun a ha => .inr (.inr ha)
        rw [if_pos rfl, Out.bind_assoc] at p3
        refine ⟨w2, ρ1, M2, m2, er2.stay e2, Post.unX (p3.bindF.imp fun w3 H3 M3 items1 _ _ z => ?_)⟩
        obtain ⟨e3, m3, p4⟩ := z
        intro J1 ok1
        obtain ⟨hL3, hFL3, hnL3, q3', dj3⟩ := held e3 hL2 hFL2 hnL2 q2 dj2
        have p5 := p4 (L :: fp) fun a ha => .inr (.inr ha)
        rw [Out.bind_assoc] at p5
        have er3 : ER X.K X.mg w3 M3 σ2 ρ1 := (er2.stay e2).stay e3
        have e03 := ((e0.trans0 e').trans0 e2).trans0 e3
        refine lc_loop (W := W) (w0 := w1) (H0 := H1) (M0 := M1) (σ := σ2) (ρ := ρ1) (L := L) (acc := acc) (kont := fun acc' M4 => (lcL2 g own c G1 g1 own1 c1 f ρ (items.drop (i + 1)) acc' M4).bind fun ts M2 => .ok (.t (.lst ts)) M2) hsl1 ok1
          ⟨w3, M3, vs, fp, m3, er3, Same.refl _, hL3, hFL3, hnL3, q3', nd, dj3, e03, hp0, Post.resig p5 (bind_noexc (lcL_noexc _ _ _) fun a M => lcL2_noexc _ a M)⟩ fun acc' H h => ?_
        obtain ⟨w, M, vs, fp, m, er, sF, hL, hFL, hnL, q, nd, dj, e0, hp0, p⟩ := h
        exact ⟨_, by omega, hl, rfl, acc', w, M, vs, fp, m, er1.stay e0, e0.F, hL, hFL, hnL, q, nd, dj, e0, hp0, Post.resig p (lcL2_noexc _ _ _)⟩
  · have e : i = items.length := by omega
    subst e
    rw [List.drop_length] at p
    exact .inl ⟨ok.stop _ w H M m sF (Nat.le_refl _), LcS.done e1 ⟨w, M, vs, fp, m, er, sF, hL, hFL, hnL, q, nd, dj, e0, hp0, p⟩⟩
end
end DL

/-! DL9: the rules of comprehensions; what is walked -/
namespace DL
open PySem L2 PySem.Spec PyProof.Rows
open RZ (ItzT pi_zipA)
def DTs (X : Cx) (W : WX) (ifs : List Expr) (c : DenT) : Prop := PTs X ifs (rdT X W c)
theorem _root_.L2.PTs.mono {X : Cx} {e : List Expr} {t t' : TT} (h : PTs X e t) (k : ∀ σ H Q, t' σ H Q → t σ H Q) : PTs X e t' := ⟨fun pins s σ H Q I q => h.run pins s σ H Q I (k _ _ _ q)⟩
section
variable {X : Cx} {W : WX} {σ : L2.St} {fs gs : List Addr} {w w2 : Wd} {H H2 : Hp} {M M2 : Mst}
variable {elt tg iter tg1 iter1 e e2 : Expr} {ifs ifs1 : List Expr} {scope : Scope} {own : List (Str × Nat)} {pos p : Pos} {G G1 : DenI} {g g1 : Tg} {c c1 : DenT} {f F Fa Fb : Den} {own2 own1 : List Nat}
theorem dts_nil : DTs X W [] tYesD := pts_nil.mono fun σ H Q h => by
  obtain ⟨w, ρ, M, m, er, p⟩ := h
  exact p.now m
theorem dts_one {c : Expr} {T : DenT} (h : DT X W c T) : DTs X W [c] T := pts_one h
/-- a block's context -/
abbrev Blk (X : Cx) (scope : Scope) (s : Shared) (H : Hp) (C : Addr) (cl : List (Str × Addr)) (fp : List Addr) : Cx := X.blk s H scope (compEnvC scope cl C X.env) fp
theorem de_lc (hc : X.calm = true) (hN : X.N.Nodup) (hi : DI X W tg iter G) (ok : BlkOk X.N X.env.scope scope own)
    (hg : ∀ (s : Shared) (H : Hp) (C : Addr) (cl : List (Str × Addr)) (fp : List Addr), DTg (Blk X scope s H C cl fp) tg g) (ht : ∀ (s : Shared) (H : Hp) (C : Addr) (cl : List (Str × Addr)) (fp : List Addr), DTs (Blk X scope s H C cl fp) W0 ifs c)
    (he : ∀ (s : Shared) (H : Hp) (C : Addr) (cl : List (Str × Addr)) (fp : List Addr), DE (Blk X scope s H C cl fp) W0 elt f) (ho : own.map (·.2) = own2 := by rfl) (hsl : ∀ i ∈ g.slots, i ∈ own2 := by decide) (hs : ∀ x, foldedSetIterable iter X.env x = pure x := by intro _; rfl) :
    DE X W (.ListComp elt [⟨tg, iter, ifs, 0⟩] scope pos) (eLc G g own2 c f) := by
  subst ho
  exact (pe_lc (wi := rdI X W G) (g := tgR X.K g) (tt := rdT X W0 c) (te := rdE X W0 f) hc hN hi ok hg ht he hs).mono fun _ _ _ h => rd_lc hsl h
theorem de_lc2 (hc : X.calm = true) (hN : X.N.Nodup) (hi : DI X W tg iter G) (ok : BlkOk X.N X.env.scope scope own) (hv : ∀ i ∈ own1, i ∈ own.map (·.2))
    (hg : ∀ (s : Shared) (H : Hp) (C : Addr) (cl : List (Str × Addr)) (fp : List Addr), DTg (Blk X scope s H C cl fp) tg g) (ht : ∀ (s : Shared) (H : Hp) (C : Addr) (cl : List (Str × Addr)) (fp : List Addr), DTs (Blk X scope s H C cl fp) W0 ifs c)
    (hi1 : ∀ (s : Shared) (H : Hp) (C : Addr) (cl : List (Str × Addr)) (fp : List Addr), DI (Blk X scope s H C cl fp) W0 tg1 iter1 G1)
    (hg1 : ∀ (s : Shared) (H : Hp) (C : Addr) (cl : List (Str × Addr)) (fp : List Addr), DTg (Blk X scope s H C cl fp) tg1 g1) (ht1 : ∀ (s : Shared) (H : Hp) (C : Addr) (cl : List (Str × Addr)) (fp : List Addr), DTs (Blk X scope s H C cl fp) W0 ifs1 c1)
    (he : ∀ (s : Shared) (H : Hp) (C : Addr) (cl : List (Str × Addr)) (fp : List Addr), DE (Blk X scope s H C cl fp) W0 elt f) (ho : own.map (·.2) = own2 := by rfl) (hsl : ∀ i ∈ g.slots, i ∈ own2 := by decide) (hsl1 : ∀ i ∈ g1.slots, i ∈ own1 := by decide)
    (hs : ∀ x, foldedSetIterable iter X.env x = pure x := by intro _; rfl) (hs1 : ∀ env x, foldedSetIterable iter1 env x = pure x := by intro _ _; rfl) :
    DE X W (.ListComp elt [⟨tg, iter, ifs, 0⟩, ⟨tg1, iter1, ifs1, 0⟩] scope pos) (eLc2 G g own2 c G1 g1 own1 c1 f) := by
  subst ho
  exact (pe_lc2 (wi := rdI X W G) (g := tgR X.K g) (tt := rdT X W0 c) (wi1 := rdI X W0 G1) (g1 := tgR X.K g1) (tt1 := rdT X W0 c1) (te := rdE X W0 f) hc hN hi ok hv hg ht hi1 hg1 ht1 he hs hs1).mono fun _ _ _ h => rd_lc2 hsl hsl1 h
variable {i : Nat} {y : Str} {py spos : Pos}
theorem rd_asg2 {g : TG} {Gd : DenG} {Dn : Ends} {t : TE} {Fe : Den} (ht : ∀ σ H Q, rdE X W Fe σ H Q → t σ H Q) (hg : ∀ v σ H Q, rdG X W Gd v σ H Q → g v σ H Q) (h : rdS X W (sAsg Fe Gd) Dn σ H) : tAsg t g Dn σ H := ht _ _ _ (rd_asg hg h)
/-- y = [..] on one line; Gd: gSet, or gSetM where the list is changed later -/
theorem ds_lc {Gd : DenG} (hGd : ∀ v σ H Q, rdG X W Gd v σ H Q → gName i v σ H Q) (hc : X.calm = true) (hN : X.N.Nodup) (hy : X.N[i]? = some y) (hyl : X.env.scope.names.lookup y = some .local)
    (hsw : swapsWith (.ListComp elt [⟨tg, iter, ifs, 0⟩] scope pos) (some (.Name y py)) spos.line X.env = pure true) (hi : DI X W tg iter G) (ok : BlkOk X.N X.env.scope scope own)
    (hg : ∀ (s : Shared) (H : Hp) (C : Addr) (cl : List (Str × Addr)) (fp : List Addr), DTg (Blk X scope s H C cl fp) tg g) (ht : ∀ (s : Shared) (H : Hp) (C : Addr) (cl : List (Str × Addr)) (fp : List Addr), DTs (Blk X scope s H C cl fp) W0 ifs c)
    (he : ∀ (s : Shared) (H : Hp) (C : Addr) (cl : List (Str × Addr)) (fp : List Addr), DE (Blk X scope s H C cl fp) W0 elt f) (ho : own.map (·.2) = own2 := by rfl) (hsl : ∀ i ∈ g.slots, i ∈ own2 := by decide) (hs : ∀ x, foldedSetIterable iter X.env x = pure x := by intro _; rfl) :
    DS X W (.Assign [.Name y py] (.ListComp elt [⟨tg, iter, ifs, 0⟩] scope pos) spos) (sAsg (eLc G g own2 c f) Gd) := by
  subst ho
  exact (ps_setLc (wi := rdI X W G) (g := tgR X.K g) (tt := rdT X W0 c) (te := rdE X W0 f) hc hN hy hyl hsw hi ok hg ht he hs).mono fun _ _ _ h => rd_asg2 (fun _ _ _ h => rd_lc hsl h) hGd h
theorem ds_lc2 {Gd : DenG} (hGd : ∀ v σ H Q, rdG X W Gd v σ H Q → gName i v σ H Q) (hc : X.calm = true) (hN : X.N.Nodup) (hy : X.N[i]? = some y) (hyl : X.env.scope.names.lookup y = some .local)
    (hsw : swapsWith (.ListComp elt [⟨tg, iter, ifs, 0⟩, ⟨tg1, iter1, ifs1, 0⟩] scope pos) (some (.Name y py)) spos.line X.env = pure true) (hi : DI X W tg iter G) (ok : BlkOk X.N X.env.scope scope own) (hv : ∀ i ∈ own1, i ∈ own.map (·.2))
    (hg : ∀ (s : Shared) (H : Hp) (C : Addr) (cl : List (Str × Addr)) (fp : List Addr), DTg (Blk X scope s H C cl fp) tg g) (ht : ∀ (s : Shared) (H : Hp) (C : Addr) (cl : List (Str × Addr)) (fp : List Addr), DTs (Blk X scope s H C cl fp) W0 ifs c)
    (hi1 : ∀ (s : Shared) (H : Hp) (C : Addr) (cl : List (Str × Addr)) (fp : List Addr), DI (Blk X scope s H C cl fp) W0 tg1 iter1 G1)
    (hg1 : ∀ (s : Shared) (H : Hp) (C : Addr) (cl : List (Str × Addr)) (fp : List Addr), DTg (Blk X scope s H C cl fp) tg1 g1) (ht1 : ∀ (s : Shared) (H : Hp) (C : Addr) (cl : List (Str × Addr)) (fp : List Addr), DTs (Blk X scope s H C cl fp) W0 ifs1 c1)
    (he : ∀ (s : Shared) (H : Hp) (C : Addr) (cl : List (Str × Addr)) (fp : List Addr), DE (Blk X scope s H C cl fp) W0 elt f) (ho : own.map (·.2) = own2 := by rfl) (hsl : ∀ i ∈ g.slots, i ∈ own2 := by decide) (hsl1 : ∀ i ∈ g1.slots, i ∈ own1 := by decide)
    (hs : ∀ x, foldedSetIterable iter X.env x = pure x := by intro _; rfl) (hs1 : ∀ env x, foldedSetIterable iter1 env x = pure x := by intro _ _; rfl) :
    DS X W (.Assign [.Name y py] (.ListComp elt [⟨tg, iter, ifs, 0⟩, ⟨tg1, iter1, ifs1, 0⟩] scope pos) spos) (sAsg (eLc2 G g own2 c G1 g1 own1 c1 f) Gd) := by
  subst ho
  exact (ps_setLc2 (wi := rdI X W G) (g := tgR X.K g) (tt := rdT X W0 c) (wi1 := rdI X W0 G1) (g1 := tgR X.K g1) (tt1 := rdT X W0 c1) (te := rdE X W0 f) hc hN hy hyl hsw hi ok hv hg ht hi1 hg1 ht1 he hs hs1).mono fun _ _ _ h => rd_asg2 (fun _ _ _ h => rd_lc2 hsl hsl1 h) hGd h

/-! ### what is walked: data -/
def chars (x : Str) : List D := x.cps.toList.map fun c => .str ⟨#[c]⟩
def items : D → Option (List D)
  | .lst ds => some ds
  | .tup ds => some ds
  | .ro ds => some ds
  | .str x => some (chars x)
  | _ => none
def iOf (F : Den) : DenI := fun ρ M => (F ρ M).bind fun r M1 => match items (frzR M1 r) with
  | some ds => .ok ds (frzM M1 r)
  | none => .bad
theorem ItOk.list {F1 : Hp} {a : Addr} {vs : List V} {ds : List D} (h : SqL X.K F1 a vs) (l : DpL X.K X.mg F1 vs ds) : ItOk X.K X.mg F1 (Itl X.K a) ds where
  go := fun i w H M d m sF hd => by
    obtain ⟨v, h1, h2⟩ := l.get hd
    have hq : SqL X.K H a vs := (sF.trans m.sub).seq h
    exact ⟨⟨vs, v, hq, h1⟩, fun x H' ⟨e, y⟩ => by
      subst e
      have := y vs hq
      rw [h1] at this
      cases this
      exact ⟨w, Ext.refl m, m, h2.mono sF⟩⟩
  stop := fun i w H M m sF hi => ⟨vs, (sF.trans m.sub).seq h, by rw [l.length]; exact hi⟩
theorem ItOk.tup {F1 : Hp} {a : Addr} {vs : List V} {ds : List D} (h : SqT X.K F1 a vs) (l : DpL X.K X.mg F1 vs ds) : ItOk X.K X.mg F1 (Itt X.K a) ds where
  go := fun i w H M d m sF hd => by
    obtain ⟨v, h1, h2⟩ := l.get hd
    have hq : SqT X.K H a vs := Same.seqT (sF.trans m.sub) h
    exact ⟨⟨vs, v, hq, h1⟩, fun x H' ⟨e, y⟩ => by
      subst e
      have := y vs hq
      rw [h1] at this
      cases this
      exact ⟨w, Ext.refl m, m, h2.mono sF⟩⟩
  stop := fun i w H M m sF hi => ⟨vs, Same.seqT (sF.trans m.sub) h, by rw [l.length]; exact hi⟩
theorem ItOk.text {F1 : Hp} {x : Str} : ItOk X.K X.mg F1 (Its x) (chars x) where
  go := fun i w H M d m sF hd => by
    unfold chars at hd
    rw [List.getElem?_map] at hd
    cases z : x.cps.toList[i]? with
    | none => rw [z] at hd; cases hd
    | some c =>
      rw [z] at hd
      cases hd
      have hi : x.cps[i]? = some c := by simpa using z
      have hl : i < x.cps.size := (Array.getElem?_eq_some_iff.mp hi).1
      exact ⟨hl, fun v H' ⟨e, c', hc', ev⟩ => by
        subst e ev
        rw [hi] at hc'
        cases hc'
        exact ⟨w, Ext.refl m, m, .str _⟩⟩
  stop := fun i w H M m sF hi => by
    show x.cps.size ≤ i
    simpa [chars] using hi
theorem di_data (h : DE X W e F) : DI X W tg e (iOf F) := (PI.or (pi_list h) (PI.or (pi_tup h) (pi_str h))).mono fun σ H Q hq => by
  obtain ⟨w, ρ, M, m, er, p⟩ := hq
  have p : Post X W σ [] w H M ((F ρ M).bind fun r M1 => match items (frzR M1 r) with
    | some ds => .ok ds (frzM M1 r)
    | none => .bad) _ := p
  have key : ∀ (Q' : V → Hp → Prop), (∀ w1 H1 M1 r v fp w2 ds, F ρ M = .ok r M1 → items (frzR M1 r) = some ds → MR X.K X.mg w2 H1 (frzM M1 r) → Dp X.K X.mg w2.F v (frzR M1 r) → (∀ J, ItOk X.K X.mg w2.F J ds → Q J H1) → Q' v H1) → rdE X W F σ H Q' := fun Q' k => by
    refine ⟨w, ρ, M, m, er, ?_⟩
    cases z : F ρ M with
    | bad => rw [z] at p; exact p
    | exc x M' => rw [z] at p; exact p
    | ok r M1 =>
      rw [z] at p
      intro w1 H1 e1 m1 v fp q hf
      obtain ⟨w2, e2, m2, d2, _⟩ := settle m1 q
      have p : Post X W σ [] w H M (match items (frzR M1 r) with
        | some ds => .ok ds (frzM M1 r)
        | none => .bad) (fun w' H' M' items => ∀ J, ItOk X.K X.mg w'.F J items → Q J H') := p
      cases z2 : items (frzR M1 r) with
      | none => rw [z2] at p; exact p.elim
      | some ds =>
        rw [z2] at p
        exact k w1 H1 M1 r v fp w2 ds z z2 m2 d2 fun J hJ => p w2 H1 (e1.trans e2 hf) m2 J hJ
  cases z : F ρ M with
  | bad => rw [z] at p; exact p.elim
  | exc x M' => exact .inl (key _ fun w1 H1 M1 r v fp w2 ds hz => by rw [z] at hz; cases hz)
  | ok r0 M0 =>
    have zz : ∀ {r M1}, F ρ M = .ok r M1 → r = r0 ∧ M1 = M0 := fun h => by rw [z] at h; cases h; exact ⟨rfl, rfl⟩
    cases z2 : frzR M0 r0 with
    | lst ds0 =>
      refine .inl (key _ fun w1 H1 M1 r v fp w2 ds hz hi m2 d2 k => ?_)
      obtain ⟨rfl, rfl⟩ := zz hz
      rw [z2] at d2 hi; cases hi
      cases d2 with
      | lst h l => exact ⟨_, rfl, ⟨_, SqL.of (m2.sub _ _ h)⟩, k _ (ItOk.list (SqL.of h) l)⟩
    | ro ds0 =>
      refine .inl (key _ fun w1 H1 M1 r v fp w2 ds hz hi m2 d2 k => ?_)
      obtain ⟨rfl, rfl⟩ := zz hz
      rw [z2] at d2 hi; cases hi
      cases d2 with
      | ro h l => exact ⟨_, rfl, ⟨_, m2.sub.seq h⟩, k _ (ItOk.list h l)⟩
    | tup ds0 =>
      refine .inr (.inl (key _ fun w1 H1 M1 r v fp w2 ds hz hi m2 d2 k => ?_))
      obtain ⟨rfl, rfl⟩ := zz hz
      rw [z2] at d2 hi; cases hi
      cases d2 with
      | tup h l => exact ⟨_, rfl, ⟨_, Same.seqT m2.sub h⟩, k _ (ItOk.tup h l)⟩
    | str x =>
      refine .inr (.inr (key _ fun w1 H1 M1 r v fp w2 ds hz hi m2 d2 k => ?_))
      obtain ⟨rfl, rfl⟩ := zz hz
      rw [z2] at d2 hi; cases hi
      cases d2
      exact ⟨x, rfl, k _ ItOk.text⟩
    | non => exact .inl (key _ fun w1 H1 M1 r v fp w2 ds hz hi => by obtain ⟨rfl, rfl⟩ := zz hz; rw [z2] at hi; cases hi)
    | bl _ => exact .inl (key _ fun w1 H1 M1 r v fp w2 ds hz hi => by obtain ⟨rfl, rfl⟩ := zz hz; rw [z2] at hi; cases hi)
    | int _ => exact .inl (key _ fun w1 H1 M1 r v fp w2 ds hz hi => by obtain ⟨rfl, rfl⟩ := zz hz; rw [z2] at hi; cases hi)
    | ins _ _ => exact .inl (key _ fun w1 H1 M1 r v fp w2 ds hz hi => by obtain ⟨rfl, rfl⟩ := zz hz; rw [z2] at hi; cases hi)
    | glo _ => exact .inl (key _ fun w1 H1 M1 r v fp w2 ds hz hi => by obtain ⟨rfl, rfl⟩ := zz hz; rw [z2] at hi; cases hi)
    | ty _ => exact .inl (key _ fun w1 H1 M1 r v fp w2 ds hz hi => by obtain ⟨rfl, rfl⟩ := zz hz; rw [z2] at hi; cases hi)

/-! ### ranges -/
def rangeD (lo : Int) (n : Nat) : List D := (List.range n).map fun i => .int (lo + (i : Nat))
theorem ItOk.range {F1 : Hp} {lo : Int} {n : Nat} : ItOk X.K X.mg F1 (Itr lo n) (rangeD lo n) where
  go := fun i w H M d m sF hd => by
    unfold rangeD at hd
    rw [List.getElem?_map] at hd
    by_cases hi : i < n
    · rw [List.getElem?_eq_getElem (by simpa using hi)] at hd
      simp at hd
      subst hd
      exact ⟨hi, fun x H' ⟨e, y⟩ => by subst e y; exact ⟨w, Ext.refl m, m, .int _⟩⟩
    · rw [List.getElem?_eq_none (by simpa using hi)] at hd; cases hd
  stop := fun i w H M m sF hi => by
    show n ≤ i
    simpa [rangeD] using hi
def iRange1 (A : DenA) : DenI := fun ρ M => (A ρ M).bind fun rs M1 => match rs.map (frzR M1) with
  | [.int j] => if j < 1000000000 ∧ -1000000000 < j then .ok (rangeD 0 j.toNat) M1 else .bad
  | _ => .bad
def iRange2 (A : DenA) : DenI := fun ρ M => (A ρ M).bind fun rs M1 => match rs.map (frzR M1) with
  | [.int i, .int j] => if (j < 1000000000 ∧ -1000000000 < j) ∧ (i < 1000000000 ∧ -1000000000 < i) then .ok (rangeD i (j - i).toNat) M1 else .bad
  | _ => .bad
theorem seenL {rs : List R} {vs : List V} {fp : List Addr} (m : MR X.K X.mg w H M) (h : RRL X.K X.mg w H M vs rs fp) : DpL X.K X.mg H vs (rs.map (frzR M)) := by
  induction h with
  | nil => exact .nil
  | cons h r _ ih => exact .cons (seen m h) ih
theorem di_range1 {A : DenA} (hg : Gl X "range") (hm : X.mg "range" = none) (ha : DA X W [e] A) (hs : starEach [e] X.env = [(false, eval e X.env)] := by rfl) : DI X W tg (.Call (.Name "range" p) [e] [] pos) (iRange1 A) :=
  (pi_range1 hg hm ha hs).mono fun σ H R h => by
    obtain ⟨w, ρ, M, m, er, p⟩ := h
    refine ⟨w, ρ, M, m, er, p.bindF.imp fun w1 H1 M1 rs _ _ z => ?_⟩
    obtain ⟨e1, m1, p1⟩ := z
    intro vs fp q hf
    replace p1 := p1 [] fun _ z => nomatch z
    have s := seenL m1 q
    split at p1
    · rename_i j hj
      split at p1
      · rename_i hb
        rw [hj] at s
        cases s with
        | cons s1 s2 => cases s1; cases s2; exact ⟨j, rfl, by omega, by omega, p1.now m1 _ ItOk.range⟩
      · exact p1.elim
    · exact p1.elim
theorem di_range2 {A : DenA} (hg : Gl X "range") (hm : X.mg "range" = none) (ha : DA X W [e, e2] A) (hs : starEach [e, e2] X.env = [(false, eval e X.env), (false, eval e2 X.env)] := by rfl) (hs2 : starEach [e2] X.env = [(false, eval e2 X.env)] := by rfl) : DI X W tg (.Call (.Name "range" p) [e, e2] [] pos) (iRange2 A) :=
  (pi_range2 hg hm ha hs hs2).mono fun σ H R h => by
    obtain ⟨w, ρ, M, m, er, p⟩ := h
    refine ⟨w, ρ, M, m, er, p.bindF.imp fun w1 H1 M1 rs _ _ z => ?_⟩
    obtain ⟨e1, m1, p1⟩ := z
    intro vs fp q hf
    replace p1 := p1 [] fun _ z => nomatch z
    have s := seenL m1 q
    split at p1
    · rename_i i j hj
      split at p1
      · rename_i hb
        rw [hj] at s
        cases s with
        | cons s1 s2 =>
          cases s2 with
          | cons s2 s3 => cases s1; cases s2; cases s3; exact ⟨i, j, rfl, by omega, p1.now m1 _ ItOk.range⟩
      · exact p1.elim
    · exact p1.elim
/-! ### pairs -/
/-- a new frozen tuple -/
theorem new_tup {tp : Addr} {vs : List V} {ds : List D} (m : MR X.K X.mg w H M) (hT : H tp = none) (h : DpL X.K X.mg w.F vs ds) : ∃ w', Ext [] w H M w' (upd H tp (.tup vs)) M ∧ MR X.K X.mg w' (upd H tp (.tup vs)) M ∧ Dp X.K X.mg w'.F (.ref tp) (.tup ds) := by
  have q := RR.newT (fp := []) m hT h.trees List.nodup_nil fun _ z => nomatch z
  obtain ⟨w', e', m', d, _⟩ := settle (m.new (o := .tup vs) hT) q
  refine ⟨w', (Ext.new m hT).trans e' fun a ha => .inl (by rw [List.mem_singleton.mp ha]; exact hT), m', ?_⟩
  have : frzR M (.t (.tup (ds.map T.d))) = .tup ds := by show D.tup (frzL (ds.map T.d)) = _; rw [frzL_d]
  rw [this] at d
  exact d
def enumD (ds : List D) : List D := (List.range ds.length).zipWith (fun i d => .tup [.int (i : Nat), d]) ds
def pairD (as bs : List D) : List D := as.zipWith (fun a b => .tup [a, b]) bs
theorem ItOk.enum {F1 : Hp} {a : Addr} {vs : List V} {ds : List D} (h : SqL X.K F1 a vs) (l : DpL X.K X.mg F1 vs ds) : ItOk X.K X.mg F1 (Ite X.K a) (enumD ds) where
  go := fun i w H M d m sF hd => by
    unfold enumD at hd
    rw [List.getElem?_zipWith] at hd
    cases z : ds[i]? with
    | none => rw [z] at hd; split at hd <;> simp_all
    | some d' =>
      have hi : i < ds.length := (List.getElem?_eq_some_iff.mp z).1
      rw [z, List.getElem?_eq_getElem (by simpa using hi)] at hd
      simp at hd
      subst hd
      obtain ⟨v, h1, h2⟩ := l.get z
      have hq : SqL X.K H a vs := (sF.trans m.sub).seq h
      exact ⟨⟨vs, v, hq, h1⟩, fun x H' ⟨T, y, ex, hT, eH, k⟩ => by
        subst ex eH
        have := k vs hq
        rw [h1] at this
        cases this
        exact new_tup m hT (.cons (.int _) (.cons (h2.mono sF) .nil))⟩
  stop := fun i w H M m sF hi => ⟨vs, (sF.trans m.sub).seq h, by rw [l.length]; simpa [enumD] using hi⟩
theorem ItOk.zip {F1 : Hp} {a b : Addr} {vs us : List V} {ds es : List D} (h : SqL X.K F1 a vs) (l : DpL X.K X.mg F1 vs ds) (h' : SqL X.K F1 b us) (l' : DpL X.K X.mg F1 us es) : ItOk X.K X.mg F1 (Itz X.K a b) (pairD ds es) where
  go := fun i w H M d m sF hd => by
    unfold pairD at hd
    rw [List.getElem?_zipWith] at hd
    split at hd
    · rename_i d1 d2 z1 z2
      cases hd
      obtain ⟨v, h1, h2⟩ := l.get z1
      obtain ⟨u, h3, h4⟩ := l'.get z2
      have hq : SqL X.K H a vs := (sF.trans m.sub).seq h
      have hq' : SqL X.K H b us := (sF.trans m.sub).seq h'
      exact ⟨⟨vs, us, v, u, hq, hq', h1, h3⟩, fun x H' ⟨T, y, y', ex, hT, eH, k, k'⟩ => by
        subst ex eH
        have e1 := k vs hq
        have e2 := k' us hq'
        rw [h1] at e1; rw [h3] at e2
        cases e1; cases e2
        exact new_tup m hT (.cons (h2.mono sF) (.cons (h4.mono sF) .nil))⟩
    · cases hd
  stop := fun i w H M m sF hi => ⟨vs, us, (sF.trans m.sub).seq h, (sF.trans m.sub).seq h', by rw [l.length, l'.length]; simp [pairD] at hi; omega⟩
theorem ItOk.zipT {F1 : Hp} {a b : Addr} {vs us : List V} {ds es : List D} (h : SqT X.K F1 a vs) (l : DpL X.K X.mg F1 vs ds) (h' : SqT X.K F1 b us) (l' : DpL X.K X.mg F1 us es) : ItOk X.K X.mg F1 (ItzT X.K a b) (pairD ds es) where
  go := fun i w H M d m sF hd => by
    unfold pairD at hd
    rw [List.getElem?_zipWith] at hd
    split at hd
    · rename_i d1 d2 z1 z2
      cases hd
      obtain ⟨v, h1, h2⟩ := l.get z1
      obtain ⟨u, h3, h4⟩ := l'.get z2
      have hq : SqT X.K H a vs := Same.seqT (sF.trans m.sub) h
      have hq' : SqT X.K H b us := Same.seqT (sF.trans m.sub) h'
      exact ⟨⟨vs, us, v, u, hq, hq', h1, h3⟩, fun x H' ⟨T, y, y', ex, hT, eH, k, k'⟩ => by
        subst ex eH
        have e1 := k vs hq
        have e2 := k' us hq'
        rw [h1] at e1; rw [h3] at e2
        cases e1; cases e2
        exact new_tup m hT (.cons (h2.mono sF) (.cons (h4.mono sF) .nil))⟩
    · cases hd
  stop := fun i w H M m sF hi => ⟨vs, us, Same.seqT (sF.trans m.sub) h, Same.seqT (sF.trans m.sub) h', by rw [l.length, l'.length]; simp [pairD] at hi; omega⟩
/-- all results become data -/
def frzMs : List R → Mst → Mst
  | [], M => M
  | r :: rs, M => frzMs rs (frzM M r)
def frzRs : List R → Mst → List D
  | [], _ => []
  | r :: rs, M => frzR M r :: frzRs rs (frzM M r)
theorem settleAll {rs : List R} : ∀ {vs : List V} {fp : List Addr} {w : Wd} {H : Hp} {M : Mst}, MR X.K X.mg w H M → RRL X.K X.mg w H M vs rs fp → ∃ w', Ext fp w H M w' H (frzMs rs M) ∧ MR X.K X.mg w' H (frzMs rs M) ∧ DpL X.K X.mg w'.F vs (frzRs rs M) := by
  induction rs with
  | nil => intro vs fp w H M m h; cases h; exact ⟨w, Ext.refl m, m, .nil⟩
  | cons r rs ih =>
    intro vs fp w H M m h
    cases h with
    | @cons v vs _ _ f1 f2 h1 h2 dj =>
      obtain ⟨w1, e1, m1, v1, _⟩ := settle m h1
      obtain ⟨w2, e2, m2, v2⟩ := ih m1 (h2.stay e1 fun a ha hb => dj a hb ha)
      exact ⟨w2, (e1.mono fun a ha => List.mem_append_left _ ha).trans e2 fun a ha => .inr (.inr (List.mem_append_right _ ha)), m2, .cons (v1.mono e2.F) v2⟩
def iEnumD (A : DenA) : DenI := fun ρ M => (A ρ M).bind fun rs M1 => match frzRs rs M1 with
  | [.lst ds] => .ok (enumD ds) (frzMs rs M1)
  | _ => .bad
def iZipD (A : DenA) : DenI := fun ρ M => (A ρ M).bind fun rs M1 => match frzRs rs M1 with
  | [.lst ds, .lst es] => .ok (pairD ds es) (frzMs rs M1)
  | [.tup ds, .tup es] => .ok (pairD ds es) (frzMs rs M1)
  | _ => .bad
theorem di_enum {elts : List Expr} {kk : Nat} {tpos : Pos} {A : DenA} (hg : Gl X "enumerate") (hm : X.mg "enumerate" = none) (ha : DA X W [e] A) (hs : starEach [e] X.env = [(false, eval e X.env)] := by rfl) :
    DI X W (.Tuple elts kk tpos) (.Call (.Name "enumerate" p) [e] [] pos) (iEnumD A) := (pi_enum hg hm ha hs).mono fun σ H R h => by
  obtain ⟨w, ρ, M, m, er, p⟩ := h
  refine ⟨w, ρ, M, m, er, p.bindF.imp fun w1 H1 M1 rs _ _ z => ?_⟩
  obtain ⟨e1, m1, p1⟩ := z
  intro vs fp q hf
  replace p1 := p1 fp hf
  obtain ⟨w2, e2, m2, d⟩ := settleAll m1 q
  split at p1
  · rename_i ds hd
    rw [hd] at d
    cases d with
    | cons d1 d2 =>
      cases d2
      cases d1 with
      | lst h l => exact ⟨_, _, rfl, SqL.of (m2.sub _ _ h), p1 w2 H1 e2 m2 _ (ItOk.enum (SqL.of h) l)⟩
  · exact p1.elim
theorem di_zip {elts : List Expr} {kk : Nat} {tpos : Pos} {A : DenA} (hg : Gl X "zip") (hm : X.mg "zip" = none) (ha : DA X W [e, e2] A)
    (hs : starEach [e, e2] X.env = (false, eval e X.env) :: starEach [e2] X.env := by rfl) (hpl : (backTo pos (starEach [e2] X.env)).any (·.1) = false := by rfl) :
    DI X W (.Tuple elts kk tpos) (.Call (.Name "zip" p) [e, e2] [] pos) (iZipD A) := (pi_zipA hg hm ha hs hpl).mono fun σ H R h => by
  obtain ⟨w, ρ, M, m, er, p⟩ := h
  refine ⟨w, ρ, M, m, er, p.bindF.imp fun w1 H1 M1 rs _ _ z => ?_⟩
  obtain ⟨e1, m1, p1⟩ := z
  intro vs fp q hf
  replace p1 := p1 fp hf
  obtain ⟨w2, e2, m2, d⟩ := settleAll m1 q
  split at p1
  · rename_i ds es hd
    rw [hd] at d
    cases d with
    | cons d1 d2 =>
      cases d2 with
      | cons d2 d3 =>
        cases d3
        cases d1 with
        | lst h l =>
          cases d2 with
          | lst h' l' => exact ⟨_, _, _, _, rfl, .inl ⟨SqL.of (m2.sub _ _ h), SqL.of (m2.sub _ _ h'), p1 w2 H1 e2 m2 _ (ItOk.zip (SqL.of h) l (SqL.of h') l')⟩⟩
  · rename_i ds es hd
    rw [hd] at d
    cases d with
    | cons d1 d2 =>
      cases d2 with
      | cons d2 d3 =>
        cases d3
        cases d1 with
        | tup h l =>
          cases d2 with
          | tup h' l' => exact ⟨_, _, _, _, rfl, .inr ⟨Same.seqT m2.sub h, Same.seqT m2.sub h', p1 w2 H1 e2 m2 _ (ItOk.zipT h l h' l')⟩⟩
  · exact p1.elim
end
end DL

/-! DL10: sequences: copies, slices, items, sums; == and in -/
namespace DL
open PySem L2 PySem.Spec PyProof.Rows
/-- what a sequence is, by its items -/
inductive Sq where
  | l (ds : List D) | t (ds : List D) | ro (ds : List D) | s (x : Str)
def Sq.ds : Sq → List D
  | .l ds => ds
  | .t ds => ds
  | .ro ds => ds
  | .s x => chars x
def allD : List T → Option (List D)
  | [] => some []
  | .d x :: r => (allD r).map (x :: ·)
  | _ => none
theorem allD_map (ds : List D) : allD (ds.map T.d) = some ds := by
  induction ds with
  | nil => rfl
  | cons x r ih => simp [allD, ih]
def sqD : D → Option Sq
  | .lst ds => some (.l ds)
  | .tup ds => some (.t ds)
  | .ro ds => some (.ro ds)
  | .str x => some (.s x)
  | _ => none
def peek (M : Mst) : R → Option (List D)
  | .h k => match M.getD k (.d .non) with
    | .lst ts => allD ts
    | _ => none
  | .t _ => none
def src (M : Mst) (r : R) : Option (Sq × Mst) := match peek M r with
  | some ds => some (.l ds, M)
  | none => match sqD (frzR M r) with
    | some q => some (q, frzM M r)
    | none => none
section
variable {X : Cx} {W : WX} {σ : L2.St} {fs gs : List Addr} {w w2 : Wd} {H H2 : Hp} {M M2 : Mst}
variable {e o a b c : Expr} {es : List Expr} {F Fa Fb Fc : Den} {A : DenA} {pos p apos cpos p2 : Pos} {x m : Str}
/-- how a sequence lies -/
def SqAt (X : Cx) (F H : Hp) (v : V) : Sq → Prop
  | .l ds => ∃ a vs, v = .ref a ∧ H a = some (.lst vs) ∧ DpL X.K X.mg F vs ds
  | .t ds => ∃ a vs, v = .ref a ∧ SqT X.K F a vs ∧ DpL X.K X.mg F vs ds
  | .ro ds => ∃ a vs, v = .ref a ∧ SqL X.K F a vs ∧ DpL X.K X.mg F vs ds
  | .s x => v = .str x
theorem allD_at {vs : List V} {ts : List T} {fp : List Addr} {ds : List D} (h : TRL X.K X.mg w.F H vs ts fp) (e : allD ts = some ds) : DpL X.K X.mg w.F vs ds := by
  induction ts generalizing vs fp ds with
  | nil => cases h; cases e; exact .nil
  | cons t r ih =>
    cases h with
    | cons h1 h2 =>
      cases t with
      | d x =>
        unfold allD at e
        cases z : allD r with
        | none => rw [z] at e; cases e
        | some ds' =>
          rw [z] at e
          cases e
          cases h1 with
          | d h1 => exact .cons h1 (ih h2 z)
      | lst _ => cases e
      | tup _ => cases e
      | ins _ _ => cases e
theorem src_ok {v : V} {r : R} {fp : List Addr} {q : Sq} {M' : Mst} (m : MR X.K X.mg w H M) (h : RR X.K X.mg w H M v r fp) (e : src M r = some (q, M')) : ∃ w', Ext fp w H M w' H M' ∧ MR X.K X.mg w' H M' ∧ SqAt X w'.F H v q := by
  unfold src at e
  cases z : peek M r with
  | some ds =>
    rw [z] at e
    cases e
    refine ⟨w, Ext.refl m, m, ?_⟩
    cases r with
    | t x => cases z
    | h k =>
      obtain ⟨hk, rfl, rfl⟩ := h
      unfold peek at z
      obtain ⟨x, hx⟩ : ∃ x, M[k]? = some x := ⟨M[k], List.getElem?_eq_getElem hk⟩
      have q := (m.obj k x hx).1
      dsimp only at z
      rw [getD_of hx] at z
      cases x with
      | lst ts =>
        generalize w.φ k = fp at q
        generalize hv : V.ref (w.α k) = v at q
        cases q with
        | lst h1 h2 h3 => cases hv; exact ⟨_, _, rfl, h1, allD_at h3 z⟩
      | d _ => cases z
      | tup _ => cases z
      | ins _ _ => cases z
  | none =>
    rw [z] at e
    obtain ⟨w', e', m', d, _⟩ := settle m h
    cases z2 : frzR M r with
    | lst ds => rw [z2] at e d; cases e; cases d with | lst hh l => exact ⟨w', e', m', _, _, rfl, m'.sub _ _ hh, l⟩
    | tup ds => rw [z2] at e d; cases e; cases d with | tup hh l => exact ⟨w', e', m', _, _, rfl, hh, l⟩
    | ro ds => rw [z2] at e d; cases e; cases d with | ro hh l => exact ⟨w', e', m', _, _, rfl, hh, l⟩
    | str s => rw [z2] at e d; cases e; cases d; exact ⟨w', e', m', rfl⟩
    | non => rw [z2] at e; cases e
    | bl _ => rw [z2] at e; cases e
    | int _ => rw [z2] at e; cases e
    | ins _ _ => rw [z2] at e; cases e
    | glo _ => rw [z2] at e; cases e
    | ty _ => rw [z2] at e; cases e
/-- a new list of data -/
theorem new_lst {q : Addr} {vs : List V} {ds : List D} (m : MR X.K X.mg w H M) (hq : H q = none) (h : DpL X.K X.mg w.F vs ds) : RR X.K X.mg w (upd H q (.lst vs)) M (.ref q) (.t (.lst (ds.map T.d))) [q] := RR.newL m hq h.trees List.nodup_nil fun _ z => nomatch z
theorem new_tupT {q : Addr} {vs : List V} {ds : List D} (m : MR X.K X.mg w H M) (hq : H q = none) (h : DpL X.K X.mg w.F vs ds) : RR X.K X.mg w (upd H q (.tup vs)) M (.ref q) (.t (.tup (ds.map T.d))) [q] := RR.newT m hq h.trees List.nodup_nil fun _ z => nomatch z
/-- the wish at a new list -/
theorem CE.lst {w' : Wd} {M' : Mst} {Q : VK} {q : Addr} {vs : List V} {ds : List D} (p : Post X W σ fs w H M (.ok (.t (.lst (ds.map T.d))) M') (CE X fs w H M Q)) (e : Ext fs w H M w' H M') (m : MR X.K X.mg w' H M') (hq : H q = none) (h : DpL X.K X.mg w'.F vs ds) : Q (.ref q) (upd H q (.lst vs)) :=
  p w' _ (e.trans0 (Ext.new m hq)) (m.new hq) _ [q] (new_lst m hq h) fun a ha => .inl (by rw [List.mem_singleton.mp ha]; exact hq)
theorem CE.tup {w' : Wd} {M' : Mst} {Q : VK} {q : Addr} {vs : List V} {ds : List D} (p : Post X W σ fs w H M (.ok (.t (.tup (ds.map T.d))) M') (CE X fs w H M Q)) (e : Ext fs w H M w' H M') (m : MR X.K X.mg w' H M') (hq : H q = none) (h : DpL X.K X.mg w'.F vs ds) : Q (.ref q) (upd H q (.tup vs)) :=
  p w' _ (e.trans0 (Ext.new m hq)) (m.new hq) _ [q] (new_tupT m hq h) fun a ha => .inl (by rw [List.mem_singleton.mp ha]; exact hq)
theorem CE.dat {w' : Wd} {M' : Mst} {Q : VK} {v : V} {d : D} (p : Post X W σ fs w H M (.ok (.t (.d d)) M') (CE X fs w H M Q)) (e : Ext fs w H M w' H M') (m : MR X.K X.mg w' H M') (h : Dp X.K X.mg w'.F v d) : Q v H :=
  p w' _ e m v [] (rr_d h) fun _ z => nomatch z

/-! ### a + b, a * k -/
def catR : R → R → Mst → Out R := fun r1 r2 M => match src M r1 with
  | none => .bad
  | some (q1, M1) => match src M1 r2 with
    | none => .bad
    | some (q2, M2) => match q1, q2 with
      | .l ds, .l es => if ds.length + es.length ≤ 1000000 then .ok (.t (.lst ((ds ++ es).map T.d))) M2 else .bad
      | .t ds, .t es => if ds.length + es.length ≤ 1000000 then (if ds.isEmpty then .ok (.t (.d (.tup es))) M2 else if es.isEmpty then .ok (.t (.d (.tup ds))) M2 else .ok (.t (.tup ((ds ++ es).map T.d))) M2) else .bad
      | .s x, .s y => if x.length + y.length ≤ strCap then .ok (.t (.d (.str (x ++ y)))) M2 else .bad
      | _, _ => .bad
def isSq : D → Bool
  | .int _ => false
  | _ => true
def addR : R → R → Mst → Out R := case2 (fun a _ => isSq a) catR (sc2 (iOp (fun _ _ => true) (· + ·)))
def rAdd (X : Cx) : R2 := fun x y H Q => (rCat x y H Q ∨ rCatA X.K x y H Q ∨ ∃ i j, x = .str i ∧ y = .str j ∧ i.length + j.length ≤ sizeLine ∧ Q (.str (i ++ j)) H) ∨ rI0 (fun i j => .int (i + j)) x y H Q
theorem or_add : OpR X (binaryOp .Add) (rAdd X) := OpR.or (OpR.or op_cat (OpR.or op_catA op_add_str)) op_add
theorem SqAt.stay {w' : Wd} {H' : Hp} {M' : Mst} {v : V} {q : Sq} (h : SqAt X w.F H v q) (hF : Same w.F w'.F) : SqAt X w'.F H v q := by
  cases q with
  | l ds => obtain ⟨a, vs, h1, h2, h3⟩ := h; exact ⟨a, vs, h1, h2, h3.mono hF⟩
  | t ds => obtain ⟨a, vs, h1, h2, h3⟩ := h; exact ⟨a, vs, h1, Same.seqT hF h2, h3.mono hF⟩
  | ro ds => obtain ⟨a, vs, h1, h2, h3⟩ := h; exact ⟨a, vs, h1, hF.seq h2, h3.mono hF⟩
  | s x => exact h
theorem DpL.nil_iff {F : Hp} {vs : List V} {ds : List D} (h : DpL X.K X.mg F vs ds) : vs = [] ↔ ds = [] := by cases h <;> simp
theorem op2_cat : Op2 X catR (fun x y H Q => rCat x y H Q ∨ rCatA X.K x y H Q ∨ ∃ i j, x = .str i ∧ y = .str j ∧ i.length + j.length ≤ sizeLine ∧ Q (.str (i ++ j)) H) := by
  intro W σ w H M x y r1 r2 f1 f2 Q m q1 q2 dj p
  unfold catR at p
  cases z1 : src M r1 with
  | none => rw [z1] at p; exact p.elim
  | some s1 =>
    obtain ⟨s1, M1⟩ := s1
    obtain ⟨w1, e1, m1, a1⟩ := src_ok m q1 z1
    have q2' := q2.stay e1 fun a ha hb => dj a hb ha
    rw [z1] at p
    dsimp only at p
    cases z2 : src M1 r2 with
    | none => rw [z2] at p; exact p.elim
    | some s2 =>
      obtain ⟨s2, M2⟩ := s2
      obtain ⟨w2, e2, m2, a2⟩ := src_ok m1 q2' z2
      rw [z2] at p
      have e12 : Ext (f1 ++ f2) w H M w2 H M2 := (e1.mono fun a ha => List.mem_append_left _ ha).trans e2 fun a ha => .inr (.inr (List.mem_append_right _ ha))
      have a1 := a1.stay (H' := H) (M' := M2) e2.F
      cases s1 with
      | ro ds => cases s2 <;> exact p.elim
      | l ds =>
        cases s2 with
        | l es =>
          dsimp only at p
          split at p
          · rename_i hl
            obtain ⟨a, vs, rfl, h1, h2⟩ := a1
            obtain ⟨b, us, rfl, h3, h4⟩ := a2
            exact .inl ⟨a, b, vs, us, rfl, rfl, h1, h3, by rw [h2.length, h4.length]; exact big_le hl, fun q hq => CE.lst p e12 m2 hq (h2.append h4)⟩
          · exact p.elim
        | t _ => exact p.elim
        | ro _ => exact p.elim
        | s _ => exact p.elim
      | t ds =>
        cases s2 with
        | t es =>
          dsimp only at p
          obtain ⟨a, vs, rfl, h1, h2⟩ := a1
          obtain ⟨b, us, rfl, h3, h4⟩ := a2
          have h1' := Same.seqT m2.sub h1
          have h3' := Same.seqT m2.sub h3
          split at p
          · rename_i hl
            refine .inr (.inl ⟨a, b, vs, us, rfl, rfl, h1', h3', by rw [h2.length, h4.length]; exact big_le hl, fun z => ?_, fun z1 z2 => ?_, fun z1 z2 q hq => ?_⟩)
            · have hd := (h2.nil_iff).mp z
              rw [if_pos (by rw [hd]; rfl)] at p
              exact CE.dat p e12 m2 (.tup h3 h4)
            · have hd := (h4.nil_iff).mp z2
              have hd1 : ds ≠ [] := fun q => z1 ((h2.nil_iff).mpr q)
              rw [if_neg (by simpa using hd1), if_pos (by rw [hd]; rfl)] at p
              exact CE.dat p e12 m2 (.tup h1 h2)
            · have hd1 : ds ≠ [] := fun q => z1 ((h2.nil_iff).mpr q)
              have hd2 : es ≠ [] := fun q => z2 ((h4.nil_iff).mpr q)
              rw [if_neg (by simpa using hd1), if_neg (by simpa using hd2)] at p
              exact CE.tup p e12 m2 hq (h2.append h4)
          · exact p.elim
        | l _ => exact p.elim
        | ro _ => exact p.elim
        | s _ => exact p.elim
      | s x' =>
        cases s2 with
        | s y' =>
          dsimp only at p
          split at p
          · rename_i hl
            cases a1; cases a2
            exact .inr (.inr ⟨x', y', rfl, rfl, Nat.le_trans hl cap_le, CE.dat p e12 m2 (.str _)⟩)
          · exact p.elim
        | l _ => exact p.elim
        | ro _ => exact p.elim
        | t _ => exact p.elim
theorem op2_add : Op2 X addR (rAdd X) := Op2.case op2_cat op2_i0

/-! ### slices -/
def cutD (xs : List D) (lo hi : Option Int) : List D := (xs.drop (HT.sIx xs.length 0 lo)).take (HT.sIx xs.length xs.length hi - HT.sIx xs.length 0 lo)
theorem DpL.cut {F : Hp} {vs : List V} {ds : List D} (h : DpL X.K X.mg F vs ds) (lo hi : Option Int) : DpL X.K X.mg F (cutV vs lo hi) (cutD ds lo hi) := by
  unfold cutV cutD
  rw [h.length]
  exact (h.drop _).take _
def slR (lo hi : Option Int) : R → Mst → Out R := fun r M => match src M r with
  | some (.l ds, M1) => .ok (.t (.lst ((cutD ds lo hi).map T.d))) M1
  | some (.ro ds, M1) => .ok (.t (.lst ((cutD ds lo hi).map T.d))) M1
  | some (.t ds, M1) => if HT.sIx ds.length 0 lo = 0 ∧ HT.sIx ds.length ds.length hi = ds.length then .ok (.t (.d (.tup ds))) M1 else .ok (.t (.tup ((cutD ds lo hi).map T.d))) M1
  | some (.s x, M1) => if x.length ≤ strCap then .ok (.t (.d (.str (cutS x lo hi)))) M1 else .bad
  | none => .bad
abbrev DenO := Ev → Mst → Out (Option Int)
def oNone : DenO := fun _ M => .ok none M
def oSome (F : Den) : DenO := fun ρ M => (F ρ M).bind fun r M1 => match frzR M1 r with
  | .int i => .ok (some i) M1
  | _ => .bad
def rdO (X : Cx) (W : WX) (F : DenO) : TO := fun σ H Q => ∃ w ρ M, MR X.K X.mg w H M ∧ ER X.K X.mg w M σ ρ ∧ Post X W σ [] w H M (F ρ M) (fun _ H' _ b => Q b H')
def DO (X : Cx) (W : WX) (e : Option Expr) (F : DenO) : Prop := PO X e (rdO X W F)
theorem _root_.L2.PO.mono {e : Option Expr} {t t' : TO} (h : PO X e t) (k : ∀ σ H Q, t' σ H Q → t σ H Q) : PO X e t' := ⟨fun pins s σ H Q I q => h.run pins s σ H Q I (k _ _ _ q)⟩
theorem do_none : DO X W none oNone := po_none.mono fun σ H Q h => by
  obtain ⟨w, ρ, M, m, er, p⟩ := h
  exact p.now m
theorem do_some (h : DE X W e F) : DO X W (some e) (oSome F) := (po_some h).mono fun σ H Q h => by
  obtain ⟨w, ρ, M, m, er, p⟩ := h
  refine ⟨w, ρ, M, m, er, p.bindF.imp fun w1 H1 M1 r _ _ z => ?_⟩
  obtain ⟨e1, m1, p1⟩ := z
  intro v fp q hf
  replace p1 := p1 [] fun _ z => nomatch z
  have s := seen m1 q
  split at p1
  · rename_i i hi
    rw [hi] at s
    cases s
    exact ⟨i, rfl, p1.now m1⟩
  · exact p1.elim
def eSl (F : Den) (L U : DenO) : Den := fun ρ M => (F ρ M).bind fun r M1 => (L ρ M1).bind fun lo M2 => (U ρ M2).bind fun hi M3 => slR lo hi r M3
theorem de_slice {lo hi : Option Expr} {L U : DenO} (he : DE X W e F) (hl : DO X W lo L) (hu : DO X W hi U) : DE X W (.Subscript e (.Slice lo hi none p2) pos) (eSl F L U) :=
  (pe_slice (SlR.or sl_list (SlR.or sl_tupA sl_str)) he hl hu).mono fun σ H Q h => by
    obtain ⟨w, ρ, M, m, er, p⟩ := h
    refine ⟨w, ρ, M, m, er, p.bindF.imp fun w1 H1 M1 r _ _ z => ?_⟩
    obtain ⟨e1, m1, p1⟩ := z
    intro v fp q hf
    refine ⟨w1, ρ, M1, m1, er.stay e1, (p1 fp hf).bindF.imp fun w2 H2 M2 lo _ _ z => ?_⟩
    obtain ⟨e2, m2, p2⟩ := z
    refine ⟨w2, ρ, M2, m2, (er.stay e1).stay e2, (p2 fp fun a ha => .inr (.inr ha)).bindF.imp fun w3 H3 M3 hi _ _ z => ?_⟩
    obtain ⟨e3, m3, p3⟩ := z
    have q3 := (q.stay e2 fun _ _ z => nomatch z).stay e3 fun _ _ z => nomatch z
    have e13 : Ext [] w H M w3 H3 M3 := (e1.trans0 e2).trans0 e3
    have p4 : Post X W σ fp w3 H3 M3 (slR lo hi r M3) (CE X fp w3 H3 M3 Q) := (p3 fp fun a ha => .inr (.inr ha)).imp fun _ _ _ _ _ _ q => q.from e13 hf
    unfold slR at p4
    cases z : src M3 r with
    | none => rw [z] at p4; exact p4.elim
    | some s =>
      obtain ⟨s, M4⟩ := s
      obtain ⟨w4, e4, m4, a4⟩ := src_ok m3 q3 z
      rw [z] at p4
      cases s with
      | l ds =>
        obtain ⟨a, vs, rfl, h1, h2⟩ := a4
        exact .inl ⟨a, vs, rfl, SqL.of h1, fun q hq => CE.lst p4 e4 m4 hq (h2.cut lo hi)⟩
      | ro ds =>
        obtain ⟨a, vs, rfl, h1, h2⟩ := a4
        exact .inl ⟨a, vs, rfl, m4.sub.seq h1, fun q hq => CE.lst p4 e4 m4 hq (h2.cut lo hi)⟩
      | t ds =>
        obtain ⟨a, vs, rfl, h1, h2⟩ := a4
        dsimp only at p4
        refine .inr (.inl ⟨a, vs, rfl, Same.seqT m4.sub h1, fun z => ?_, fun z q hq => ?_⟩)
        · rw [h2.length] at z
          rw [if_pos z] at p4
          exact CE.dat p4 e4 m4 (.tup h1 h2)
        · rw [h2.length] at z
          rw [if_neg z] at p4
          exact CE.tup p4 e4 m4 hq (h2.cut lo hi)
      | s x =>
        dsimp only at p4
        split at p4
        · rename_i hl
          cases a4
          exact .inr (.inr ⟨x, rfl, Nat.le_trans hl cap_le, CE.dat p4 e4 m4 (.str _)⟩)
        · exact p4.elim

/-! ### items -/
def elems (M : Mst) : R → Option (List T)
  | .t (.lst ts) => some ts
  | .t (.tup ts) => some ts
  | .t (.d (.lst ds)) => some (ds.map T.d)
  | .t (.d (.tup ds)) => some (ds.map T.d)
  | .t _ => none
  | .h k => match M.getD k (.d .non) with
    | .lst ts => (allD ts).map fun ds => ds.map T.d
    | .d (.lst ds) => some (ds.map T.d)
    | .d (.tup ds) => some (ds.map T.d)
    | _ => none
theorem elems_ok {v : V} {r : R} {fp : List Addr} {ts : List T} (m : MR X.K X.mg w H M) (h : RR X.K X.mg w H M v r fp) (e : elems M r = some ts) :
    ∃ a vs f, v = .ref a ∧ (SqL X.K H a vs ∨ SqT X.K H a vs) ∧ TRL X.K X.mg w.F H vs ts f ∧ f.Nodup ∧ (∀ b ∈ f, b ∈ fp) ∧ ∀ b ∈ f, ∀ k, k < M.length → b ∉ w.φ k := by
  cases r with
  | t x =>
    obtain ⟨h1, h2, h3⟩ := h
    cases x with
    | lst ts' =>
      cases e
      cases h1 with
      | lst q1 q2 q3 => exact ⟨_, _, _, rfl, .inl (SqL.of q1), q3, (List.nodup_cons.mp h2).2, fun b hb => List.mem_cons_of_mem _ hb, fun b hb => h3 b (List.mem_cons_of_mem _ hb)⟩
    | tup ts' =>
      cases e
      cases h1 with
      | tup q1 q2 q3 => exact ⟨_, _, _, rfl, .inr (SqT.of q1), q3, (List.nodup_cons.mp h2).2, fun b hb => List.mem_cons_of_mem _ hb, fun b hb => h3 b (List.mem_cons_of_mem _ hb)⟩
    | ins c fs => cases e
    | d d =>
      cases h1 with
      | d h1 =>
        cases d with
        | lst ds => cases e; cases h1 with | lst q1 q2 => exact ⟨_, _, [], rfl, .inl (SqL.of (m.sub _ _ q1)), q2.trees, List.nodup_nil, (fun _ z => nomatch z), fun _ z => nomatch z⟩
        | tup ds => cases e; cases h1 with | tup q1 q2 => exact ⟨_, _, [], rfl, .inr (Same.seqT m.sub q1), q2.trees, List.nodup_nil, (fun _ z => nomatch z), fun _ z => nomatch z⟩
        | non => cases e
        | bl _ => cases e
        | int _ => cases e
        | str _ => cases e
        | ins _ _ => cases e
        | glo _ => cases e
        | ty _ => cases e
        | ro _ => cases e
  | h k =>
    obtain ⟨hk, rfl, rfl⟩ := h
    obtain ⟨x, hx⟩ : ∃ x, M[k]? = some x := ⟨M[k], List.getElem?_eq_getElem hk⟩
    have q := (m.obj k x hx).1
    unfold elems at e
    dsimp only at e
    rw [getD_of hx] at e
    generalize w.φ k = fp at q
    generalize hv : V.ref (w.α k) = v at q
    cases q with
    | lst h1 h2 h3 =>
      dsimp only at e
      rename_i ts0 _
      cases z : allD ts0 with
      | none => rw [z] at e; cases e
      | some ds =>
        rw [z] at e
        cases e
        cases hv
        exact ⟨_, _, [], rfl, .inl (SqL.of h1), (allD_at h3 z).trees, List.nodup_nil, (fun _ z => nomatch z), fun _ z => nomatch z⟩
    | d h1 =>
      cases h1 with
      | lst q1 q2 => cases e; cases hv; exact ⟨_, _, [], rfl, .inl (SqL.of (m.sub _ _ q1)), q2.trees, List.nodup_nil, (fun _ z => nomatch z), fun _ z => nomatch z⟩
      | tup q1 q2 => cases e; cases hv; exact ⟨_, _, [], rfl, .inr (Same.seqT m.sub q1), q2.trees, List.nodup_nil, (fun _ z => nomatch z), fun _ z => nomatch z⟩
      | non => cases e
      | bl _ => cases e
      | int _ => cases e
      | str _ => cases e
      | ro _ _ => cases e
      | ins _ _ _ => cases e
      | glo _ => cases e
      | ty _ => cases e
    | tup h1 h2 h3 => cases e
    | ins h1 h2 h3 h4 => cases e
theorem trl_get : ∀ {vs : List V} {ts : List T} {f : List Addr} {i : Nat} {t : T}, TRL X.K X.mg w.F H vs ts f → f.Nodup → ts[i]? = some t → ∃ v f', vs[i]? = some v ∧ TR X.K X.mg w.F H v t f' ∧ f'.Nodup ∧ ∀ b ∈ f', b ∈ f
  | _, _, _, _, _, .nil, _, e => by simp at e
  | _, _, _, 0, _, .cons h _, nd, e => by simp at e; subst e; exact ⟨_, _, rfl, h, (List.nodup_append.mp nd).1, fun b hb => List.mem_append_left _ hb⟩
  | _, _, _, i + 1, _, .cons _ r, nd, e => by
    obtain ⟨v, f', h1, h2, h3, h4⟩ := trl_get (i := i) r (List.nodup_append.mp nd).2.1 (by simpa using e)
    exact ⟨v, f', by simpa using h1, h2, h3, fun b hb => List.mem_append_right _ (h4 b hb)⟩
def getR : R → R → Mst → Out R := fun r1 r2 M => match frzR M r2 with
  | .int i => (match elems M r1 with
    | some ts => (match atI ts i with
      | some t => .ok (.t t) M
      | none => .bad)
    | none => (match frzR M r1 with
      | .str x => (match atI x.cps.toList i with
        | some c => if x.length ≤ strCap then .ok (.t (.d (.str ⟨#[c]⟩))) M else .bad
        | none => .bad)
      | _ => .bad))
  | _ => .bad
theorem op2_get : Op2 X getR (rIx X.K) := by
  intro W σ w H M x y r1 r2 f1 f2 Q m q1 q2 dj p
  unfold getR at p
  have s2 := seen m q2
  split at p
  · rename_i i hi
    rw [hi] at s2
    cases s2
    split at p
    · rename_i ts hts
      obtain ⟨a, vs, f, rfl, hs, q, nd, hf, hφ⟩ := elems_ok m q1 hts
      split at p
      · rename_i t ht
        have hl := q.length
        unfold atI at ht
        cases z : ixN ts.length i with
        | none => rw [z] at ht; cases ht
        | some j =>
          rw [z] at ht
          obtain ⟨v, f', h1, h2, h3, h4⟩ := trl_get q nd (show ts[j]? = some t from ht)
          have ev : atI vs i = some v := by unfold atI; rw [hl, z]; exact h1
          have fin : Q v H := (p.now m) v f' ⟨h2, h3, fun b hb => hφ b (h4 b hb)⟩ fun b hb => .inr (.inr (List.mem_append_left _ (hf b (h4 b hb))))
          rcases hs with hs | hs
          · exact .inl ⟨a, vs, i, v, rfl, rfl, hs, ev, fin⟩
          · exact .inr (.inl ⟨a, vs, i, v, rfl, rfl, hs, ev, fin⟩)
      · exact p.elim
    · have s1 := seen m q1
      split at p
      · rename_i z hz
        rw [hz] at s1
        cases s1
        split at p
        · rename_i c hc
          split at p
          · rename_i hl
            exact .inr (.inr ⟨z, i, c, rfl, rfl, Nat.le_trans hl cap_le, hc, (p.now m).val (C := fun _ => r1) (.str _)⟩)
          · exact p.elim
        · exact p.elim
      · exact p.elim
  · exact p.elim
theorem de_get (ha : DE X W a Fa) (hb : DE X W b Fb) (hs : PlainIx b := by exact fun _ _ => rfl) : DE X W (.Subscript a b pos) (eSeq2 getR Fa Fb) := (pe_ix ix_seq ha hb hs).mono fun _ _ _ h => rd_op op2_get h
end
end DL

/-! DL11: ==, in, isinstance, built-in functions -/
namespace DL
open PySem L2 PySem.Spec PyProof.Rows
/-! ### data as the library has it -/
mutual
def pyd : D → PyData
  | .non => .none
  | .bl b => .bool b
  | .int i => .int i
  | .str x => .str x
  | .lst ds => .list (pydL ds)
  | .tup ds => .tuple (pydL ds)
  | .ins _ _ => .dict []
  | .glo _ => .dict []
  | .ty _ => .dict []
  | .ro _ => .dict []
def pydL : List D → List PyData
  | [] => []
  | d :: r => pyd d :: pydL r
end
def okD : Nat → D → Bool
  | _, .non => true
  | _, .bl _ => true
  | _, .int _ => true
  | _, .str x => PyData.strOk x
  | 0, _ => false
  | n + 1, .lst ds => ds.all (okD n)
  | n + 1, .tup ds => ds.all (okD n)
  | _ + 1, _ => false
section
variable {K : PySem.W.Frag} {mg : Mg} {H : Hp}
mutual
theorem Dp.py : ∀ (n : Nat) {v : V} {d : D}, Dp K mg H v d → okD n d = true → L2.Dp K H v (pyd d)
  | _, _, _, .non, _ => by unfold pyd; exact .non
  | _, _, _, .bl b, _ => by unfold pyd; exact .bl b
  | _, _, _, .int i, _ => by unfold pyd; exact .int i
  | _, _, _, .str x, _ => by unfold pyd; exact .str x
  | n + 1, _, _, .lst h l, o => by unfold pyd; exact .lst (SqL.of h) (DpL.py n l (by simpa [okD] using o))
  | n + 1, _, _, .tup h l, o => by unfold pyd; exact .tup h (DpL.py n l (by simpa [okD] using o))
  | 0, _, _, .lst h l, o => by simp [okD] at o
  | 0, _, _, .tup h l, o => by simp [okD] at o
  | n, _, _, .ro h l, o => by cases n <;> simp [okD] at o
  | n, _, _, .ins h l _, o => by cases n <;> simp [okD] at o
  | n, _, _, .glo h, o => by cases n <;> simp [okD] at o
  | n, _, _, .ty _, o => by cases n <;> simp [okD] at o
theorem DpL.py : ∀ (n : Nat) {v : List V} {d : List D}, DpL K mg H v d → (∀ x ∈ d, okD n x = true) → L2.DpAll K H v (pydL d)
  | _, _, _, .nil, _ => by unfold pydL; exact .nil
  | n, _, _, .cons h r, o => by unfold pydL; exact .cons (Dp.py n h (o _ List.mem_cons_self)) (DpL.py n r fun x hx => o x (List.mem_cons_of_mem _ hx))
end
theorem pydL_map (ds : List D) : pydL ds = ds.map pyd := by
  induction ds with
  | nil => rfl
  | cons x r ih => simp [pydL, ih]
theorem lay_all {ds : List PyData} (h : ∀ x ∈ ds, x.canLay0 = true) : PyData.canLayAll0 ds = true := by
  induction ds with
  | nil => rfl
  | cons x r ih => simp only [PyData.canLayAll0, Bool.and_eq_true]; exact ⟨h x List.mem_cons_self, ih fun y hy => h y (List.mem_cons_of_mem _ hy)⟩
theorem depth_all {ds : List PyData} {n : Nat} (h : ∀ x ∈ ds, x.depth ≤ n) : PyData.depthAll ds ≤ n := by
  induction ds with
  | nil => exact Nat.zero_le _
  | cons x r ih => simp only [PyData.depthAll]; exact Nat.max_le.mpr ⟨h x List.mem_cons_self, ih fun y hy => h y (List.mem_cons_of_mem _ hy)⟩
theorem okD_shape : ∀ (n : Nat) (d : D), okD n d = true → (pyd d).canLay0 = true ∧ (pyd d).depth ≤ n
  | n, .non, _ => ⟨by simp [pyd, PyData.canLay0], by simp [pyd, PyData.depth]⟩
  | n, .bl _, _ => ⟨by simp [pyd, PyData.canLay0], by simp [pyd, PyData.depth]⟩
  | n, .int _, _ => ⟨by simp [pyd, PyData.canLay0], by simp [pyd, PyData.depth]⟩
  | n, .str x, h => ⟨by cases n <;> simpa [pyd, PyData.canLay0, okD] using h, by simp [pyd, PyData.depth]⟩
  | n + 1, .lst ds, h => by
    have o : ∀ x ∈ ds, okD n x = true := by simpa [okD] using h
    simp only [pyd, PyData.canLay0, PyData.depth, pydL_map]
    refine ⟨lay_all fun x hx => ?_, Nat.succ_le_succ (depth_all fun x hx => ?_)⟩
    · obtain ⟨d, hd, rfl⟩ := List.mem_map.mp hx
      exact (okD_shape n d (o d hd)).1
    · obtain ⟨d, hd, rfl⟩ := List.mem_map.mp hx
      exact (okD_shape n d (o d hd)).2
  | n + 1, .tup ds, h => by
    have o : ∀ x ∈ ds, okD n x = true := by simpa [okD] using h
    simp only [pyd, PyData.canLay0, PyData.depth, pydL_map]
    refine ⟨lay_all fun x hx => ?_, Nat.succ_le_succ (depth_all fun x hx => ?_)⟩
    · obtain ⟨d, hd, rfl⟩ := List.mem_map.mp hx
      exact (okD_shape n d (o d hd)).1
    · obtain ⟨d, hd, rfl⟩ := List.mem_map.mp hx
      exact (okD_shape n d (o d hd)).2
  | 0, .lst _, h => by simp [okD] at h
  | 0, .tup _, h => by simp [okD] at h
  | n, .ro _, h => by cases n <;> simp [okD] at h
  | n, .ins _ _, h => by cases n <;> simp [okD] at h
  | n, .glo _, h => by cases n <;> simp [okD] at h
  | n, .ty _, h => by cases n <;> simp [okD] at h
theorem okD_shaped {n : Nat} {d : D} (hn : n ≤ 64) (h : okD n d = true) : SeqAt.shaped (pyd d) = true := by
  obtain ⟨h1, h2⟩ := okD_shape n d h
  unfold SeqAt.shaped
  rw [h1, Bool.true_and, decide_eq_true (Nat.le_trans h2 hn)]
end
def eqv (a b : D) : Bool := PyData.eqv (pyd a) (pyd b)
def eqOp (a b : D) : Option D := if okD 12 a = true ∧ okD 12 b = true then some (.bl (eqv a b)) else none
def neOp (a b : D) : Option D := if okD 12 a = true ∧ okD 12 b = true then some (.bl (!eqv a b)) else none
def strEq : D → D → Option D
  | .str x, .str y => some (.bl (decide (x = y)))
  | _, _ => none
def strNe : D → D → Option D
  | .str x, .str y => some (.bl (!decide (x = y)))
  | _, _ => none
def isStr : D → Bool
  | .str _ => true
  | _ => false
def eqR : R → R → Mst → Out R := case2 (fun a b => isStr a && isStr b) (sc2 strEq) (sc2 eqOp)
def neR : R → R → Mst → Out R := case2 (fun a b => isStr a && isStr b) (sc2 strNe) (sc2 neOp)
def flatD : D → Bool
  | .non => true
  | .bl _ => true
  | .int _ => true
  | .str _ => true
  | _ => false
def memD (x : D) (ds : List D) : Bool := ds.any fun y => eqv y x
def inOp (neg : Bool) (x c : D) : Option D := match c with
  | .lst ds => if (flatD x = true ∧ ds.all flatD = true) ∨ (okD 12 x = true ∧ okD 12 (.lst ds) = true) then some (.bl (if neg then !memD x ds else memD x ds)) else none
  | .tup ds => if flatD x = true ∧ ds.all flatD = true then some (.bl (if neg then !memD x ds else memD x ds)) else none
  | .str z => (match x with
    | .str y => (match y.cps.toList with
      | [a] => some (.bl (if neg then !decide (a ∈ z.cps.toList) else decide (a ∈ z.cps.toList)))
      | _ => none)
    | _ => none)
  | _ => none
section
variable {X : Cx} {W : WX} {σ : L2.St} {fs gs : List Addr} {w w2 : Wd} {H H2 : Hp} {M M2 : Mst}
variable {e o a b c : Expr} {es : List Expr} {F Fa Fb Fc : Den} {A : DenA} {pos p apos cpos p2 : Pos} {x m : Str}
theorem or_eq (hu : X.A.units + 64 < cLine) : OpR X (compareOp .Eq) (fun x y H Q => rEq x y H Q ∨ rEqD X.K x y H Q) := OpR.or op_eq (op_eqD hu)
theorem or_ne (hu : X.A.units + 64 < cLine) : OpR X (compareOp .NotEq) (fun x y H Q => rNe x y H Q ∨ rNeD X.K x y H Q) := OpR.or op_ne (op_neD hu)
theorem dec_strV (x y : Str) : decide (V.str x = V.str y) = decide (x = y) := by
  by_cases h : x = y
  · rw [h]; simp
  · rw [decide_eq_false h, decide_eq_false fun z => h (V.str.inj z)]
theorem op2_eq : Op2 X eqR (fun x y H Q => rEq x y H Q ∨ rEqD X.K x y H Q) := Op2.case (op2_sc fun F H x y d1 d2 d Q h1 h2 hd q => by
    unfold strEq at hd
    split at hd
    · cases h1; cases h2; cases hd
      exact ⟨rfl, by rw [dec_strV]; exact q _ (.bl _)⟩
    · cases hd) (op2_sc fun F H x y d1 d2 d Q h1 h2 hd q => by
    unfold eqOp at hd
    split at hd
    · rename_i hk
      cases hd
      exact ⟨_, _, Dp.py 12 h1 hk.1, Dp.py 12 h2 hk.2, okD_shaped (by decide) hk.1, okD_shaped (by decide) hk.2, q _ (.bl _)⟩
    · cases hd)
theorem op2_ne : Op2 X neR (fun x y H Q => rNe x y H Q ∨ rNeD X.K x y H Q) := Op2.case (op2_sc fun F H x y d1 d2 d Q h1 h2 hd q => by
    unfold strNe at hd
    split at hd
    · cases h1; cases h2; cases hd
      exact ⟨rfl, by rw [dec_strV]; exact q _ (.bl _)⟩
    · cases hd) (op2_sc fun F H x y d1 d2 d Q h1 h2 hd q => by
    unfold neOp at hd
    split at hd
    · rename_i hk
      cases hd
      exact ⟨_, _, Dp.py 12 h1 hk.1, Dp.py 12 h2 hk.2, okD_shaped (by decide) hk.1, okD_shaped (by decide) hk.2, q _ (.bl _)⟩
    · cases hd)
theorem flat_V {K : PySem.W.Frag} {mg : Mg} {F : Hp} {v : V} {d : D} (h : Dp K mg F v d) (f : flatD d = true) : flatV v = true := by cases h <;> first | rfl | cases f
theorem flat_eqv {K : PySem.W.Frag} {mg : Mg} {F : Hp} {v u : V} {d e : D} (h : Dp K mg F v d) (f : flatD d = true) (h' : Dp K mg F u e) (f' : flatD e = true) : eqV v u = eqv d e := by
  cases h <;> first | (cases f) | skip
  all_goals (cases h' <;> first | (simp [eqV, eqv, pyd, PyData.eqv]; done) | (cases f'))
theorem flat_mem {K : PySem.W.Frag} {mg : Mg} {F : Hp} {v : V} {d : D} (h : Dp K mg F v d) (f : flatD d = true) : ∀ {vs : List V} {ds : List D}, DpL K mg F vs ds → ds.all flatD = true → vs.all flatV = true ∧ inV v vs = memD d ds
  | _, _, .nil, _ => ⟨rfl, rfl⟩
  | _, _, .cons h' r, g => by
    rw [List.all_cons, Bool.and_eq_true] at g
    obtain ⟨i1, i2⟩ := flat_mem h f r g.2
    refine ⟨by rw [List.all_cons, flat_V h' g.1, i1]; rfl, ?_⟩
    unfold inV memD at i2 ⊢
    rw [List.any_cons, List.any_cons, i2, flat_eqv h' g.1 h f]
def rInA (X : Cx) (neg : Bool) : R2 := fun x y H Q => (rIn X.K neg x y H Q ∨ (if neg then rNotInD X.K else rInD X.K) x y H Q) ∨ ∃ (c : Nat) (z : Str), x = .str ⟨#[c]⟩ ∧ y = .str z ∧ Q (.bl (if neg then !decide (c ∈ z.cps.toList) else decide (c ∈ z.cps.toList))) H
theorem or_in (hu : X.A.units + 65 < cLine) : OpR X (compareOp .In) (rInA X false) := OpR.or (OpR.or op_in_seq (op_inD hu)) op_in_sign
theorem or_notIn (hu : X.A.units + 65 < cLine) : OpR X (compareOp .NotIn) (rInA X true) := OpR.or (OpR.or op_notIn_seq (op_notInD hu)) op_notIn_sign
theorem mem_py {d : D} : ∀ {ds : List D}, ((pydL ds).any fun z => PyData.eqv z (pyd d)) = memD d ds
  | [] => rfl
  | x :: r => by
    unfold memD pydL
    rw [List.any_cons, List.any_cons, mem_py]
    rfl
theorem op2_in (neg : Bool) : Op2 X (sc2 (inOp neg)) (rInA X neg) := op2_sc fun F H x y d1 d2 d Q h1 h2 hd q => by
  unfold inOp at hd
  split at hd
  · split at hd
    · rename_i ds hk
      cases hd
      rcases hk with hk | hk
      · cases h2 with
        | lst h l =>
          obtain ⟨g1, g2⟩ := flat_mem h1 hk.1 l hk.2
          exact .inl (.inl ⟨_, _, rfl, .inl (SqL.of h), flat_V h1 hk.1, g1, by rw [g2]; exact q _ (.bl _)⟩)
      · have h2' := Dp.py 12 h2 hk.2
        refine .inl (.inr ?_)
        have s1 := okD_shaped (by decide) hk.1
        have s2 := okD_shaped (by decide) hk.2
        unfold pyd at h2' s2
        cases neg with
        | true => exact ⟨_, _, Dp.py 12 h1 hk.1, h2', s1, s2, by rw [mem_py]; exact q _ (.bl _)⟩
        | false => exact ⟨_, _, Dp.py 12 h1 hk.1, h2', s1, s2, by rw [mem_py]; exact q _ (.bl _)⟩
    · cases hd
  · split at hd
    · rename_i ds hk
      cases hd
      cases h2 with
      | tup h l =>
        obtain ⟨g1, g2⟩ := flat_mem h1 hk.1 l hk.2
        exact .inl (.inl ⟨_, _, rfl, .inr h, flat_V h1 hk.1, g1, by rw [g2]; exact q _ (.bl _)⟩)
    · cases hd
  · split at hd
    · rename_i z _ y
      split at hd
      · rename_i c hc
        cases hd
        cases h1; cases h2
        have ey : y = ⟨#[c]⟩ := by
          cases y with
          | mk cps =>
            have : cps = #[c] := by
              apply Array.toList_inj.mp
              rw [hc]
            rw [this]
        exact .inr ⟨c, _, by rw [ey], rfl, q _ (.bl _)⟩
      · cases hd
    · cases hd
  · cases hd
/-! ### is None -/
def isNonD : D → Bool
  | .non => true
  | _ => false
def isN (neg : Bool) (a b : D) : Option D := if isNonD b = true then some (.bl (if neg then !isNonD a else isNonD a)) else none
theorem non_dec {K : PySem.W.Frag} {mg : Mg} {F : Hp} {v : V} {d : D} (h : Dp K mg F v d) : decide (v = .non) = isNonD d := by cases h <;> simp [isNonD]
theorem op2_isN : Op2 X (sc2 (isN false)) (fun x y H Q => y = .non ∧ Q (.bl (decide (x = .non))) H) := op2_sc fun F H x y d1 d2 d Q h1 h2 hd q => by
  unfold isN at hd
  split at hd
  · rename_i hk
    cases hd
    cases h2 <;> first | (cases hk) | skip
    exact ⟨rfl, by rw [non_dec h1]; exact q _ (.bl _)⟩
  · cases hd
theorem op2_notN : Op2 X (sc2 (isN true)) (fun x y H Q => y = .non ∧ Q (.bl (!decide (x = .non))) H) := op2_sc fun F H x y d1 d2 d Q h1 h2 hd q => by
  unfold isN at hd
  split at hd
  · rename_i hk
    cases hd
    cases h2 <;> first | (cases hk) | skip
    exact ⟨rfl, by rw [non_dec h1]; exact q _ (.bl _)⟩
  · cases hd

/-! ### a * b, // % ** -/
def mulC (i j : Int) : Bool := (decide (-(2 ^ 64) < i) && decide (i < 2 ^ 64)) || (decide (-(2 ^ 64) < j) && decide (j < 2 ^ 64))
def repR : R → R → Mst → Out R := fun r1 r2 M => match src M r1 with
  | some (.l ds, M1) => (match frzR M1 r2 with
    | .int k => if k < 1000000 ∧ -1000000 < k ∧ ds.length * k.toNat ≤ 1000000 then .ok (.t (.lst ((List.replicate k.toNat ds).flatten.map T.d))) M1 else .bad
    | _ => .bad)
  | _ => .bad
def mulR : R → R → Mst → Out R := case2 (fun a _ => isSq a) repR (sc2 (iOp mulC (· * ·)))
theorem DpL.flat {F : Hp} {vs : List V} {ds : List D} (h : DpL X.K X.mg F vs ds) : ∀ n : Nat, DpL X.K X.mg F (List.replicate n vs).flatten (List.replicate n ds).flatten
  | 0 => .nil
  | n + 1 => by
    rw [List.replicate_succ, List.replicate_succ, List.flatten_cons, List.flatten_cons]
    exact h.append (DpL.flat h n)
theorem or_mul : OpR X (binaryOp .Mult) (fun x y H Q => rRep x y H Q ∨ rI CMul (fun i j => .int (i * j)) x y H Q) := OpR.or op_rep op_mul
theorem op2_mul : Op2 X mulR (fun x y H Q => rRep x y H Q ∨ rI CMul (fun i j => .int (i * j)) x y H Q) := by
  refine Op2.case ?_ (op2_i fun i j h => ?_)
  · intro W σ w H M x y r1 r2 f1 f2 Q m q1 q2 dj p
    unfold repR at p
    split at p
    · rename_i ds M1 z
      obtain ⟨w1, e1, m1, a1⟩ := src_ok m q1 z
      have q2' := q2.stay e1 fun a ha hb => dj a hb ha
      have s2 := seen m1 q2'
      split at p
      · rename_i k hk
        rw [hk] at s2
        cases s2
        split at p
        · rename_i hb
          obtain ⟨a, vs, rfl, h1, h2⟩ := a1
          exact ⟨a, k, vs, rfl, rfl, h1, by omega, by omega, by rw [h2.length]; exact big_le hb.2.2, fun q hq => CE.lst p (e1.mono fun a ha => List.mem_append_left _ ha) m1 hq (h2.flat _)⟩
        · exact p.elim
      · exact p.elim
    · exact p.elim
  · unfold mulC at h
    unfold CMul
    simpa using h
def divC (_ j : Int) : Bool := decide (0 < j) && decide (j < 10 ^ 60)
theorem op2_div : Op2 X (sc2 (iOp divC (· / ·))) (rI CDivW fun i j => .int (i / j)) := op2_i fun i j h => by
  unfold divC at h
  simp only [Bool.and_eq_true, decide_eq_true_eq] at h
  exact wide_div (b := 200) h.1 (by have : (10 : Int) ^ 60 < 2 ^ 200 := by decide
                                    omega) (by decide) (by decide)
def modC (_ j : Int) : Bool := decide (0 < j)
theorem op2_mod : Op2 X (sc2 (iOp modC (· % ·))) (rI (fun _ j => 0 < j) fun i j => .int (i % j)) := op2_i fun i j h => by simpa [modC] using h
def powC (i j : Int) : Bool := decide (0 ≤ j) && decide (j ≤ 1000) && decide (i.natAbs < 2 ^ 64)
theorem op2_pow : Op2 X (sc2 (iOp powC fun i j => i ^ j.toNat)) (rI CPow fun i j => .int (i ^ j.toNat)) := op2_i fun i j h => by
  unfold powC at h
  simp only [Bool.and_eq_true, decide_eq_true_eq] at h
  exact ⟨h.1.1, by omega, h.2⟩

/-! ### built-in functions -/
def OpL (X : Cx) (g : List R → Mst → Out R) (r : List V → Hp → VK → Prop) : Prop := ∀ (W : WX) (σ : L2.St) (w : Wd) (H : Hp) (M : Mst) (xs : List V) (rs : List R) (fp : List Addr) (Q : VK), MR X.K X.mg w H M →
  RRL X.K X.mg w H M xs rs fp → Post X W σ fp w H M (g rs M) (CE X fp w H M Q) → r xs H Q
def eB (g : List R → Mst → Out R) (A : DenA) : Den := fun ρ M => (A ρ M).bind g
theorem rd_b {g : List R → Mst → Out R} {r : List V → Hp → VK → Prop} (hg : OpL X g r) {Q : VK} (h : rdE X W (eB g A) σ H Q) : rdA X W A σ H (fun vs H1 => r vs H1 Q) := by
  obtain ⟨w, ρ, M, m, er, p⟩ := h
  refine ⟨w, ρ, M, m, er, p.bindF.imp fun w1 H1 M1 rs _ _ z => ?_⟩
  obtain ⟨e1, m1, p1⟩ := z
  intro vs fp q hf
  exact hg W σ w1 H1 M1 vs rs fp Q m1 q ((p1 fp hf).imp fun _ _ _ _ _ _ q => q.from e1 hf)
theorem de_callB {id : String} {r : List V → Hp → VK → Prop} {g : List R → Mst → Out R} (hc : CallR X (.builtin id) r) (hr : OpL X g r) (hg : Gl X x) (hm : X.mg x = none) (hv : bootBuiltins x = some (.builtin id)) (ha : DA X W (e :: es) A) (hn : x ≠ "__name__" := by decide) (hdb : (x == ("__debug__" : Str)) = false := by decide)
    (he : starEach (e :: es) X.env = (false, eval e X.env) :: starEach es X.env := by rfl) (hpl : (backTo pos (starEach es X.env)).any (·.1) = false := by rfl) : DE X W (.Call (.Name x p) (e :: es) [] pos) (eB g A) :=
  (pe_callB hc hg hm hv ha hn hdb he hpl).mono fun _ _ _ h => rd_b hr h
theorem de_callTy {T : String} {r : List V → Hp → VK → Prop} {g : List R → Mst → Out R} (hc : CallR X (.type T) r) (hr : OpL X g r) (hg : Gl X x) (hm : X.mg x = none) (hv : bootBuiltins x = some (.type T)) (ha : DA X W (e :: es) A) (hn : x ≠ "__name__" := by decide) (hdb : (x == ("__debug__" : Str)) = false := by decide)
    (he : starEach (e :: es) X.env = (false, eval e X.env) :: starEach es X.env := by rfl) (hpl : (backTo pos (starEach es X.env)).any (·.1) = false := by rfl) : DE X W (.Call (.Name x p) (e :: es) [] pos) (eB g A) :=
  (pe_callTy hc hg hm hv ha hn hdb he hpl).mono fun _ _ _ h => rd_b hr h
/-- a scalar of what the arguments are worth now -/
def scL (h : List D → Option D) : List R → Mst → Out R := fun rs M => match h (rs.map (frzR M)) with
  | some x => .ok (.t (.d x)) M
  | none => .bad
theorem opL_sc {h : List D → Option D} {r : List V → Hp → VK → Prop} (hh : ∀ (F : Hp) (H : Hp) (xs : List V) (ds : List D) (d : D) (Q : VK), DpL X.K X.mg H xs ds → h ds = some d → (∀ v, Dp X.K X.mg F v d → Q v H) → r xs H Q) : OpL X (scL h) r := by
  intro W σ w H M xs rs fp Q m q p
  unfold scL at p
  split at p
  · rename_i d hd
    exact hh w.F H xs _ d Q (seenL m q) hd fun v hv => (p.now m).val (C := fun _ => .t (.d d)) hv
  · exact p.elim
def lenD : List D → Option D
  | [.lst ds] => some (.int (ds.length : Nat))
  | [.tup ds] => some (.int (ds.length : Nat))
  | [.ro ds] => some (.int (ds.length : Nat))
  | [.str x] => if x.length ≤ strCap then some (.int (x.length : Nat)) else none
  | _ => none
theorem opL_len : OpL X (scL lenD) (fun xs H Q => ∃ x n, xs = [x] ∧ LenV X.K x H n ∧ Q (.int n) H) := opL_sc fun F H xs ds d Q h hd q => by
  unfold lenD at hd
  split at hd
  · cases hd
    cases h with
    | cons h1 h2 => cases h2; cases h1 with | lst h l => exact ⟨_, _, rfl, .inl ⟨_, SqL.of h, l.length.symm⟩, q _ (.int _)⟩
  · cases hd
    cases h with
    | cons h1 h2 => cases h2; cases h1 with | tup h l => exact ⟨_, _, rfl, .inr ⟨_, h, l.length.symm⟩, q _ (.int _)⟩
  · cases hd
    cases h with
    | cons h1 h2 => cases h2; cases h1 with | ro h l => exact ⟨_, _, rfl, .inl ⟨_, h, l.length.symm⟩, q _ (.int _)⟩
  · split at hd
    · rename_i hl
      cases hd
      cases h with
      | cons h1 h2 => cases h2; cases h1; exact ⟨_, _, rfl, ⟨Nat.le_trans hl cap_le, rfl⟩, q _ (.int _)⟩
    · cases hd
  · cases hd
def boolsD : List D → Option (List Bool)
  | [] => some []
  | .bl b :: r => (boolsD r).map (b :: ·)
  | _ => none
theorem bools_at {F : Hp} : ∀ {vs : List V} {ds : List D} {bs : List Bool}, DpL X.K X.mg F vs ds → boolsD ds = some bs → vs = bs.map V.bl := by
  intro vs ds
  induction ds generalizing vs with
  | nil => intro bs h e; cases h; cases e; rfl
  | cons x r ih =>
    intro bs h e
    cases h with
    | cons h1 h2 =>
      cases x with
      | bl b =>
        unfold boolsD at e
        cases z : boolsD r with
        | none => rw [z] at e; cases e
        | some bs' => rw [z] at e; cases e; cases h1; rw [List.map_cons, ih h2 z]
      | non => cases e
      | int _ => cases e
      | str _ => cases e
      | lst _ => cases e
      | tup _ => cases e
      | ins _ _ => cases e
      | glo _ => cases e
      | ty _ => cases e
      | ro _ => cases e
def allDD : List D → Option D
  | [.lst ds] => (boolsD ds).map fun bs => .bl (bs.all id)
  | _ => none
def anyDD : List D → Option D
  | [.lst ds] => (boolsD ds).map fun bs => .bl (bs.any id)
  | _ => none
theorem opL_all : OpL X (scL allDD) (rAll X.K) := opL_sc fun F H xs ds d Q h hd q => by
  unfold allDD at hd
  split at hd
  · rename_i ds
    cases z : boolsD ds with
    | none => rw [z] at hd; cases hd
    | some bs =>
      rw [z] at hd; cases hd
      cases h with
      | cons h1 h2 => cases h2; cases h1 with | lst h l => exact ⟨_, bs, rfl, by rw [← bools_at l z]; exact SqL.of h, q _ (.bl _)⟩
  · cases hd
theorem opL_any : OpL X (scL anyDD) (rAny X.K) := opL_sc fun F H xs ds d Q h hd q => by
  unfold anyDD at hd
  split at hd
  · rename_i ds
    cases z : boolsD ds with
    | none => rw [z] at hd; cases hd
    | some bs =>
      rw [z] at hd; cases hd
      cases h with
      | cons h1 h2 => cases h2; cases h1 with | lst h l => exact ⟨_, bs, rfl, by rw [← bools_at l z]; exact SqL.of h, q _ (.bl _)⟩
  · cases hd
def intD : List D → Option D
  | [.int i] => some (.int i)
  | [.bl b] => some (.int (if b then 1 else 0))
  | _ => none
theorem opL_int : OpL X (scL intD) (fun xs H Q => (∃ i, xs = [.int i] ∧ Q (.int i) H) ∨ ∃ k, xs = [.bl k] ∧ Q (.int (if k then 1 else 0)) H) := opL_sc fun F H xs ds d Q h hd q => by
  unfold intD at hd
  split at hd
  · cases hd
    cases h with
    | cons h1 h2 => cases h2; cases h1; exact .inl ⟨_, rfl, q _ (.int _)⟩
  · cases hd
    cases h with
    | cons h1 h2 => cases h2; cases h1; exact .inr ⟨_, rfl, q _ (.int _)⟩
  · cases hd
end
end DL

/-! DL12: list(), tuple(), str(), sum, max, min, sorted, isinstance; methods of texts; lists changed -/
namespace DL
open PySem L2 PySem.Spec PyProof.Rows
section
variable {X : Cx} {W : WX} {σ : L2.St} {fs gs : List Addr} {w w2 : Wd} {H H2 : Hp} {M M2 : Mst}
variable {e o a b c : Expr} {es : List Expr} {F Fa Fb Fc Fo : Den} {A : DenA} {pos p apos cpos p2 : Pos} {x m : Str}
def listR : List R → Mst → Out R
  | [r], M => (match src M r with
    | some (.l ds, M1) => .ok (.t (.lst (ds.map T.d))) M1
    | some (.t ds, M1) => .ok (.t (.lst (ds.map T.d))) M1
    | some (.ro ds, M1) => .ok (.t (.lst (ds.map T.d))) M1
    | _ => .bad)
  | _, _ => .bad
theorem RRL.one {K : PySem.W.Frag} {mg : Mg} {vs : List V} {r : R} {fp : List Addr} (h : RRL K mg w H M vs [r] fp) : ∃ v, vs = [v] ∧ RR K mg w H M v r fp := by
  cases h with
  | cons h1 h2 _ => cases h2; exact ⟨_, rfl, by rw [List.append_nil]; exact h1⟩
theorem opL_list : OpL X listR (fun xs H Q => ∃ p ys, xs = [.ref p] ∧ (SqL X.K H p ys ∨ SqT X.K H p ys) ∧ ∀ l, H l = none → Q (.ref l) (upd H l (.lst ys))) := by
  intro W σ w H M xs rs fp Q m q p
  unfold listR at p
  split at p
  · rename_i r
    obtain ⟨v, hv, q1⟩ := q.one
    subst hv
    cases z : src M r with
    | none => rw [z] at p; exact p.elim
    | some s =>
      obtain ⟨s, M4⟩ := s
      obtain ⟨w4, e4, m4, a4⟩ := src_ok m q1 z
      rw [z] at p
      cases s with
      | l ds => obtain ⟨a, vs, rfl, h1, h2⟩ := a4; exact ⟨a, vs, rfl, .inl (SqL.of h1), fun l hl => CE.lst p e4 m4 hl h2⟩
      | t ds => obtain ⟨a, vs, rfl, h1, h2⟩ := a4; exact ⟨a, vs, rfl, .inr (Same.seqT m4.sub h1), fun l hl => CE.lst p e4 m4 hl h2⟩
      | ro ds => obtain ⟨a, vs, rfl, h1, h2⟩ := a4; exact ⟨a, vs, rfl, .inl (m4.sub.seq h1), fun l hl => CE.lst p e4 m4 hl h2⟩
      | s _ => exact p.elim
  · exact p.elim
def tupleR : List R → Mst → Out R
  | [r], M => (match src M r with
    | some (.l ds, M1) => .ok (.t (.tup (ds.map T.d))) M1
    | some (.t ds, M1) => .ok (.t (.d (.tup ds))) M1
    | _ => .bad)
  | _, _ => .bad
theorem opL_tuple : OpL X tupleR (fun xs H Q => ∃ p ys, xs = [.ref p] ∧ ((SqL X.K H p ys ∧ ∀ l, H l = none → Q (.ref l) (upd H l (.tup ys))) ∨ (SqT X.K H p ys ∧ Q (.ref p) H))) := by
  intro W σ w H M xs rs fp Q m q p
  unfold tupleR at p
  split at p
  · rename_i r
    obtain ⟨v, hv, q1⟩ := q.one
    subst hv
    cases z : src M r with
    | none => rw [z] at p; exact p.elim
    | some s =>
      obtain ⟨s, M4⟩ := s
      obtain ⟨w4, e4, m4, a4⟩ := src_ok m q1 z
      rw [z] at p
      cases s with
      | l ds => obtain ⟨a, vs, rfl, h1, h2⟩ := a4; exact ⟨a, vs, rfl, .inl ⟨SqL.of h1, fun l hl => CE.tup p e4 m4 hl h2⟩⟩
      | t ds => obtain ⟨a, vs, rfl, h1, h2⟩ := a4; exact ⟨a, vs, rfl, .inr ⟨Same.seqT m4.sub h1, CE.dat p e4 m4 (.tup h1 h2)⟩⟩
      | ro ds => exact p.elim
      | s _ => exact p.elim
  · exact p.elim
def strD : List D → Option D
  | [.int i] => if i.natAbs < 10 ^ 60 then some (.str (Str.ofString (toString i))) else none
  | _ => none
theorem opL_str : OpL X (scL strD) (fun xs H Q => ∃ i, xs = [.int i] ∧ i.natAbs.log2 < 1920 ∧ Q (.str (toString i)) H) := opL_sc fun F H xs ds d Q h hd q => by
  unfold strD at hd
  split at hd
  · split at hd
    · rename_i i hl
      cases hd
      cases h with
      | cons h1 h2 =>
        cases h2; cases h1
        refine ⟨i, rfl, ?_, q _ (.str _)⟩
        have : (10 : Nat) ^ 60 < 2 ^ 200 := by decide
        exact Nat.lt_of_lt_of_le (PySem.Flt.log2_lt_of (by decide) (show i.natAbs < 2 ^ 200 by omega)) (by decide)
    · cases hd
  · cases hd
def intsD : List D → Option (List Int)
  | [] => some []
  | .int b :: r => (intsD r).map (b :: ·)
  | _ => none
theorem ints_at {F : Hp} : ∀ {vs : List V} {ds : List D} {bs : List Int}, DpL X.K X.mg F vs ds → intsD ds = some bs → vs = bs.map V.int := by
  intro vs ds
  induction ds generalizing vs with
  | nil => intro bs h e; cases h; cases e; rfl
  | cons x r ih =>
    intro bs h e
    cases h with
    | cons h1 h2 =>
      cases x with
      | int b =>
        unfold intsD at e
        cases z : intsD r with
        | none => rw [z] at e; cases e
        | some bs' => rw [z] at e; cases e; cases h1; rw [List.map_cons, ih h2 z]
      | non => cases e
      | bl _ => cases e
      | str _ => cases e
      | lst _ => cases e
      | tup _ => cases e
      | ins _ _ => cases e
      | glo _ => cases e
      | ty _ => cases e
      | ro _ => cases e
theorem intsD_map (is : List Int) : intsD (is.map D.int) = some is := by
  induction is with
  | nil => rfl
  | cons x r ih => simp [intsD, ih]
def sumD : List D → Option D
  | [.lst ds] => (intsD ds).map fun is => .int is.sum
  | _ => none
def maxL : List Int → Int
  | [] => 0
  | x :: r => r.foldl max x
def minL : List Int → Int
  | [] => 0
  | x :: r => r.foldl min x
def maxD : List D → Option D
  | [.lst ds] => (match intsD ds with
    | some (x :: r) => some (.int (maxL (x :: r)))
    | _ => none)
  | _ => none
def minD : List D → Option D
  | [.lst ds] => (match intsD ds with
    | some (x :: r) => some (.int (minL (x :: r)))
    | _ => none)
  | _ => none
theorem foldl_max : ∀ (r : List Int) (x : Int), (r.foldl max x = x ∨ r.foldl max x ∈ r) ∧ x ≤ r.foldl max x ∧ ∀ y ∈ r, y ≤ r.foldl max x
  | [], x => ⟨.inl rfl, Int.le_refl _, fun _ z => nomatch z⟩
  | y :: r, x => by
    obtain ⟨h1, h2, h3⟩ := foldl_max r (max x y)
    rw [List.foldl_cons]
    refine ⟨?_, by omega, fun z hz => ?_⟩
    · rcases h1 with h1 | h1
      · rw [h1]
        by_cases e : x ≤ y
        · right; rw [Int.max_eq_right e]; exact List.mem_cons_self
        · left; omega
      · exact .inr (List.mem_cons_of_mem _ h1)
    · rcases List.mem_cons.mp hz with rfl | hz
      · omega
      · exact h3 z hz
theorem foldl_min : ∀ (r : List Int) (x : Int), (r.foldl min x = x ∨ r.foldl min x ∈ r) ∧ r.foldl min x ≤ x ∧ ∀ y ∈ r, r.foldl min x ≤ y
  | [], x => ⟨.inl rfl, Int.le_refl _, fun _ z => nomatch z⟩
  | y :: r, x => by
    obtain ⟨h1, h2, h3⟩ := foldl_min r (min x y)
    rw [List.foldl_cons]
    refine ⟨?_, by omega, fun z hz => ?_⟩
    · rcases h1 with h1 | h1
      · rw [h1]
        by_cases e : x ≤ y
        · left; omega
        · right; rw [Int.min_eq_right (by omega)]; exact List.mem_cons_self
      · exact .inr (List.mem_cons_of_mem _ h1)
    · rcases List.mem_cons.mp hz with rfl | hz
      · omega
      · exact h3 z hz
theorem maxL_mem (x : Int) (r : List Int) : maxL (x :: r) ∈ x :: r ∧ ∀ y ∈ x :: r, y ≤ maxL (x :: r) := by
  obtain ⟨h1, h2, h3⟩ := foldl_max r x
  refine ⟨h1.elim (fun h => ?_) fun h => List.mem_cons_of_mem _ h, fun y hy => ?_⟩
  · show r.foldl max x ∈ _; rw [h]; exact List.mem_cons_self
  · rcases List.mem_cons.mp hy with rfl | hy
    · exact h2
    · exact h3 y hy
theorem minL_mem (x : Int) (r : List Int) : minL (x :: r) ∈ x :: r ∧ ∀ y ∈ x :: r, minL (x :: r) ≤ y := by
  obtain ⟨h1, h2, h3⟩ := foldl_min r x
  refine ⟨h1.elim (fun h => ?_) fun h => List.mem_cons_of_mem _ h, fun y hy => ?_⟩
  · show r.foldl min x ∈ _; rw [h]; exact List.mem_cons_self
  · rcases List.mem_cons.mp hy with rfl | hy
    · exact h2
    · exact h3 y hy
theorem opL_sum : OpL X (scL sumD) (rSum X.K) := opL_sc fun F H xs ds d Q h hd q => by
  unfold sumD at hd
  split at hd
  · rename_i ds
    cases z : intsD ds with
    | none => rw [z] at hd; cases hd
    | some is =>
      rw [z] at hd; cases hd
      cases h with
      | cons h1 h2 => cases h2; cases h1 with | lst h l => exact ⟨_, is, rfl, by rw [← ints_at l z]; exact SqL.of h, q _ (.int _)⟩
  · cases hd
theorem opL_max : OpL X (scL maxD) (rMax X.K) := opL_sc fun F H xs ds d Q h hd q => by
  unfold maxD at hd
  split at hd
  · split at hd
    · rename_i ds x r z
      cases hd
      cases h with
      | cons h1 h2 =>
        cases h2
        cases h1 with
        | lst h l =>
          refine ⟨_, x :: r, rfl, by rw [← ints_at l z]; exact SqL.of h, Nat.succ_pos _, fun k h1 h2 => ?_⟩
          obtain ⟨g1, g2⟩ := maxL_mem x r
          rw [Int.le_antisymm (g2 k h1) (h2 _ g1)]
          exact q _ (.int _)
    · cases hd
  · cases hd
theorem opL_min : OpL X (scL minD) (rMin X.K) := opL_sc fun F H xs ds d Q h hd q => by
  unfold minD at hd
  split at hd
  · split at hd
    · rename_i ds x r z
      cases hd
      cases h with
      | cons h1 h2 =>
        cases h2
        cases h1 with
        | lst h l =>
          refine ⟨_, x :: r, rfl, by rw [← ints_at l z]; exact SqL.of h, Nat.succ_pos _, fun k h1 h2 => ?_⟩
          obtain ⟨g1, g2⟩ := minL_mem x r
          rw [Int.le_antisymm (h2 _ g1) (g2 k h1)]
          exact q _ (.int _)
    · cases hd
  · cases hd
theorem ints_dp {F : Hp} (is : List Int) : DpL X.K X.mg F (is.map V.int) (is.map D.int) := by
  induction is with
  | nil => exact .nil
  | cons x r ih => exact .cons (.int x) ih
theorem strs_dp {F : Hp} (is : List Str) : DpL X.K X.mg F (is.map V.str) (is.map D.str) := by
  induction is with
  | nil => exact .nil
  | cons x r ih => exact .cons (.str x) ih
def sortI (is : List Int) : List Int := is.mergeSort (fun a b => decide (a ≤ b))
theorem sortI_perm (is : List Int) : (sortI is).Perm is := List.mergeSort_perm _ _
theorem sortI_pw (is : List Int) : (sortI is).Pairwise (· ≤ ·) := by
  have := List.pairwise_mergeSort (le := fun a b : Int => decide (a ≤ b)) (fun a b c h1 h2 => by simp at *; omega) (fun a b => by simp; omega) is
  exact this.imp fun h => by simpa using h
def sortedR : List R → Mst → Out R
  | [r], M => (match src M r with
    | some (.l ds, M1) => (match intsD ds with
      | some is => if is.length < 64 then .ok (.t (.lst (((sortI is).map D.int).map T.d))) M1 else .bad
      | none => .bad)
    | _ => .bad)
  | _, _ => .bad
theorem opL_sorted : OpL X sortedR (rSorted X.K) := by
  intro W σ w H M xs rs fp Q m q p
  unfold sortedR at p
  split at p
  · rename_i r
    obtain ⟨v, hv, q1⟩ := q.one
    subst hv
    cases z : src M r with
    | none => rw [z] at p; exact p.elim
    | some s =>
      obtain ⟨s, M4⟩ := s
      obtain ⟨w4, e4, m4, a4⟩ := src_ok m q1 z
      rw [z] at p
      cases s with
      | l ds =>
        obtain ⟨a, vs, rfl, h1, h2⟩ := a4
        dsimp only at p
        split at p
        · rename_i is hz
          split at p
          · rename_i hl
            refine ⟨a, is, rfl, by rw [← ints_at h2 hz]; exact SqL.of h1, hl, fun ns l hp hs hl => ?_⟩
            have : ns = sortI is := PySem.W.ksm_same (hp.trans (sortI_perm is).symm) hs (sortI_pw is)
            subst this
            exact CE.lst p e4 m4 hl (ints_dp _)
          · exact p.elim
        · exact p.elim
      | t ds => exact p.elim
      | ro ds => exact p.elim
      | s _ => exact p.elim
  · exact p.elim

/-! ### isinstance -/
def tyName : D → Option String
  | .non => some "NoneType"
  | .bl _ => some "bool"
  | .int _ => some "int"
  | .str _ => some "str"
  | .lst _ => some "list"
  | .tup _ => some "tuple"
  | _ => none
def isI (t n : String) : Bool := t == n || (t == "bool" && n == "int")
theorem kitB_all : ∀ t ∈ ["NoneType", "bool", "int", "str", "list", "tuple"], ∀ n ∈ ["bool", "int", "str", "list", "tuple"], kitB t n = some (isI t n) := by decide +kernel
def tysD : List D → Option (List String)
  | [] => some []
  | .ty n :: r => (tysD r).map (n :: ·)
  | _ => none
def okTy (n : String) : Bool := ["bool", "int", "str", "list", "tuple"].contains n
def tysT : List T → Option (List String)
  | [] => some []
  | .d (.ty n) :: r => (tysT r).map (n :: ·)
  | _ => none
def isiR : List R → Mst → Out R
  | [r, .t (.d (.ty n))], M => (match tyName (frzR M r) with
    | some t => if okTy n = true then .ok (.t (.d (.bl (isI t n)))) M else .bad
    | none => .bad)
  | [r, .t (.tup ts)], M => (match tyName (frzR M r), tysT ts with
    | some t, some ns => if ns.all okTy = true then .ok (.t (.d (.bl (ns.any (isI t))))) M else .bad
    | _, _ => .bad)
  | _, _ => .bad
theorem tyX_of {v : V} {d : D} {t : String} (h : Dp X.K X.mg H v d) (ht : tyName d = some t) : TyX X.K H v (.type t) ∧ t ∈ ["NoneType", "bool", "int", "str", "list", "tuple"] := by
  cases h with
  | non => cases ht; exact ⟨.base .non, by decide⟩
  | bl b => cases ht; exact ⟨.base (.bl b), by decide⟩
  | int i => cases ht; exact ⟨.base (.int i), by decide⟩
  | str x => cases ht; exact ⟨.base (.str x), by decide⟩
  | lst h l => cases ht; exact ⟨.base (.lst h), by decide⟩
  | tup h l =>
    cases ht
    refine ⟨?_, by decide⟩
    rcases h with (h | ⟨o, h⟩) | ⟨o, its, n, h1, h2, _⟩
    · exact .base (.tup h)
    · exact .fTuple h
    · exact .kTuple h1 h2
  | ro h l => cases ht
  | ins _ _ _ => cases ht
  | glo _ => cases ht
  | ty _ => cases ht
theorem tys_at {F : Hp} : ∀ {vs : List V} {ts : List T} {ns : List String} {fp : List Addr}, TRL X.K X.mg F H vs ts fp → tysT ts = some ns → Paired ClsV vs (ns.map Value.type) := by
  intro vs ts
  induction ts generalizing vs with
  | nil => intro bs fp h e; cases h; cases e; exact .nil
  | cons x r ih =>
    intro bs fp h e
    cases h with
    | cons h1 h2 =>
      cases x with
      | d d =>
        cases d with
        | ty b =>
          unfold tysT at e
          cases z : tysT r with
          | none => rw [z] at e; cases e
          | some bs' =>
            rw [z] at e; cases e
            cases h1 with
            | d h1 => cases h1; exact .cons (.ty _) (ih h2 z)
        | non => cases e
        | bl _ => cases e
        | str _ => cases e
        | lst _ => cases e
        | tup _ => cases e
        | ins _ _ => cases e
        | glo _ => cases e
        | int _ => cases e
        | ro _ => cases e
      | lst _ => cases e
      | tup _ => cases e
      | ins _ _ => cases e
theorem RRL.two {K : PySem.W.Frag} {mg : Mg} {vs : List V} {r r' : R} {fp : List Addr} (h : RRL K mg w H M vs [r, r'] fp) : ∃ v v' f f', vs = [v, v'] ∧ RR K mg w H M v r f ∧ RR K mg w H M v' r' f' ∧ fp = f ++ f' ∧ ∀ a ∈ f, a ∉ f' := by
  cases h with
  | cons h1 h2 d =>
    obtain ⟨v', hv, h3⟩ := h2.one
    subst hv
    exact ⟨_, _, _, _, rfl, h1, h3, rfl, d⟩
theorem kitAny_tys {K : PySem.W.Frag} {t : String} (ht : t ∈ ["NoneType", "bool", "int", "str", "list", "tuple"]) : ∀ {ns : List String}, ns.all okTy = true → PySem.W.kitAny K (.type t) (ns.map Value.type) = some (ns.any (isI t))
  | [], _ => rfl
  | n :: ns, h => by
    rw [List.all_cons, Bool.and_eq_true] at h
    have hn : n ∈ ["bool", "int", "str", "list", "tuple"] := by
      have := h.1
      unfold okTy at this
      simpa using this
    have k := kit_ty (K := K) (kitB_all t ht n hn)
    rw [List.map_cons, List.any_cons]
    refine kitAny_cons k (fun e => ?_) fun e => by rw [e]; rfl
    rw [e, Bool.false_or]
    exact kitAny_tys ht h.2
theorem or_isi : CallR X (.builtin "isinstance") (fun xs H Q => rIsi X.K xs H Q ∨ rIsiT X.K xs H Q ∨ rIsiK X.K xs H Q) := CallR.or call_isi (CallR.or call_isiT call_isiK)
theorem opL_isi : OpL X isiR (fun xs H Q => rIsi X.K xs H Q ∨ rIsiT X.K xs H Q ∨ rIsiK X.K xs H Q) := by
  intro W σ w H M xs rs fp Q m q p
  unfold isiR at p
  split at p
  · rename_i r n
    obtain ⟨v, v', f, f', rfl, q1, q2, _, _⟩ := q.two
    split at p
    · rename_i t z
      split at p
      · rename_i hk
        obtain ⟨k1, k2⟩ := tyX_of (seen m q1) z
        obtain ⟨q2, _⟩ := rr_dat q2
        cases q2
        have hn : n ∈ ["bool", "int", "str", "list", "tuple"] := by unfold okTy at hk; simpa using hk
        exact .inl ⟨_, _, _, _, _, rfl, .ty n, k1, kit_ty (kitB_all t k2 n hn), (p.now m).val (C := fun _ => r) (.bl _)⟩
      · exact p.elim
    · exact p.elim
  · rename_i r ts
    obtain ⟨v, v', f, f', rfl, q1, q2, _, _⟩ := q.two
    split at p
    · rename_i t ns z z2
      split at p
      · rename_i hk
        obtain ⟨k1, k2⟩ := tyX_of (seen m q1) z
        obtain ⟨q2, _⟩ := q2
        cases q2 with
        | tup h _ l => exact .inr (.inl ⟨_, _, _, _, _, _, rfl, h, tys_at l z2, k1, kitAny_tys k2 hk, (p.now m).val (C := fun _ => r) (.bl _)⟩)
      · exact p.elim
    · exact p.elim
  · exact p.elim
end
end DL

/-! DL13: lists changed in place; texts' methods; f-strings -/
namespace DL
open PySem L2 PySem.Spec PyProof.Rows
section
variable {X : Cx} {W : WX} {σ : L2.St} {fs gs : List Addr} {w w2 : Wd} {H H2 : Hp} {M M2 : Mst}
variable {e o i a b c : Expr} {es : List Expr} {F Fa Fb Fc Fo Fi Fe : Den} {A : DenA} {pos p apos cpos p2 : Pos} {x m : Str}

/-- a mutable list gets other items -/
theorem put_lst {k : Nat} {ts ts' : List T} {vs' : List V} {fp' : List Addr} (m : MR X.K X.mg w H M) (hk : M[k]? = some (.lst ts)) (h' : TRL X.K X.mg w.F H vs' ts' fp') (nd : (w.α k :: fp').Nodup)
    (dj : ∀ a ∈ fp', ∀ j, j < M.length → j ≠ k → a ∉ w.φ j) (pm : ∀ a ∈ fp', Pm fs w H M a) : ∃ w', Ext fs w H M w' (upd H (w.α k) (.lst vs')) (M.set k (.lst ts')) ∧ MR X.K X.mg w' (upd H (w.α k) (.lst vs')) (M.set k (.lst ts')) ∧ w'.F = w.F ∧ w'.α = w.α := by
  have hkl : k < M.length := (List.getElem?_eq_some_iff.mp hk).1
  obtain ⟨q, qn⟩ := m.obj k _ hk
  obtain ⟨vs, fk, hl, hF, hfk⟩ : ∃ vs fk, H (w.α k) = some (.lst vs) ∧ w.F (w.α k) = none ∧ w.φ k = w.α k :: fk := by
    generalize hφ : w.φ k = f at q
    cases q with
    | lst h1 h2 h3 => exact ⟨_, _, h1, h2, rfl⟩
  have hin : w.α k ∈ w.φ k := by rw [hfk]; exact List.mem_cons_self
  have hne : ∀ j, j < M.length → j ≠ k → w.α k ∉ w.φ j := fun j hj hjk z => hjk (m.dis j k _ hj hkl z hin)
  have hnl := (List.nodup_cons.mp nd).1
  refine ⟨⟨w.F, w.α, fun j => if j = k then w.α k :: fp' else w.φ j⟩, ⟨Same.refl _, by simp, fun _ _ => rfl, fun a o e n => ?_, fun j hj a ha => ?_, fun _ h => .inl h, fun a e => ?_⟩, ⟨fun a o e => ?_, fun j t e => ?_, fun i j a hi hj h1 h2 => ?_⟩, rfl, rfl⟩
  · have ne : a ≠ w.α k := fun z => n (.inr (.inl ⟨k, hkl, by rw [z]; exact hin⟩))
    rw [upd_ne ne]; exact e
  · rw [List.length_set] at hj
    have ha : a ∈ (if j = k then w.α k :: fp' else w.φ j) := ha
    split at ha
    · rcases List.mem_cons.mp ha with rfl | ha
      · exact .inr (.inl ⟨k, hkl, hin⟩)
      · exact pm a ha
    · exact .inr (.inl ⟨j, hj, ha⟩)
  · by_cases z : a = w.α k
    · rw [z, upd_same] at e; cases e
    · rw [upd_ne z] at e; exact e
  · have ne : a ≠ w.α k := fun z => by rw [z, show w.F (w.α k) = none from hF] at e; cases e
    rw [upd_ne ne]; exact m.sub a o e
  · by_cases hjk : k = j
    · subst hjk
      rw [List.getElem?_set_self hkl] at e
      cases e
      show TR X.K X.mg w.F _ _ _ (if k = k then w.α k :: fp' else w.φ k) ∧ (if k = k then w.α k :: fp' else w.φ k).Nodup
      rw [if_pos rfl]
      refine ⟨.lst upd_same hF (h'.stay (Same.refl _) fun a ha => ⟨(h'.fp a ha).1, fun o ho => ?_⟩), nd⟩
      have ne : a ≠ w.α k := fun z => hnl (z ▸ ha)
      rw [upd_ne ne]; exact ho
    · rw [List.getElem?_set_ne hjk] at e
      obtain ⟨z1, z2⟩ := m.obj j t e
      have hj : j < M.length := (List.getElem?_eq_some_iff.mp e).1
      show TR X.K X.mg w.F _ _ _ (if j = k then w.α k :: fp' else w.φ j) ∧ (if j = k then w.α k :: fp' else w.φ j).Nodup
      rw [if_neg (Ne.symm hjk)]
      refine ⟨z1.stay (Same.refl _) fun a ha => ⟨(z1.fp a ha).1, fun o ho => ?_⟩, z2⟩
      have ne : a ≠ w.α k := fun z => hne j hj (Ne.symm hjk) (z ▸ ha)
      rw [upd_ne ne]; exact ho
  · rw [List.length_set] at hi hj
    have h1 : a ∈ (if i = k then w.α k :: fp' else w.φ i) := h1
    have h2 : a ∈ (if j = k then w.α k :: fp' else w.φ j) := h2
    split at h1
    · rename_i ei
      split at h2
      · rename_i ej; rw [ei, ej]
      · rename_i ej
        rcases List.mem_cons.mp h1 with rfl | h1
        · exact absurd h2 (hne j hj ej)
        · exact absurd h2 (dj a h1 j hj ej)
    · rename_i ei
      split at h2
      · rename_i ej
        rcases List.mem_cons.mp h2 with rfl | h2
        · exact absurd h1 (hne i hi ei)
        · exact absurd h1 (dj a h2 i hi ei)
      · exact m.dis i j a hi hj h1 h2
theorem trl_set : ∀ {vs : List V} {ts : List T} {f : List Addr} {j : Nat} {v : V} {t : T} {g : List Addr}, TRL X.K X.mg w.F H vs ts f → TR X.K X.mg w.F H v t g → f.Nodup → g.Nodup → (∀ a ∈ g, a ∉ f) →
    ∃ f', TRL X.K X.mg w.F H (vs.set j v) (ts.set j t) f' ∧ f'.Nodup ∧ ∀ a ∈ f', a ∈ f ∨ a ∈ g
  | _, _, _, _, _, _, _, .nil, _, _, _, _ => ⟨[], .nil, List.nodup_nil, fun _ z => nomatch z⟩
  | _, _, _, 0, _, _, g, .cons (f1 := f1) (f2 := f2) h r, q, nd, ng, dj => by
    obtain ⟨n1, n2, n3⟩ := List.nodup_append.mp nd
    refine ⟨g ++ f2, .cons q r, List.nodup_append.mpr ⟨ng, n2, fun a ha b hb z => dj a ha (List.mem_append_right _ (z ▸ hb))⟩, fun a ha => ?_⟩
    rcases List.mem_append.mp ha with ha | ha
    · exact .inr ha
    · exact .inl (List.mem_append_right _ ha)
  | _, _, _, j + 1, v, t, g, .cons (f1 := f1) (f2 := f2) h r, q, nd, ng, dj => by
    obtain ⟨n1, n2, n3⟩ := List.nodup_append.mp nd
    obtain ⟨f', i1, i2, i3⟩ := trl_set (j := j) r q n2 ng fun a ha hb => dj a ha (List.mem_append_right _ hb)
    refine ⟨f1 ++ f', .cons h i1, List.nodup_append.mpr ⟨n1, i2, fun a ha b hb z => ?_⟩, fun a ha => ?_⟩
    · rcases i3 b hb with q | q
      · exact n3 a ha b q z
      · exact dj b q (List.mem_append_left _ (z ▸ ha))
    · rcases List.mem_append.mp ha with ha | ha
      · exact .inl (List.mem_append_left _ ha)
      · exact (i3 a ha).imp (fun z => List.mem_append_right _ z) id
/-- a mutable list, opened -/
theorem open_lst {k : Nat} {ts : List T} (m : MR X.K X.mg w H M) (hk : M[k]? = some (.lst ts)) : ∃ vs fk, H (w.α k) = some (.lst vs) ∧ w.F (w.α k) = none ∧ w.φ k = w.α k :: fk ∧ TRL X.K X.mg w.F H vs ts fk ∧ (w.α k :: fk).Nodup ∧ (∀ a ∈ w.α k :: fk, ∀ j, j < M.length → j ≠ k → a ∉ w.φ j) := by
  have hkl : k < M.length := (List.getElem?_eq_some_iff.mp hk).1
  obtain ⟨q, qn⟩ := m.obj k _ hk
  have hd : ∀ a ∈ w.φ k, ∀ j, j < M.length → j ≠ k → a ∉ w.φ j := fun a ha j hj hjk z => hjk (m.dis j k a hj hkl z ha)
  generalize hφ : w.φ k = f at q qn hd
  cases q with
  | lst h1 h2 h3 => exact ⟨_, _, h1, h2, rfl, h3, qn, hd⟩
/-- x[i] = r -/
def setR (ro ri r : R) (M : Mst) : Option Mst := match ro, frzR M ri with
  | .h k, .int i => (match (frzM M r)[k]? with
    | some (.lst ts) => (match ixN ts.length i with
      | some j => some ((frzM M r).set k (.lst (ts.set j (treeT M r))))
      | none => none)
    | _ => none)
  | _, _ => none
def gItem (Fo Fi : Den) : DenG := fun r ρ M => match Fo ρ M with
  | .ok ro M1 => (match Fi ρ M1 with
    | .ok ri M2 => (match setR ro ri r M2 with
      | some M3 => some (ρ, M3)
      | none => none)
    | _ => none)
  | _ => none
theorem dg_item (ho : DE X W o Fo) (hi : DE X W i Fi) (ha : ∀ v, assign (.Subscript o i pos) X.env v = (do
      let ov ← holding [v] (eval o X.env)
      let iv ← holding [v, ov] (eval i X.env)
      standAt pos
      holding [v, ov, iv] (setItem ov iv v)
      release [v, ov, iv] []) := by intro _; rfl) : DG X W (.Subscript o i pos) (gItem Fo Fi) := (pg_sub ho hi set_list ha).mono fun v σ H Q h => by
  obtain ⟨w, ρ, M, r, fp, m, er, q, p⟩ := h
  unfold gItem at p
  refine ⟨w, ρ, M, m, er, ?_⟩
  cases z1 : Fo ρ M with
  | bad => rw [z1] at p; exact p.elim
  | exc e M' => rw [z1] at p; exact p.elim
  | ok ro M1 =>
    rw [z1] at p
    dsimp only at p
    intro w1 H1 e1 m1 v1 f1 q1 hf1
    refine ⟨w1, ρ, M1, m1, er.stay e1, ?_⟩
    cases z2 : Fi ρ M1 with
    | bad => rw [z2] at p; exact p.elim
    | exc e M' => rw [z2] at p; exact p.elim
    | ok ri M2 =>
      rw [z2] at p
      dsimp only at p
      intro w2 H2 e2 m2 v2 f2 q2 hf2
      have e12 : Ext [] w H M w2 H2 M2 := e1.trans0 e2
      have q0 := q.stay e12 fun _ _ z => nomatch z
      cases z3 : setR ro ri r M2 with
      | none => rw [z3] at p; exact p.elim
      | some M3 =>
        rw [z3] at p
        unfold setR at z3
        split at z3
        · rename_i k i hi'
          have s2 := seen m2 q2
          rw [hi'] at s2
          cases s2
          obtain ⟨w3, e3, m3, t3, nd3, dj3⟩ := treeT_ok m2 q0
          have q1' := (q1.stay e2 fun _ _ z => nomatch z).stay e3 fun _ _ z => nomatch z
          obtain ⟨hk, rfl, _⟩ := q1'
          split at z3
          · rename_i ts hts
            split at z3
            · rename_i j hj
              cases z3
              obtain ⟨vs, fk, g1, g2, g3, g4, g5, g6⟩ := open_lst m3 hts
              obtain ⟨g5a, g5b⟩ := List.nodup_cons.mp g5
              have djk : ∀ a ∈ fp, a ∉ w3.α k :: fk := fun a ha hb => dj3 a ha k hk (by rw [g3]; exact hb)
              obtain ⟨f', i1, i2, i3⟩ := trl_set (j := j) g4 t3 g5b nd3 fun a ha hb => djk a ha (List.mem_cons_of_mem _ hb)
              have e13 : Ext [] w H M w3 H2 (frzM M2 r) := e12.trans0 e3
              obtain ⟨w4, e4, m4, _, _⟩ := put_lst (fs := fp) m3 hts i1 (List.nodup_cons.mpr ⟨fun z => (i3 _ z).elim g5a fun z => djk _ z List.mem_cons_self, i2⟩)
                (fun a ha j hj hjk => (i3 a ha).elim (fun z => g6 a (List.mem_cons_of_mem _ z) j hj hjk) fun z => dj3 a z j hj)
                fun a ha => (i3 a ha).elim (fun z => .inr (.inl ⟨k, hk, by rw [g3]; exact List.mem_cons_of_mem _ z⟩)) fun z => .inr (.inr z)
              refine ⟨w3.α k, vs, i, j, rfl, rfl, g1, by rw [g4.length]; exact hj, ?_⟩
              exact p w4 _ σ ((e13.mono fun _ z => nomatch z).trans e4 fun a ha => .inr (.inr ha)) m4 ((er.stay e13).stay e4)
            · cases z3
          · cases z3
        · cases z3

/-! ### methods of texts -/
def eM0 (g : Str → Mst → Out R) (Fo : Den) : Den := fun ρ M => (Fo ρ M).bind fun r M1 => match r with
  | .t (.d (.str a)) => g a M1
  | _ => .bad
def eM1 (g : Str → R → Mst → Out R) (Fo Fe : Den) : Den := fun ρ M => (Fo ρ M).bind fun r M1 => match r with
  | .t (.d (.str a)) => (Fe ρ M1).bind fun r2 M2 => g a r2 M2
  | _ => .bad
def OpM1 (X : Cx) (g : Str → R → Mst → Out R) (r : V → List V → Hp → VK → Prop) : Prop := ∀ (W : WX) (σ : L2.St) (w : Wd) (H : Hp) (M : Mst) (a : Str) (v : V) (r1 : R) (fp : List Addr) (Q : VK), MR X.K X.mg w H M →
  RR X.K X.mg w H M v r1 fp → Post X W σ fp w H M (g a r1 M) (CE X fp w H M Q) → r (.str a) [v] H Q
theorem rd_m1 {g : Str → R → Mst → Out R} {r : V → List V → Hp → VK → Prop} (hg : OpM1 X g r) {Q : VK} (h : rdE X W (eM1 g Fo Fe) σ H Q) : tM1 r (rdE X W Fo) (rdE X W Fe) σ H Q := by
  obtain ⟨w, ρ, M, m, er, p⟩ := h
  refine ⟨w, ρ, M, m, er, p.bindF.imp fun w1 H1 M1 x _ _ z => ?_⟩
  obtain ⟨e1, m1, p1⟩ := z
  intro v1 f1 q1 hf1
  replace p1 := p1 [] fun _ z => nomatch z
  split at p1
  · rename_i a
    obtain ⟨q1, _⟩ := rr_dat q1
    cases q1
    refine ⟨⟨a, rfl⟩, w1, ρ, M1, m1, er.stay e1, (Post.bindF p1).imp fun w2 H2 M2 y _ _ z => ?_⟩
    obtain ⟨e2, m2, p2⟩ := z
    intro v2 f2 q2 hf2
    exact hg W σ w2 H2 M2 a v2 y f2 Q m2 q2 ((p2 f2 hf2).imp fun _ _ _ _ _ _ q => q.from (e1.trans0 e2) fun a ha => e1.pm (gs := []) (fun _ z => nomatch z) (hf2 a ha))
  · exact p1.elim
theorem de_m1 {id : String} {name : Str} {r : V → List V → Hp → VK → Prop} {g : Str → R → Mst → Out R} (slot : Slot "str" name id) (ty : typeOf (.builtin id) = pure (.type "method_descriptor")) (rule : MtR X id r) (hg : OpM1 X g r) (ho : DE X W o Fo) (he : DE X W e Fe)
    (hs : starEach [e] X.env = [(false, eval e X.env)] := by rfl) (hbase : attributeBase o name X.env (eval o X.env) = eval o X.env := by rfl) (hline : (apos.endLine == pos.line) = true := by rfl) :
    DE X W (.Call (.Attribute o name apos) [e] [] pos) (eM1 g Fo Fe) := (pe_m1 slot ty rule ho he hs hbase hline).mono fun _ _ _ h => rd_m1 hg h
def strsD : List D → Option (List Str)
  | [] => some []
  | .str b :: r => (strsD r).map (b :: ·)
  | _ => none
theorem strsD_map (is : List Str) : strsD (is.map D.str) = some is := by
  induction is with
  | nil => rfl
  | cons x r ih => simp [strsD, ih]
theorem strs_at {F : Hp} : ∀ {vs : List V} {ds : List D} {bs : List Str}, DpL X.K X.mg F vs ds → strsD ds = some bs → vs = bs.map V.str := by
  intro vs ds
  induction ds generalizing vs with
  | nil => intro bs h e; cases h; cases e; rfl
  | cons x r ih =>
    intro bs h e
    cases h with
    | cons h1 h2 =>
      cases x with
      | str b =>
        unfold strsD at e
        cases z : strsD r with
        | none => rw [z] at e; cases e
        | some bs' => rw [z] at e; cases e; cases h1; rw [List.map_cons, ih h2 z]
      | non => cases e
      | bl _ => cases e
      | int _ => cases e
      | lst _ => cases e
      | tup _ => cases e
      | ins _ _ => cases e
      | glo _ => cases e
      | ty _ => cases e
      | ro _ => cases e
def joinR (a : Str) (r : R) (M : Mst) : Out R := match src M r with
  | some (q, M1) => (match q, strsD q.ds with
    | .l _, some ys => if (ys.map (·.length)).sum + ys.length * a.length ≤ 1000000 then .ok (.t (.d (.str (Txt.join a ys)))) M1 else .bad
    | .t _, some ys => if (ys.map (·.length)).sum + ys.length * a.length ≤ 1000000 then .ok (.t (.d (.str (Txt.join a ys)))) M1 else .bad
    | _, _ => .bad)
  | none => .bad
theorem opM1_join : OpM1 X joinR (fun x xs H Q => ∃ a p, ∃ ys : List Str, x = .str a ∧ xs = [.ref p] ∧ (SqL X.K H p (ys.map V.str) ∨ SqT X.K H p (ys.map V.str)) ∧ (ys.map (·.length)).sum + ys.length * a.length ≤ 16777216 ∧ Q (.str (Txt.join a ys)) H) := by
  intro W σ w H M a v r1 fp Q m q p
  unfold joinR at p
  cases z : src M r1 with
  | none => rw [z] at p; exact p.elim
  | some s =>
    obtain ⟨s, M4⟩ := s
    obtain ⟨w4, e4, m4, a4⟩ := src_ok m q z
    rw [z] at p
    dsimp only at p
    split at p
    · rename_i ds ys hy
      obtain ⟨b, vs, rfl, h1, h2⟩ := a4
      split at p
      · rename_i hl
        exact ⟨a, b, ys, rfl, rfl, .inl (by rw [← strs_at h2 hy]; exact SqL.of h1), by omega, CE.dat p e4 m4 (.str _)⟩
      · exact p.elim
    · rename_i ds ys hy
      obtain ⟨b, vs, rfl, h1, h2⟩ := a4
      split at p
      · rename_i hl
        exact ⟨a, b, ys, rfl, rfl, .inr (by rw [← strs_at h2 hy]; exact Same.seqT m4.sub h1), by omega, CE.dat p e4 m4 (.str _)⟩
      · exact p.elim
    · exact p.elim
def splitR (a : Str) (r : R) (M : Mst) : Out R := match r with
  | .t (.d (.str b)) => if (b.length == 0) = false ∧ a.length ≤ 1000000 then .ok (.t (.lst (((Txt.split a b).map D.str).map T.d))) M else .bad
  | _ => .bad
theorem opM1_split : OpM1 X splitR (fun x xs H Q => ∃ a b, x = .str a ∧ xs = [.str b] ∧ (b.length == 0) = false ∧ a.length + 2 ≤ sizeLine ∧ rNewStrs (Txt.split a b) H Q) := by
  intro W σ w H M a v r1 fp Q m q p
  unfold splitR at p
  split at p
  · rename_i b
    split at p
    · rename_i hl
      obtain ⟨q, _⟩ := rr_dat q
      cases q
      exact ⟨a, b, rfl, rfl, hl.1, by rw [sizeLine_eq]; omega, fun l hl => CE.lst p (Ext.refl m) m hl (strs_dp _)⟩
    · exact p.elim
  · exact p.elim
def startsR (a : Str) (r : R) (M : Mst) : Out R := match r with
  | .t (.d (.str b)) => .ok (.t (.d (.bl (Txt.startswith a b)))) M
  | _ => .bad
theorem opM1_starts : OpM1 X startsR (fun x xs H Q => ∃ a b, x = .str a ∧ xs = [.str b] ∧ Q (.bl (Txt.startswith a b)) H) := by
  intro W σ w H M a v r1 fp Q m q p
  unfold startsR at p
  split at p
  · rename_i b
    obtain ⟨q, _⟩ := rr_dat q
    cases q
    exact ⟨a, b, rfl, rfl, (p.now m).val (C := fun _ => .t (.d (.str b))) (.bl _)⟩
  · exact p.elim
end
end DL

/-! DL14: a, b = x, y; f-strings; methods of lists -/
namespace DL
open PySem L2 PySem.Spec PyProof.Rows
section
variable {X : Cx} {W : WX} {σ : L2.St} {fs gs : List Addr} {w w2 : Wd} {H H2 : Hp} {M M2 : Mst} {Dn : Ends}
variable {e o i a b c : Expr} {es : List Expr} {F Fa Fb Fc Fo Fi Fe : Den} {A : DenA} {pos p apos cpos p2 : Pos} {x y z m : Str}
/-- a target that is a name, with what it does -/
structure GN (X : Cx) (W : WX) (i : Nat) (G : DenG) : Prop where
  rd : ∀ v σ H Q, rdG X W G v σ H Q → gName i v σ H Q
theorem gn_set (i : Nat) : GN X W i (gSet i) := ⟨fun _ _ _ _ => rd_set⟩
theorem gn_setM (i : Nat) : GN X W i (gSetM i) := ⟨fun _ _ _ _ => rd_setM⟩
def sPar2 (G1 G2 : DenG) (A : DenA) : DenS := fun ρ M => bindS (A ρ M) ρ fun rs M1 => match rs with
  | [r1, r2] => (match G1 r1 ρ M1 with
    | some (ρ1, M2) => (match G2 r2 ρ1 M2 with
      | some (ρ2, M3) => some (.nx ρ2, M3)
      | none => none)
    | none => none)
  | _ => none
def sPar3 (G1 G2 G3 : DenG) (A : DenA) : DenS := fun ρ M => bindS (A ρ M) ρ fun rs M1 => match rs with
  | [r1, r2, r3] => (match G1 r1 ρ M1 with
    | some (ρ1, M2) => (match G2 r2 ρ1 M2 with
      | some (ρ2, M3) => (match G3 r3 ρ2 M3 with
        | some (ρ3, M4) => some (.nx ρ3, M4)
        | none => none)
      | none => none)
    | none => none)
  | _ => none
theorem ds_par2 {G1 G2 : DenG} {i j : Nat} {px py pt : Pos} {kt k2 : Nat} {pt2 : Pos} (g1 : GN X W i G1) (g2 : GN X W j G2) (hc : X.calm = true) (hN : X.N.Nodup) (hi : X.N[i]? = some x) (hj : X.N[j]? = some y) (hij : i ≠ j)
    (hx : X.env.scope.names.lookup x = some .local) (hy : X.env.scope.names.lookup y = some .local) (ha : DA X W [a, b] A)
    (hw : swappedStores [.Tuple [.Name x px, .Name y py] kt pt] (.Tuple [a, b] k2 pt2) X.env = pure (some [x, y]))
    (hs : swapsWithSole [.Tuple [.Name x px, .Name y py] kt pt] (.Tuple [a, b] k2 pt2) pos.line X.env = pure false := by rfl) :
    DS X W (.Assign [.Tuple [.Name x px, .Name y py] kt pt] (.Tuple [a, b] k2 pt2) pos) (sPar2 G1 G2 A) := (ps_par hc hN hi hj hij hx hy ha hw hs).mono fun Dn σ H h => by
  obtain ⟨w, ρ, M, m, er, p⟩ := h
  refine ⟨w, ρ, M, m, er, (p.bindF er).imp fun w1 H1 M1 rs _ _ z => ?_⟩
  obtain ⟨e1, m1, p1⟩ := z
  intro vs fp q hf
  replace p1 := p1 fp hf
  split at p1
  · rename_i r1 r2
    obtain ⟨v, v', f, f', hv, q1, q2, hfp, dj⟩ := q.two
    subst hv hfp
    refine ⟨v, v', rfl, ?_⟩
    refine g1.rd v σ H1 (fun σ1 H2 => Dn.nx (σ1.set j (some v')) H2) ⟨w1, ρ, M1, r1, f, m1, er.stay e1, q1, ?_⟩
    cases z1 : G1 r1 ρ M1 with
    | none => rw [z1] at p1; exact p1
    | some s =>
      obtain ⟨ρ1, M2⟩ := s
      rw [z1] at p1
      intro w2 H2 σ2 e2 m2 er2
      refine g2.rd v' σ2 H2 Dn.nx ⟨w2, ρ1, M2, r2, f', m2, er2, q2.stay e2 fun a ha hb => dj a hb ha, ?_⟩
      dsimp only at p1
      cases z2 : G2 r2 ρ1 M2 with
      | none => rw [z2] at p1; exact p1
      | some s =>
        obtain ⟨ρ2, M3⟩ := s
        rw [z2] at p1
        exact fun w3 H3 σ3 e3 m3 er3 => p1 w3 H3 σ3 ((e2.mono fun a ha => List.mem_append_left _ ha).trans e3 fun a ha => .inr (.inr (List.mem_append_right _ ha))) m3 er3
  · exact p1.elim
end
end DL

/-! DL15: short forms for a program's text; calls with keywords; the law's end -/
namespace DL
open PySem L2 PySem.Spec PyProof.Rows
abbrev subR : R → R → Mst → Out R := sc2 (iOp (fun _ _ => true) (· - ·))
abbrev divR : R → R → Mst → Out R := sc2 (iOp divC (· / ·))
abbrev modR : R → R → Mst → Out R := sc2 (iOp modC (· % ·))
abbrev powR : R → R → Mst → Out R := sc2 (iOp powC fun i j => i ^ j.toNat)
abbrev ltR : R → R → Mst → Out R := sc2 (iRel fun i j => decide (i < j))
abbrev leR : R → R → Mst → Out R := sc2 (iRel fun i j => decide (i ≤ j))
abbrev gtR : R → R → Mst → Out R := sc2 (iRel fun i j => decide (j < i))
abbrev geR : R → R → Mst → Out R := sc2 (iRel fun i j => decide (j ≤ i))
theorem units65 {k : Nat} {A : Around} (r : Room k A) : A.units + 65 < cLine := by have := r.un; omega
section
variable {X : Cx} {W : WX} {σ : L2.St} {fs gs : List Addr} {w w2 : Wd} {H H2 : Hp} {M M2 : Mst} {Dn : Ends}
variable {e o a b c : Expr} {es : List Expr} {F Fa Fb Fc Fo Fi Fe : Den} {A A1 A2 : DenA} {pos p apos cpos p2 : Pos} {x y z m : Str}
/-! ### names of the module -/
theorem de_gint {i : Int} (h : ∃ t, X.mg x = some (.int i t)) (hg : Gl X x) (hd : (x == ("__debug__" : Str)) = false := by decide) : DE X W (.Name x pos) (eC (.int i)) :=
  let ⟨t, h⟩ := h; de_const (v := .int i) (pe_glob hg h ⟨t, rfl⟩ hd) fun _ => .int _
theorem de_gstr {i : Str} (h : ∃ t, X.mg x = some (.str i t)) (hg : Gl X x) (hd : (x == ("__debug__" : Str)) = false := by decide) : DE X W (.Name x pos) (eC (.str i)) :=
  let ⟨t, h⟩ := h; de_const (v := .str i) (pe_glob hg h ⟨t, rfl⟩ hd) fun _ => .str _
theorem de_ty {y : String} (h : X.mg x = none) (hg : Gl X x) (hv : bootBuiltins x = some (.type y)) (hn : x ≠ "__name__" := by decide) (hd : (x == ("__debug__" : Str)) = false := by decide) : DE X W (.Name x pos) (eC (.ty y)) := de_const (v := .ty y) (pe_bltn hg h hv rfl hn hd) fun _ => .ty _
/-- a written tuple of texts -/
def TupS (K : PySem.W.Frag) (a : Addr) (xs : List Str) : Prop := ∃ (o : Obj) (its : Array Value) (n : Nat), K.lookup a = some o ∧ o.cls = .type "tuple" ∧ o.data = .seq its n ∧ its.size ≤ sizeLine ∧ Vals (xs.map V.str) its.toList
theorem de_gtup {xs : List Str} (h : ∃ a, X.mg x = some (.ref a) ∧ TupS X.K a xs) (hg : Gl X x) (hd : (x == ("__debug__" : Str)) = false := by decide) : DE X W (.Name x pos) (eC (.tup (xs.map D.str))) :=
  let ⟨a, h, t⟩ := h; de_const (v := .ref a) (pe_glob hg h rfl hd) fun F => .tup (xs := xs.map V.str) (.inr t) (strs_dp xs)
/-! ### targets -/
theorem pgn (i : Nat) (hN : X.N.Nodup) (hi : X.N[i]? = some x := by rfl) (hx : Loc X.env.scope x := by first | exact Or.inl rfl | exact Or.inr rfl) (hf : X.fn x = true ∨ X.env.scope.names.lookup x = some .local := by first | exact .inl rfl | exact .inr rfl) : PG X (.Name x pos) (gName i) := pg_name hN hi hx hf
theorem dtg_one (i : Nat) (hN : X.N.Nodup) (hi : X.N[i]? = some x := by rfl) (hx : Loc X.env.scope x := by first | exact Or.inl rfl | exact Or.inr rfl) (hf : X.fn x = true ∨ X.env.scope.names.lookup x = some .local := by first | exact .inl rfl | exact .inr rfl) : DTg X (.Name x pos) (.one i) := pg_name hN hi hx hf
def PGN (X : Cx) (es : List Expr) (is : List Nat) : Prop := PGs X es (gNames is)
theorem pgn_nil : PGN X [] [] := pgs_nil
theorem pgn_cons {is : List Nat} (i : Nat) (hN : X.N.Nodup) (h : PGN X es is) (hi : X.N[i]? = some x := by rfl) (hx : Loc X.env.scope x := by first | exact Or.inl rfl | exact Or.inr rfl) (hf : X.fn x = true ∨ X.env.scope.names.lookup x = some .local := by first | exact .inl rfl | exact .inr rfl)
    (hs : (assignEach (.Name x pos :: es) X.env).map (·.2) = assign (.Name x pos) X.env :: (assignEach es X.env).map (·.2) := by rfl) : PGN X (.Name x pos :: es) (i :: is) := pgs_cons (pg_name hN hi hx hf) h hs
theorem dtg_many {is : List Nat} {k : Nat} (hc : X.calm = true) (h : PGN X es is) (hn : (assignEach es X.env).length = is.length := by rfl) (hst : (assignEach es X.env).findIdx? (·.1) = none := by rfl) : DTg X (.Tuple es k pos) (.many is) := pg_tup hc h hn hst
theorem dgn (i : Nat) (hN : X.N.Nodup) (hi : X.N[i]? = some x := by rfl) (hx : Loc X.env.scope x := by first | exact Or.inl rfl | exact Or.inr rfl) (hf : X.fn x = true ∨ X.env.scope.names.lookup x = some .local := by first | exact .inl rfl | exact .inr rfl) : DG X W (.Name x pos) (gSet i) := dg_name i (pg_name hN hi hx hf)
theorem dgnM (i : Nat) (hN : X.N.Nodup) (hi : X.N[i]? = some x := by rfl) (hx : Loc X.env.scope x := by first | exact Or.inl rfl | exact Or.inr rfl) (hf : X.fn x = true ∨ X.env.scope.names.lookup x = some .local := by first | exact .inl rfl | exact .inr rfl) : DG X W (.Name x pos) (gSetM i) := dg_nameM i (pg_name hN hi hx hf)
theorem dset (i : Nat) {pos' : Pos} (hN : X.N.Nodup) (he : DE X W e Fe) (hi : X.N[i]? = some x := by rfl) (hx : Loc X.env.scope x := by first | exact Or.inl rfl | exact Or.inr rfl) (hs : swapsWith e (some (.Name x pos')) pos.line X.env = pure false := by rfl) (hf : X.fn x = true ∨ X.env.scope.names.lookup x = some .local := by first | exact .inl rfl | exact .inr rfl) :
    DS X W (.Assign [.Name x pos'] e pos) (sAsg Fe (gSet i)) := ds_set hN hi hx he hs hf
theorem dsetM (i : Nat) {pos' : Pos} (hN : X.N.Nodup) (he : DE X W e Fe) (hi : X.N[i]? = some x := by rfl) (hx : Loc X.env.scope x := by first | exact Or.inl rfl | exact Or.inr rfl) (hs : swapsWith e (some (.Name x pos')) pos.line X.env = pure false := by rfl) (hf : X.fn x = true ∨ X.env.scope.names.lookup x = some .local := by first | exact .inl rfl | exact .inr rfl) :
    DS X W (.Assign [.Name x pos'] e pos) (sAsg Fe (gSetM i)) := ds_setM hN hi hx he hs hf

/-! ### keywords -/
def DK (X : Cx) (W : WX) (kws : List Keyword) (A : DenA) : Prop := PK X kws (rdA X W A)
theorem _root_.L2.PK.mono {kws : List Keyword} {t t' : TA} (h : PK X kws t) (k : ∀ σ H Q, t' σ H Q → t σ H Q) : PK X kws t' := ⟨fun pos pins s σ H Q I q => h.run pos pins s σ H Q I (k _ _ _ q)⟩
theorem dk_nil : DK X W [] eNil := pk_nil.mono fun σ H Q h => by
  obtain ⟨w, ρ, M, m, er, p⟩ := h
  exact p.now m [] [] .nil fun _ z => nomatch z
theorem dk_cons {kws : List Keyword} {nm : Option Str} {kpos : Pos} (ha : DE X W e Fe) (hr : DK X W kws A) : DK X W (⟨nm, e, kpos⟩ :: kws) (eCons Fe A) := (pk_cons ha hr).mono fun _ _ _ h => rd_cons h
/-- all arguments, as the parameters stand: the i-th parameter is the (π i)-th written argument -/
def permL {α : Type} (π : List Nat) (d : α) (xs : List α) : List α := π.map fun i => xs.getD i d
/-- f called with n positional arguments and the keywords ks -/
def FOkK (P : Program) (w : World) (K : PySem.W.Frag) (mg : Mg) (base : Heap) (k : Nat) (f : Addr) (ks : List Str) (π : List Nat) (G : Fn) : Prop :=
  ∃ fd ps, ps.length = π.length ∧ FnOk P w K mg base (L2.CX P w) k f fd ps (spD K mg ps.length G) ∧ ∀ (s : Shared) (us ws : List Value), us.length + ks.length = π.length → ws.length = ks.length → BindsTo s fd ⟨us, ks.zip ws⟩ (ps.zip (permL π .none (us ++ ws)))
theorem perm_vals {xs : List V} {us : List Value} (r : Vals xs us) (π : List Nat) : Vals (permL π .non xs) (permL π .none us) := by
  unfold permL
  induction π with
  | nil => exact .nil
  | cons i r' ih =>
    rw [List.map_cons, List.map_cons]
    refine .cons ?_ ih
    rw [List.getD_eq_getElem?_getD, List.getD_eq_getElem?_getD]
    cases z : xs[i]? with
    | none => rw [r.none_of z]; rfl
    | some v => obtain ⟨u, h1, h2⟩ := r.get z; rw [h1]; exact h2
theorem perm_sv {K : PySem.W.Frag} {mg : Mg} {vs : List V} {xs : List SV} (r : VRL K mg w M vs xs) (π : List Nat) : VRL K mg w M (permL π .non vs) (permL π (.d .non) xs) := by
  unfold permL
  induction π with
  | nil => exact .nil
  | cons i r' ih =>
    rw [List.map_cons, List.map_cons]
    refine .cons ?_ ih
    rw [List.getD_eq_getElem?_getD, List.getD_eq_getElem?_getD]
    cases z : xs[i]? with
    | none =>
      have : vs[i]? = none := by
        rw [List.getElem?_eq_none_iff] at z ⊢
        rw [r.length]; exact z
      rw [this]; exact Dp.non
    | some x => obtain ⟨u, h1, h2⟩ := r.get z; rw [h1]; exact h2
theorem run_K {k : Nat} {f : Addr} {ks : List Str} {π : List Nat} {G : Fn} (F : FOkK X.prog X.w X.K X.mg X.base k f ks π G) (hr : Room k X.A) (tk : Takes X W) {pins : List (Addr × Obj)} {s : Shared} {Q : VK} {us ws : List Value} {vs zs : List V}
    (I : Inv X pins σ H s) (r : Vals vs us) (rz : Vals zs ws) (h1 : us.length + ks.length = π.length) (h2 : ws.length = ks.length) (h : spD X.K X.mg π.length G (permL π .non (vs ++ zs)) H Q (WE W σ)) : wpAny (model X.prog X.w) X.A (call (.ref f) us (ks.zip ws)) (EP X pins σ Q) X.xe s := by
  obtain ⟨fd, ps, hps, F, hb⟩ := F
  rw [← hps] at h
  refine wpAny_call (codeAny_mono (F.run X.A X.stack s H ⟨us, ks.zip ws⟩ (permL π .none (us ++ ws)) (permL π .non (vs ++ zs)) Q (WE W σ) hr I.env0 (hb s us ws h1 h2) (perm_vals (r.append rz) π) h) fun r s' hq => ?_)
  cases r with
  | error e => exact (passAt tk σ) pins H s e s' I hq
  | ok fl =>
    cases fl with
    | ret u => exact I.after hq
    | next => exact False.elim hq
    | brk => exact False.elim hq
    | cont => exact False.elim hq
def eCallK (G : Fn) (π : List Nat) (A : DenA) : Den := fun ρ M => (A ρ M).bind fun rs M1 => if rs.length = π.length then G (permL π (.d .non) (rs.map svR)) M1 else .bad
/-- f(k = e, ..) -/
theorem de_callK0 {kws : List Keyword} {k : Nat} {f : Addr} {ks : List Str} {π : List Nat} {G : Fn} (F : FOkK X.prog X.w X.K X.mg X.base k f ks π G) (hr : Room k X.A) (tk : Takes X W) (hg : Gl X x) (hm : X.mg x = some (.ref f)) (hk : PySem.W.keepIn X.K (.ref f) = true) (hkw : DK X W kws A)
    (hl : ks.length = π.length := by rfl) (hall : (backToKw pos (keywordEach kws X.env)).all (·.1.isSome) = true := by rfl) (hks : (backToKw pos (keywordEach kws X.env)).filterMap (·.1) = ks := by rfl)
    (hdb : (x == ("__debug__" : Str)) = false := by decide) (hpl : ((backTo pos (starEach [] X.env)).any (·.1) || (backToKw pos (keywordEach kws X.env)).any (·.1.isNone)) = false := by rfl) :
    DE X W (.Call (.Name x p) [] kws pos) (eCallK G π A) := by
  refine ⟨fun pins s σ H Q I h => ?_⟩
  obtain ⟨w, ρ, M, m, er, q⟩ := h
  refine wpAny_Call_Name_kw (ld_glob I hg hm ?_ hdb)
  refine PySem.W.callWith_KW0 (h₀ := X.base) I.ok.mod.kin hk hall ?_ hpl
  refine thn (hkw.run pos pins s σ H (fun vs H1 => vs.length = π.length ∧ spD X.K X.mg π.length G (permL π .non vs) H1 Q (WE W σ)) I ⟨w, ρ, M, m, er, q.bindF.imp fun w1 H1 M1 rs _ _ z => ?_⟩) fun ws s2 hh => ?_
  · obtain ⟨e1, m1, p1⟩ := z
    intro vs fp q hf
    replace p1 := p1 fp hf
    split at p1
    · rename_i hn
      obtain ⟨w2, e2, m2, v2⟩ := settleL m1 q
      exact ⟨by rw [q.length]; exact hn, w2, _, M1, m2, perm_sv v2 π, by simp [permL], PostC.of p1 e1 hf e2⟩
    · exact p1.elim
  · obtain ⟨zs, H2, I2, rz, hn, q2⟩ := hh
    refine ⟨I2.kIn, ?_⟩
    rw [hks]
    exact run_K F hr tk I2 .nil rz (by simpa using hl) (by rw [← rz.length]; omega) q2

theorem FOkK.of {P : Program} {w : World} {K : PySem.W.Frag} {mg : Mg} {base : Heap} {k : Nat} {f : Addr} {fd : FuncData} {ps ks : List Str} {π : List Nat} {G : Fn} (F : FnOk P w K mg base (L2.CX P w) k f fd ps (spD K mg ps.length G)) (hp : ps.length = π.length)
    (hb : ∀ (s : Shared) (us ws : List Value), us.length + ks.length = π.length → ws.length = ks.length → BindsTo s fd ⟨us, ks.zip ws⟩ (ps.zip (permL π .none (us ++ ws)))) : FOkK P w K mg base k f ks π G := ⟨fd, ps, hp, F, hb⟩
theorem fn_okE {P : Program} {w : World} {K : PySem.W.Frag} {mg : Mg} {base : Heap} {x qual : Str} {st : Stmt} {f : Addr} {fd : FuncData} {N ps : List Str} {k : Nat} {G : Fn} {b' : DenS} (F : Fun K x qual st f fd) (S : FnScope N ps (defScope st))
    (h : ∀ (cdv : Value) (A : Around) (outer : List Env) (s : Shared) (H : Hp) (E : XK), Room k (A.deeper (envOfC qual (defScope st) s.heap.objs.size f cdv)) → Takes (cxOf (L2.CX P w) P w K mg base N qual (defScope st) f cdv A outer s H E) (fun cls d _ H => E cls d H) →
      PassesOwn (model P w) (A.deeper (envOfC qual (defScope st) s.heap.objs.size f cdv)) (cxOf (L2.CX P w) P w K mg base N qual (defScope st) f cdv A outer s H E).env (cxOf (L2.CX P w) P w K mg base N qual (defScope st) f cdv A outer s H E).xe →
      DB (cxOf (L2.CX P w) P w K mg base N qual (defScope st) f cdv A outer s H E) (fun cls d _ H => E cls d H) (defBody st) b') (e : G = body N.length b') : FnOk P w K mg base (L2.CX P w) (k + 1) f fd ps (spD K mg ps.length G) := by
  subst e
  exact fn_okF F S h
/-- depth 0 of a recursion -/
theorem bad_okF {P : Program} {w : World} {K : PySem.W.Frag} {mg : Mg} {base : Heap} {x qual : Str} {st : Stmt} {f : Addr} {fd : FuncData} {N ps : List Str} {k : Nat} (F : Fun K x qual st f fd) (S : FnScope N ps (defScope st)) : FnOk P w K mg base (L2.CX P w) (k + 1) f fd ps (spD K mg ps.length fun _ _ => .bad) :=
  (fn_okF F S fun _ _ _ _ _ _ _ _ _ => db_never).imp fun vs H Q E h => by
    obtain ⟨_, _, _, _, _, _, z⟩ := h
    exact z.elim
/-! ### the law's end -/
theorem ints_dpK {K : PySem.W.Frag} {mg : Mg} {F : Hp} : ∀ is : List Int, DpL K mg F (is.map V.int) (is.map D.int)
  | [] => .nil
  | i :: is => .cons (Dp.int i) (ints_dpK is)
def spLaw (K : PySem.W.Frag) : Sp := fun vs H Q _ => ∃ (a : Addr) (ns : List Int), vs = [.ref a] ∧ SqL K H a (ns.map V.int) ∧ ns.length ≤ 63 ∧ ∀ H', Q (.bl true) H'
theorem FOk.law {P : Program} {w : World} {K : PySem.W.Frag} {mg : Mg} {base : Heap} {k : Nat} {f : Addr} {x : Str} {G : Fn} (F : FOk P w K mg base k f [x] G)
    (h : ∀ ns : List Int, ns.length ≤ 63 → ∃ M, G [.d (.ro (ns.map D.int))] [] = .ok (.t (.d (.bl true))) M) : ∃ fd, FnOk P w K mg base (L2.CX P w) k f fd [x] (spLaw K) ∧ Binds K fd [x] [] := by
  obtain ⟨fd, F, hb⟩ := F
  refine ⟨fd, F.imp fun vs H Q E ⟨a, ns, hv, hs, hl, hq⟩ => ?_, hb⟩
  subst hv
  obtain ⟨M', hM⟩ := h ns hl
  refine ⟨⟨H, fun _ => 0, fun _ => []⟩, [.d (.ro (ns.map D.int))], [], ⟨Same.refl _, (fun k t e => by simp at e), fun j k a hj => by simp at hj⟩, .cons (Dp.ro hs (ints_dpK ns)) .nil, rfl, ?_⟩
  rw [hM]
  intro w' H' v fp e m q _
  rw [rr_bl q]
  exact hq H'
theorem fn_law {P : Program} {w : World} {K : PySem.W.Frag} {mg : Mg} {base : Heap} {k : Nat} {f : Addr} {fd : FuncData} {x : Str} {G : Fn} (F : FnOk P w K mg base (L2.CX P w) k f fd [x] (spD K mg ([x] : List Str).length G))
    (h : ∀ ns : List Int, ns.length ≤ 63 → ∃ M, G [.d (.ro (ns.map D.int))] [] = .ok (.t (.d (.bl true))) M) : FnOk P w K mg base (L2.CX P w) k f fd [x] (spLaw K) := F.imp fun vs H Q E ⟨a, ns, hv, hs, hl, hq⟩ => by
  subst hv
  obtain ⟨M', hM⟩ := h ns hl
  refine ⟨⟨H, fun _ => 0, fun _ => []⟩, [.d (.ro (ns.map D.int))], [], ⟨Same.refl _, (fun k t e => by simp at e), fun j k a hj => by simp at hj⟩, .cons (Dp.ro hs (ints_dpK ns)) .nil, rfl, ?_⟩
  rw [hM]
  intro w' H' v fp e m q _
  rw [rr_bl q]
  exact hq H'
theorem cx_no {P : Program} {w : World} (H : Hp) (s : Shared) (e : Value) (s' : Shared) (h : L2.CX P w [] H s (fun _ _ _ => False) e s') : False := by
  obtain ⟨_, _, _, _, _, _, _, _, _, _, _, _, z⟩ := h
  exact z
end
end DL

/-! What each def does, by plain data (printed by gen.py) -/
namespace Toy
open PySem L2 DL
def t_is_word_0 : DenS :=
  (sIf (tOrD (tNotD (eTru (eB isiR (eCons (eVar 0) (eCons (eC (.ty "str")) eNil))))) (tNotD (eTB (eChain leR leR (eC (.int 1)) (eB (scL lenD) (eCons (eVar 0) eNil)) (eVar 1))))) (sRet (eC (.bl false))) sNil)
def t_is_word_1 : DenS :=
  (sRet (eB (scL allDD) (eCons (eLc (iOf (eVar 0)) (.one 2) [2] tYesD (eSeq2 (sc2 (inOp false)) (eVar 2) (eC (.str "abcdefghijklmnopqrstuvwxyz")))) eNil)))
def b_is_word : DenS :=
  (sSeq t_is_word_0 t_is_word_1)
def m_is_word : Fn := body 3 b_is_word
def b_is_kind : DenS :=
  (sRet (eCall m_is_word (eArity 2 (eCons (eVar 0) (eCons (eC (.int 6)) eNil)))))
def m_is_kind : Fn := body 1 b_is_kind
def b_is_name : DenS :=
  (sRet (eCall m_is_word (eArity 2 (eCons (eVar 0) (eCons (eC (.int 8)) eNil)))))
def m_is_name : Fn := body 1 b_is_name
def t_zreel_0 : DenS :=
  (sAsg (eB listR (eCons (eSl (eVar 0) oNone (oSome (eC (.int 63)))) eNil)) (gSet 1))
def t_zreel_1 : DenS :=
  (sRet (eLst (eCons (eVar 1) (eCons (eC (.int 0)) (eCons (eC (.int 0)) (eCons (eSeq2 addR (eC (.int 12011)) (eSeq2 mulR (eC (.int 7)) (eB (scL lenD) (eCons (eVar 1) eNil)))) eNil))))))
def b_zreel : DenS :=
  (sSeq t_zreel_0 t_zreel_1)
def m_zreel : Fn := body 2 b_zreel
def t_zdraw_0 : DenS :=
  (sIf (tAndD (eTB (eSeq2 eqR (eSeq2 getR (eVar 0) (eC (.int 2))) (eC (.int 0)))) (eTB (eSeq2 ltR (eSeq2 getR (eVar 0) (eC (.int 1))) (eB (scL lenD) (eCons (eSeq2 getR (eVar 0) (eC (.int 0))) eNil))))) (sSeq (sAsg (eSeq2 getR (eSeq2 getR (eVar 0) (eC (.int 0))) (eSeq2 getR (eVar 0) (eC (.int 1)))) (gSet 2))
    (sSeq (sAsg (eSeq2 addR (eSeq2 getR (eVar 0) (eC (.int 1))) (eC (.int 1))) (gItem (eVar 0) (eC (.int 1))))
    (sIf (eTB (eSeq2 gtR (eVar 2) (eSeq2 powR (eC (.int 10)) (eC (.int 18))))) (sAsg (eVar 2) (gItem (eVar 0) (eC (.int 2)))) (sAsg (eSeq2 modR (eB (scL intD) (eCons (eSeq2 addR (eSeq2 addR (eSeq2 mulR (eSeq2 getR (eVar 0) (eC (.int 3))) (eC (.int 48611))) (eSeq2 mulR (eSeq2 modR (eB (scL intD) (eCons (eVar 2) eNil)) (eC (.int 1000003))) (eC (.int 7919)))) (eC (.int 104729))) eNil)) (eC
        (.int 1000000007))) (gItem (eVar 0) (eC (.int 3))))))) sNil)
def t_zdraw_1 : DenS :=
  (sIf (eTB (eSeq2 gtR (eSeq2 getR (eVar 0) (eC (.int 2))) (eC (.int 0)))) (sSeq (sAsg (eSeq2 modR (eB (scL intD) (eCons (eSeq2 getR (eVar 0) (eC (.int 2))) eNil)) (eVar 1)) (gSet 3))
    (sSeq (sAsg (eSeq2 divR (eSeq2 getR (eVar 0) (eC (.int 2))) (eVar 1)) (gItem (eVar 0) (eC (.int 2))))
    (sRet (eVar 3)))) sNil)
def t_zdraw_2 : DenS :=
  (sAsg (eSeq2 modR (eB (scL intD) (eCons (eSeq2 addR (eSeq2 mulR (eSeq2 getR (eVar 0) (eC (.int 3))) (eSeq2 getR (eVar 0) (eC (.int 3)))) (eSeq2 mulR (eSeq2 getR (eVar 0) (eC (.int 3))) (eC (.int 31)))) eNil)) (eC (.int 1000000007))) (gSet 4))
def t_zdraw_3 : DenS :=
  (sAsg (eSeq2 modR (eB (scL intD) (eCons (eSeq2 addR (eSeq2 addR (eSeq2 mulR (eVar 4) (eC (.int 69621))) (eSeq2 mulR (eSeq2 getR (eVar 0) (eC (.int 3))) (eC (.int 40014)))) (eC (.int 25013))) eNil)) (eC (.int 1000000007))) (gItem (eVar 0) (eC (.int 3))))
def t_zdraw_4 : DenS :=
  (sRet (eSeq2 modR (eB (scL intD) (eCons (eSeq2 addR (eSeq2 divR (eSeq2 getR (eVar 0) (eC (.int 3))) (eC (.int 53))) (eSeq2 mulR (eSeq2 modR (eB (scL intD) (eCons (eSeq2 getR (eVar 0) (eC (.int 3))) eNil)) (eC (.int 9973))) (eC (.int 97)))) eNil)) (eVar 1)))
def b_zdraw : DenS :=
  (sSeq t_zdraw_0 (sSeq t_zdraw_1 (sSeq t_zdraw_2 (sSeq t_zdraw_3 t_zdraw_4))))
def m_zdraw : Fn := body 5 b_zdraw
def b_zof : DenS :=
  (sRet (eSeq2 getR (eVar 1) (eCall m_zdraw (eArity 2 (eCons (eVar 0) (eCons (eB (scL lenD) (eCons (eVar 1) eNil)) eNil))))))
def m_zof : Fn := body 2 b_zof
def t_zsame_0 (rec : Fn) : DenS :=
  (sIf (tOrD (eTB (eSeq2 (sc2 (isN false)) (eVar 1) (eC .non))) (eTB (eSeq2 (sc2 (isN false)) (eVar 0) (eC .non)))) (sRet (eAnd (eSeq2 (sc2 (isN false)) (eVar 1) (eC .non)) (eSeq2 (sc2 (isN false)) (eVar 0) (eC .non)))) sNil)
def t_zsame_1 (rec : Fn) : DenS :=
  (sIf (eTru (eB isiR (eCons (eVar 1) (eCons (eC (.ty "list")) eNil)))) (sSeq (sIf (tOrD (tNotD (eTru (eB isiR (eCons (eVar 0) (eCons (eC (.ty "list")) eNil))))) (eTB (eSeq2 neR (eB (scL lenD) (eCons (eVar 0) eNil)) (eB (scL lenD) (eCons (eVar 1) eNil))))) (sRet (eC (.bl false))) sNil)
    (sRet (eB (scL allDD) (eCons (eLc (iZipD (eCons (eVar 0) (eCons (eVar 1) eNil))) (.many [2, 3]) [2, 3] tYesD (eCall rec (eArity 2 (eCons (eVar 2) (eCons (eVar 3) eNil))))) eNil)))) sNil)
def t_zsame_2 (rec : Fn) : DenS :=
  (sIf (eTru (eB isiR (eCons (eVar 1) (eCons (eC (.ty "tuple")) eNil)))) (sSeq (sIf (tOrD (tNotD (eTru (eB isiR (eCons (eVar 0) (eCons (eC (.ty "tuple")) eNil))))) (eTB (eSeq2 neR (eB (scL lenD) (eCons (eVar 0) eNil)) (eB (scL lenD) (eCons (eVar 1) eNil))))) (sRet (eC (.bl false))) sNil)
    (sRet (eB (scL allDD) (eCons (eLc (iZipD (eCons (eVar 0) (eCons (eVar 1) eNil))) (.many [2, 3]) [2, 3] tYesD (eCall rec (eArity 2 (eCons (eVar 2) (eCons (eVar 3) eNil))))) eNil)))) sNil)
def t_zsame_3 (rec : Fn) : DenS :=
  (sIf (eTru (eB isiR (eCons (eVar 1) (eCons (eC (.ty "bool")) eNil)))) (sRet (eAnd (eB isiR (eCons (eVar 0) (eCons (eC (.ty "bool")) eNil))) (eSeq2 eqR (eVar 0) (eVar 1)))) sNil)
def t_zsame_4 (rec : Fn) : DenS :=
  (sIf (eTru (eB isiR (eCons (eVar 1) (eCons (eC (.ty "int")) eNil)))) (sRet (eAnd (eB isiR (eCons (eVar 0) (eCons (eC (.ty "int")) eNil))) (eAnd (eNot (eB isiR (eCons (eVar 0) (eCons (eC (.ty "bool")) eNil)))) (eSeq2 eqR (eVar 0) (eVar 1))))) sNil)
def t_zsame_5 (rec : Fn) : DenS :=
  (sRet (eAnd (eB isiR (eCons (eVar 0) (eCons (eC (.ty "str")) eNil))) (eSeq2 eqR (eVar 0) (eVar 1))))
def b_zsame (rec : Fn) : DenS :=
  (sSeq (t_zsame_0 rec) (sSeq (t_zsame_1 rec) (sSeq (t_zsame_2 rec) (sSeq (t_zsame_3 rec) (sSeq (t_zsame_4 rec) (t_zsame_5 rec))))))
def m_zsame : Nat → Fn
  | 0 => fun _ _ => .bad
  | n + 1 => body 4 (b_zsame (m_zsame n))
def t_zwords_0 : DenS :=
  (sAsg (eC (.str "abcdefghijklmnopqrstuvwxyz")) (gSet 3))
def t_zwords_1 : DenS :=
  (sAsg (eM1 joinR (eC (.str "")) (eLc (iRange1 (eCons (eCall m_zdraw (eArity 2 (eCons (eVar 0) (eCons (eVar 2) eNil)))) eNil)) (.one 8) [8] tYesD (eCall m_zof (eArity 2 (eCons (eVar 0) (eCons (eVar 3) eNil)))))) (gSet 4))
def t_zwords_2 : DenS :=
  (sAsg (eTup (eCons (eCall m_zdraw (eArity 2 (eCons (eVar 0) (eCons (eSeq2 addR (eB (scL lenD) (eCons (eVar 4) eNil)) (eC (.int 1))) eNil)))) (eCons (eCall m_zdraw (eArity 2 (eCons (eVar 0) (eCons (eC (.int 26)) eNil)))) eNil))) (gTupD 2 (gConsD (gSet 5) (gConsD (gSet 6) gNilD))))
def t_zwords_3 : DenS :=
  (sAsg (eLc (iRange1 (eCons (eVar 1) eNil)) (.one 8) [8] tYesD (eSeq2 addR (eVar 5) (eCall m_zdraw (eArity 2 (eCons (eVar 0) (eCons (eSeq2 addR (eSeq2 subR (eB (scL lenD) (eCons (eVar 4) eNil)) (eVar 5)) (eC (.int 1))) eNil)))))) (gSet 7))
def t_zwords_4 : DenS :=
  (sRet (eLc (iRange1 (eCons (eVar 1) eNil)) (.one 8) [8] tYesD (eSeq2 addR (eSeq2 addR (eSl (eVar 4) oNone (oSome (eVar 5))) (eSeq2 getR (eVar 3) (eSeq2 modR (eB (scL intD) (eCons (eSeq2 addR (eVar 6) (eSeq2 mulR (eC (.int 11)) (eVar 8))) eNil)) (eC (.int 26))))) (eSl (eVar 4) (oSome (eVar 5)) (oSome (eSeq2 getR (eVar 7) (eVar 8)))))))
def b_zwords : DenS :=
  (sSeq t_zwords_0 (sSeq t_zwords_1 (sSeq t_zwords_2 (sSeq t_zwords_3 t_zwords_4))))
def m_zwords : Fn := body 9 b_zwords
def b_zkinds : DenS :=
  (sRet (eCall m_zwords (eArity 3 (eCons (eVar 0) (eCons (eVar 1) (eCons (eC (.int 6)) eNil))))))
def m_zkinds : Fn := body 2 b_zkinds
def t_law_0 : DenS :=
  (sAsg (eCall m_zreel (eArity 1 (eCons (eVar 0) eNil))) (gSetM 1))
def t_law_1 : DenS :=
  (sPar2 (gSet 2) (gSet 3) (eCons (eCall m_zkinds (eArity 2 (eCons (eVar 1) (eCons (eC (.int 4)) eNil)))) (eCons (eCall m_zwords (eArity 3 (eCons (eVar 1) (eCons (eC (.int 4)) (eCons (eC (.int 8)) eNil))))) eNil)))
def t_law_2 : DenS :=
  (sIf (tNotD (eTru (eCall (m_zsame 3) (eArity 2 (eCons (eLc (iOf (eSeq2 addR (eVar 2) (eSl (eVar 3) oNone (oSome (eC (.int 0)))))) (.one 10) [10] tYesD (eCall m_is_kind (eArity 1 (eCons (eVar 10) eNil)))) (eCons (eSeq2 mulR (eLst (eCons (eC (.bl true)) eNil)) (eC (.int 4))) eNil)))))) (sRet (eC (.bl false))) sNil)
def t_law_3 : DenS :=
  (sIf (tNotD (eTru (eCall (m_zsame 3) (eArity 2 (eCons (eLc (iOf (eSeq2 addR (eVar 3) (eVar 2))) (.one 10) [10] tYesD (eCall m_is_name (eArity 1 (eCons (eVar 10) eNil)))) (eCons (eSeq2 mulR (eLst (eCons (eC (.bl true)) eNil)) (eC (.int 8))) eNil)))))) (sRet (eC (.bl false))) sNil)
def t_law_4 : DenS :=
  (sAsg (eCall m_zdraw (eArity 2 (eCons (eVar 1) (eCons (eSeq2 addR (eB (scL lenD) (eCons (eSeq2 getR (eVar 2) (eC (.int 0))) eNil)) (eC (.int 1))) eNil)))) (gSet 4))
def t_law_5 : DenS :=
  (sAsg (eCall m_zof (eArity 2 (eCons (eVar 1) (eCons (eLst (eCons (eC (.str "A")) (eCons (eC (.str "_")) (eCons (eC (.str "1")) (eCons (eC (.str " ")) (eCons (eC (.str "-")) (eCons (eC (.str "~")) (eCons (eC (.str "\n")) (eCons (eC (.str ":")) (eCons (eC (.str "Z")) eNil)))))))))) eNil)))) (gSet 5))
def t_law_6 : DenS :=
  (sAsg (eSeq2 addR (eSeq2 addR (eSl (eSeq2 getR (eVar 2) (eC (.int 0))) oNone (oSome (eVar 4))) (eVar 5)) (eSl (eSeq2 getR (eVar 2) (eC (.int 0))) (oSome (eVar 4)) oNone)) (gSet 6))
def t_law_7 : DenS :=
  (sAsg (eSeq2 addR (eSeq2 getR (eVar 3) (eC (.int 0))) (eSl (eC (.str "abcdefgh")) (oSome (eB (scL lenD) (eCons (eSeq2 getR (eVar 3) (eC (.int 0))) eNil))) oNone)) (gSet 7))
def t_law_8 : DenS :=
  (sAsg (eLst (eCons (eVar 6) (eCons (eC (.str "")) (eCons (eC .non) (eCons (eC (.int 3)) (eCons (eC (.bl true)) (eCons (eTup (eCons (eC (.str "a")) eNil)) (eCons (eLst (eCons (eC (.str "a")) eNil)) (eCons (eTup eNil) (eCons (eSeq2 addR (eVar 7) (eC (.str "a"))) (eCons (eSeq2 addR (eSeq2 getR (eVar 2) (eC (.int 1))) (eC (.str " "))) (eCons (eC (.str "\n")) eNil)))))))))))) (gSet 8))
def t_law_9 : DenS :=
  (sAsg (eSeq2 addR (eLc (iOf (eVar 8)) (.one 11) [11] tYesD (eCall m_is_kind (eArity 1 (eCons (eVar 11) eNil)))) (eLc (iOf (eVar 8)) (.one 11) [11] tYesD (eCall m_is_name (eArity 1 (eCons (eVar 11) eNil))))) (gSet 9))
def t_law_10 : DenS :=
  (sIf (tNotD (eTru (eCall (m_zsame 3) (eArity 2 (eCons (eVar 9) (eCons (eSeq2 mulR (eLst (eCons (eC (.bl false)) eNil)) (eC (.int 22))) eNil)))))) (sRet (eC (.bl false))) sNil)
def t_law_11 : DenS :=
  (sAsg (eLst (eCons (eCall m_is_kind (eArity 1 (eCons (eVar 7) eNil))) (eCons (eCall m_is_name (eArity 1 (eCons (eVar 7) eNil))) (eCons (eCall m_is_kind (eArity 1 (eCons (eSl (eVar 7) oNone (oSome (eC (.int 6)))) eNil))) (eCons (eCall m_is_kind (eArity 1 (eCons (eSl (eVar 7) oNone (oSome (eC (.int 7)))) eNil))) (eCons (eCallK m_is_kind [0] (eCons (eC (.str "sum")) eNil)) (eCons
        (eCallK m_is_name [0] (eCons (eC (.str "plan")) eNil)) eNil))))))) (gSet 9))
def t_law_12 : DenS :=
  (sRet (eCall (m_zsame 3) (eArity 2 (eCons (eSeq2 addR (eVar 9) (eLst (eCons (eC (.tup ((["sum", "greatest", "least", "bag"] : List Str).map D.str))) eNil))) (eCons (eLst (eCons (eC (.bl false)) (eCons (eC (.bl true)) (eCons (eC (.bl true)) (eCons (eC (.bl false)) (eCons (eC (.bl true)) (eCons (eC (.bl true)) (eCons (eTup (eCons (eC (.str "sum")) (eCons (eC (.str "greatest")) (eCons (eC
        (.str "least")) (eCons (eC (.str "bag")) eNil))))) eNil)))))))) eNil)))))
def b_law : DenS :=
  (sSeq t_law_0 (sSeq t_law_1 (sSeq t_law_2 (sSeq t_law_3 (sSeq t_law_4 (sSeq t_law_5 (sSeq t_law_6 (sSeq t_law_7 (sSeq t_law_8 (sSeq t_law_9 (sSeq t_law_10 (sSeq t_law_11 t_law_12))))))))))))
def m_law : Fn := body 12 b_law
end Toy

/-! The walk: the code does so (printed by gen.py) -/
namespace Toy
open PySem L2 DL
def top (i : Nat) : Stmt := PySem.Challenge.pw_twoabreast_k02_kinds_and_names.main.body.getD i (.Pass ⟨0, 0, 0, 0⟩)
abbrev s_is_word : Stmt := top 5
abbrev s_is_kind : Stmt := top 6
abbrev s_is_name : Stmt := top 7
abbrev s_zreel : Stmt := top 9
abbrev s_zdraw : Stmt := top 10
abbrev s_zof : Stmt := top 11
abbrev s_zsame : Stmt := top 12
abbrev s_zwords : Stmt := top 13
abbrev s_zkinds : Stmt := top 14
abbrev s_law : Stmt := top 15
structure Ad where
  a_is_word : Addr
  a_is_kind : Addr
  a_is_name : Addr
  a_zreel : Addr
  a_zdraw : Addr
  a_zof : Addr
  a_zsame : Addr
  a_zwords : Addr
  a_zkinds : Addr
  a_law : Addr
structure Txt (K : PySem.W.Frag) (mg : Str → Option Value) (d : Ad) : Prop where
  g_is_word : mg "is_word" = some (.ref d.a_is_word)
  k_is_word : PySem.W.keepIn K (.ref d.a_is_word) = true
  g_is_kind : mg "is_kind" = some (.ref d.a_is_kind)
  k_is_kind : PySem.W.keepIn K (.ref d.a_is_kind) = true
  g_is_name : mg "is_name" = some (.ref d.a_is_name)
  k_is_name : PySem.W.keepIn K (.ref d.a_is_name) = true
  g_zreel : mg "_law_reel" = some (.ref d.a_zreel)
  k_zreel : PySem.W.keepIn K (.ref d.a_zreel) = true
  g_zdraw : mg "_law_draw" = some (.ref d.a_zdraw)
  k_zdraw : PySem.W.keepIn K (.ref d.a_zdraw) = true
  g_zof : mg "_law_of" = some (.ref d.a_zof)
  k_zof : PySem.W.keepIn K (.ref d.a_zof) = true
  g_zsame : mg "_law_same" = some (.ref d.a_zsame)
  k_zsame : PySem.W.keepIn K (.ref d.a_zsame) = true
  g_zwords : mg "_law_words" = some (.ref d.a_zwords)
  k_zwords : PySem.W.keepIn K (.ref d.a_zwords) = true
  g_zkinds : mg "_law_kinds" = some (.ref d.a_zkinds)
  k_zkinds : PySem.W.keepIn K (.ref d.a_zkinds) = true
  g_law : mg "law" = some (.ref d.a_law)
  k_law : PySem.W.keepIn K (.ref d.a_law) = true
  n_all : mg "all" = none
  n_bool : mg "bool" = none
  n_int : mg "int" = none
  n_isinstance : mg "isinstance" = none
  n_len : mg "len" = none
  n_list : mg "list" = none
  n_range : mg "range" = none
  n_str : mg "str" = none
  n_tuple : mg "tuple" = none
  n_zip : mg "zip" = none
  c_LETTERS : ∃ t, mg "LETTERS" = some (.str "abcdefghijklmnopqrstuvwxyz" t)
  c_MOST_KIND : ∃ t, mg "MOST_KIND" = some (.int 6 t)
  c_MOST_NAME : ∃ t, mg "MOST_NAME" = some (.int 8 t)
  c_WAYS : ∃ a, mg "WAYS" = some (.ref a) ∧ TupS K a ["sum", "greatest", "least", "bag"]
section
variable {P : Program} {w : World} {K : PySem.W.Frag} {mg : Str → Option Value} {base : Heap} {d : Ad} {fd : FuncData}
theorem sc_is_word : FnScope ["value", "most", "letter"] ["value", "most"] (defScope s_is_word) := ⟨rfl, rfl, rfl, by decide +kernel, rfl, by decide +kernel, by decide +kernel⟩
theorem okF_is_word (F : Fun K "is_word" "is_word" s_is_word d.a_is_word fd) (T : Txt K mg d)  : FnOk P w K mg base (L2.CX P w) 1 d.a_is_word fd ["value", "most"] (spD K mg (["value", "most"] : List Str).length m_is_word) := by
  refine fn_okE (k := 0) F sc_is_word (fun cdv A outer s H E hr tk ps =>
  (db_cons (ds_if (DW.dt (dw_or (dt_not (dt_tru (de_callB or_isi opL_isi rfl T.n_isinstance (by decide +kernel) (da_cons (de_var 0 (pv 0)) (da_cons (de_ty (y := "str") T.n_str rfl (by decide +kernel)) da_nil))))) (dw_or1 (dt_not (dt_chain op_le op_le op2_rel op2_rel (de_const pe_int (fun _ => .int _)) (de_callB call_len opL_len rfl T.n_len (by decide +kernel) (da_cons (de_var 0 (pv 0)) da_nil))
        (de_var 1 (pv 1))))))) (db_one (ds_ret (de_const pe_bl (fun _ => .bl _)))) db_nil)
    (db_one (ds_ret (de_callB (cr_all rfl) opL_all rfl T.n_all (by decide +kernel) (da_cons (de_lc rfl sc_is_word.nd (di_data (de_var 0 (pv 0))) (blkOk_by (own := [("letter", 2)]) rfl) (fun _ _ _ _ _ => (dtg_one 2 sc_is_word.nd)) (fun _ _ _ _ _ => dts_nil) (fun _ _ _ _ _ => (de_cmp (or_in (units65 hr)) (op2_in false) (de_var 2 (pv 2)) (de_gstr T.c_LETTERS rfl) rfl))) da_nil)))))) ?_
  rfl
theorem sc_is_kind : FnScope ["value"] ["value"] (defScope s_is_kind) := ⟨rfl, rfl, rfl, by decide +kernel, rfl, by decide +kernel, by decide +kernel⟩
theorem okF_is_kind (F : Fun K "is_kind" "is_kind" s_is_kind d.a_is_kind fd) (T : Txt K mg d) (C_is_word : FOk P w K mg base 1 d.a_is_word ["value", "most"] m_is_word) : FnOk P w K mg base (L2.CX P w) 2 d.a_is_kind fd ["value"] (spD K mg (["value"] : List Str).length m_is_kind) := by
  refine fn_okE (k := 1) F sc_is_kind (fun cdv A outer s H E hr tk ps =>
  (db_one (ds_ret (de_call C_is_word (hr.mono (by omega)) tk rfl T.g_is_word T.k_is_word (da_cons (de_var 0 (pv 0)) (da_cons (de_gint T.c_MOST_KIND rfl) da_nil)))))) ?_
  rfl
theorem sc_is_name : FnScope ["value"] ["value"] (defScope s_is_name) := ⟨rfl, rfl, rfl, by decide +kernel, rfl, by decide +kernel, by decide +kernel⟩
theorem okF_is_name (F : Fun K "is_name" "is_name" s_is_name d.a_is_name fd) (T : Txt K mg d) (C_is_word : FOk P w K mg base 1 d.a_is_word ["value", "most"] m_is_word) : FnOk P w K mg base (L2.CX P w) 2 d.a_is_name fd ["value"] (spD K mg (["value"] : List Str).length m_is_name) := by
  refine fn_okE (k := 1) F sc_is_name (fun cdv A outer s H E hr tk ps =>
  (db_one (ds_ret (de_call C_is_word (hr.mono (by omega)) tk rfl T.g_is_word T.k_is_word (da_cons (de_var 0 (pv 0)) (da_cons (de_gint T.c_MOST_NAME rfl) da_nil)))))) ?_
  rfl
theorem sc_zreel : FnScope ["_law_script", "_law_cells"] ["_law_script"] (defScope s_zreel) := ⟨rfl, rfl, rfl, by decide +kernel, rfl, by decide +kernel, by decide +kernel⟩
theorem okF_zreel (F : Fun K "_law_reel" "_law_reel" s_zreel d.a_zreel fd) (T : Txt K mg d)  : FnOk P w K mg base (L2.CX P w) 1 d.a_zreel fd ["_law_script"] (spD K mg (["_law_script"] : List Str).length m_zreel) := by
  refine fn_okE (k := 0) F sc_zreel (fun cdv A outer s H E hr tk ps =>
  (db_cons (dset 1 sc_zreel.nd (de_callTy call_list_of opL_list rfl T.n_list (by decide +kernel) (da_cons (de_slice (de_var 0 (pv 0)) do_none (do_some (de_const pe_int (fun _ => .int _)))) da_nil)))
    (db_one (ds_ret (de_lst (da_cons (de_var 1 (pv 1)) (da_cons (de_const pe_int (fun _ => .int _)) (da_cons (de_const pe_int (fun _ => .int _)) (da_cons (de_op or_add op2_add (de_const pe_int (fun _ => .int _)) (de_op or_mul op2_mul (de_const pe_int (fun _ => .int _)) (de_callB call_len opL_len rfl T.n_len (by decide +kernel) (da_cons (de_var 1 (pv 1)) da_nil)))) da_nil))))))))) ?_
  rfl
theorem sc_zdraw : FnScope ["_law_reel_here", "_law_size", "_law_cell", "_law_digit", "_law_mixed"] ["_law_reel_here", "_law_size"] (defScope s_zdraw) := ⟨rfl, rfl, rfl, by decide +kernel, rfl, by decide +kernel, by decide +kernel⟩
theorem okF_zdraw (F : Fun K "_law_draw" "_law_draw" s_zdraw d.a_zdraw fd) (T : Txt K mg d)  : FnOk P w K mg base (L2.CX P w) 1 d.a_zdraw fd ["_law_reel_here", "_law_size"] (spD K mg (["_law_reel_here", "_law_size"] : List Str).length m_zdraw) := by
  refine fn_okE (k := 0) F sc_zdraw (fun cdv A outer s H E hr tk ps =>
  (db_cons (ds_if (DW.dt (dw_and (dt_cmp (or_eq hr.units) op2_eq (de_get (de_var 0 (pv 0)) (de_const pe_int (fun _ => .int _))) (de_const pe_int (fun _ => .int _)) (nomark _)) (dw_and1 (dt_cmp op_lt op2_rel (de_get (de_var 0 (pv 0)) (de_const pe_int (fun _ => .int _))) (de_callB call_len opL_len rfl T.n_len (by decide +kernel) (da_cons (de_get (de_var 0 (pv 0)) (de_const pe_int
        (fun _ => .int _))) da_nil)) (nomark _))))) (db_cons (dset 2 sc_zdraw.nd (de_get (de_get (de_var 0 (pv 0)) (de_const pe_int (fun _ => .int _))) (de_get (de_var 0 (pv 0)) (de_const pe_int (fun _ => .int _)))))
    (db_cons (ds_asg (de_op or_add op2_add (de_get (de_var 0 (pv 0)) (de_const pe_int (fun _ => .int _))) (de_const pe_int (fun _ => .int _))) (dg_item (de_var 0 (pv 0)) (de_const pe_int (fun _ => .int _))))
    (db_one (ds_if (dt_cmp op_gt op2_rel (de_var 2 (pv 2)) (de_op op_pow op2_pow (de_const pe_int (fun _ => .int _)) (de_const pe_int (fun _ => .int _))) (nomark _)) (db_one (ds_asg (de_var 2 (pv 2)) (dg_item (de_var 0 (pv 0)) (de_const pe_int (fun _ => .int _))))) (db_one (ds_asg (de_op op_mod op2_mod (de_callTy call_int1 opL_int rfl T.n_int (by decide +kernel) (da_cons (de_op or_add op2_add
        (de_op or_add op2_add (de_op or_mul op2_mul (de_get (de_var 0 (pv 0)) (de_const pe_int (fun _ => .int _))) (de_const pe_int (fun _ => .int _))) (de_op or_mul op2_mul (de_op op_mod op2_mod (de_callTy call_int1 opL_int rfl T.n_int (by decide +kernel) (da_cons (de_var 2 (pv 2)) da_nil)) (de_const pe_int (fun _ => .int _))) (de_const pe_int (fun _ => .int _)))) (de_const pe_int
        (fun _ => .int _))) da_nil)) (de_const pe_int (fun _ => .int _))) (dg_item (de_var 0 (pv 0)) (de_const pe_int (fun _ => .int _))))))))) db_nil)
    (db_cons (ds_if (dt_cmp op_gt op2_rel (de_get (de_var 0 (pv 0)) (de_const pe_int (fun _ => .int _))) (de_const pe_int (fun _ => .int _)) (nomark _)) (db_cons (dset 3 sc_zdraw.nd (de_op op_mod op2_mod (de_callTy call_int1 opL_int rfl T.n_int (by decide +kernel) (da_cons (de_get (de_var 0 (pv 0)) (de_const pe_int (fun _ => .int _))) da_nil)) (de_var 1 (pv 1))))
    (db_cons (ds_asg (de_op op_fdivW op2_div (de_get (de_var 0 (pv 0)) (de_const pe_int (fun _ => .int _))) (de_var 1 (pv 1))) (dg_item (de_var 0 (pv 0)) (de_const pe_int (fun _ => .int _))))
    (db_one (ds_ret (de_var 3 (pv 3)))))) db_nil)
    (db_cons (dset 4 sc_zdraw.nd (de_op op_mod op2_mod (de_callTy call_int1 opL_int rfl T.n_int (by decide +kernel) (da_cons (de_op or_add op2_add (de_op or_mul op2_mul (de_get (de_var 0 (pv 0)) (de_const pe_int (fun _ => .int _))) (de_get (de_var 0 (pv 0)) (de_const pe_int (fun _ => .int _)))) (de_op or_mul op2_mul (de_get (de_var 0 (pv 0)) (de_const pe_int (fun _ => .int _))) (de_const pe_int
        (fun _ => .int _)))) da_nil)) (de_const pe_int (fun _ => .int _))))
    (db_cons (ds_asg (de_op op_mod op2_mod (de_callTy call_int1 opL_int rfl T.n_int (by decide +kernel) (da_cons (de_op or_add op2_add (de_op or_add op2_add (de_op or_mul op2_mul (de_var 4 (pv 4)) (de_const pe_int (fun _ => .int _))) (de_op or_mul op2_mul (de_get (de_var 0 (pv 0)) (de_const pe_int (fun _ => .int _))) (de_const pe_int (fun _ => .int _)))) (de_const pe_int
        (fun _ => .int _))) da_nil)) (de_const pe_int (fun _ => .int _))) (dg_item (de_var 0 (pv 0)) (de_const pe_int (fun _ => .int _))))
    (db_one (ds_ret (de_op op_mod op2_mod (de_callTy call_int1 opL_int rfl T.n_int (by decide +kernel) (da_cons (de_op or_add op2_add (de_op op_fdivW op2_div (de_get (de_var 0 (pv 0)) (de_const pe_int (fun _ => .int _))) (de_const pe_int (fun _ => .int _))) (de_op or_mul op2_mul (de_op op_mod op2_mod (de_callTy call_int1 opL_int rfl T.n_int (by decide +kernel) (da_cons (de_get (de_var 0 (pv 0))
        (de_const pe_int (fun _ => .int _))) da_nil)) (de_const pe_int (fun _ => .int _))) (de_const pe_int (fun _ => .int _)))) da_nil)) (de_var 1 (pv 1)))))))))) ?_
  rfl
theorem sc_zof : FnScope ["_law_reel_here", "_law_some"] ["_law_reel_here", "_law_some"] (defScope s_zof) := ⟨rfl, rfl, rfl, by decide +kernel, rfl, by decide +kernel, by decide +kernel⟩
theorem okF_zof (F : Fun K "_law_of" "_law_of" s_zof d.a_zof fd) (T : Txt K mg d) (C_zdraw : FOk P w K mg base 1 d.a_zdraw ["_law_reel_here", "_law_size"] m_zdraw) : FnOk P w K mg base (L2.CX P w) 2 d.a_zof fd ["_law_reel_here", "_law_some"] (spD K mg (["_law_reel_here", "_law_some"] : List Str).length m_zof) := by
  refine fn_okE (k := 1) F sc_zof (fun cdv A outer s H E hr tk ps =>
  (db_one (ds_ret (de_get (de_var 1 (pv 1)) (de_call C_zdraw (hr.mono (by omega)) tk rfl T.g_zdraw T.k_zdraw (da_cons (de_var 0 (pv 0)) (da_cons (de_callB call_len opL_len rfl T.n_len (by decide +kernel) (da_cons (de_var 1 (pv 1)) da_nil)) da_nil))))))) ?_
  rfl
theorem sc_zsame : FnScope ["_law_found", "_law_due", "_law_a", "_law_b"] ["_law_found", "_law_due"] (defScope s_zsame) := ⟨rfl, rfl, rfl, by decide +kernel, rfl, by decide +kernel, by decide +kernel⟩
theorem okF_zsame (F : Fun K "_law_same" "_law_same" s_zsame d.a_zsame fd) (hb : Binds K fd ["_law_found", "_law_due"] []) (T : Txt K mg d)  : ∀ n, FnOk P w K mg base (L2.CX P w) (1 + n) d.a_zsame fd ["_law_found", "_law_due"] (spD K mg (["_law_found", "_law_due"] : List Str).length (m_zsame n))
  | 0 => bad_okF F sc_zsame
  | n + 1 => by
    have C_zsame : FOk P w K mg base (1 + n) d.a_zsame ["_law_found", "_law_due"] (m_zsame n) := .of (okF_zsame F hb T  n) hb
    refine fn_okE (k := 1 + n) F sc_zsame (fun cdv A outer s H E hr tk ps =>
  (db_cons (ds_if (DW.dt (dw_or (dt_cmp op_isN op2_isN (de_var 1 (pv 1)) (de_const pe_non (fun _ => .non)) (nomark _)) (dw_or1 (dt_cmp op_isN op2_isN (de_var 0 (pv 0)) (de_const pe_non (fun _ => .non)) (nomark _))))) (db_one (ds_ret (de_and (de_cmp op_isN op2_isN (de_var 1 (pv 1)) (de_const pe_non (fun _ => .non)) (nomark _)) (de_one (de_cmp op_isN op2_isN (de_var 0 (pv 0)) (de_const pe_non
        (fun _ => .non)) (nomark _)))))) db_nil)
    (db_cons (ds_if (dt_tru (de_callB or_isi opL_isi rfl T.n_isinstance (by decide +kernel) (da_cons (de_var 1 (pv 1)) (da_cons (de_ty (y := "list") T.n_list rfl (by decide +kernel)) da_nil)))) (db_cons (ds_if (DW.dt (dw_or (dt_not (dt_tru (de_callB or_isi opL_isi rfl T.n_isinstance (by decide +kernel) (da_cons (de_var 0 (pv 0)) (da_cons (de_ty (y := "list") T.n_list rfl
        (by decide +kernel)) da_nil))))) (dw_or1 (dt_cmp (or_ne hr.units) op2_ne (de_callB call_len opL_len rfl T.n_len (by decide +kernel) (da_cons (de_var 0 (pv 0)) da_nil)) (de_callB call_len opL_len rfl T.n_len (by decide +kernel) (da_cons (de_var 1 (pv 1)) da_nil)) (nomark _))))) (db_one (ds_ret (de_const pe_bl (fun _ => .bl _)))) db_nil)
    (db_one (ds_ret (de_callB (cr_all rfl) opL_all rfl T.n_all (by decide +kernel) (da_cons (de_lc rfl sc_zsame.nd (di_zip rfl T.n_zip (da_cons (de_var 0 (pv 0)) (da_cons (de_var 1 (pv 1)) da_nil))) (blkOk_by (own := [("_law_a", 2), ("_law_b", 3)]) rfl) (fun _ _ _ _ _ => (dtg_many rfl (pgn_cons 2 sc_zsame.nd (pgn_cons 3 sc_zsame.nd pgn_nil)))) (fun _ _ _ _ _ => dts_nil) (fun _ _ _ _ _ =>
        (de_call C_zsame (hr.mono (by omega)) takes0 rfl T.g_zsame T.k_zsame (da_cons (de_var 2 (pv 2)) (da_cons (de_var 3 (pv 3)) da_nil))))) da_nil))))) db_nil)
    (db_cons (ds_if (dt_tru (de_callB or_isi opL_isi rfl T.n_isinstance (by decide +kernel) (da_cons (de_var 1 (pv 1)) (da_cons (de_ty (y := "tuple") T.n_tuple rfl (by decide +kernel)) da_nil)))) (db_cons (ds_if (DW.dt (dw_or (dt_not (dt_tru (de_callB or_isi opL_isi rfl T.n_isinstance (by decide +kernel) (da_cons (de_var 0 (pv 0)) (da_cons (de_ty (y := "tuple") T.n_tuple rfl
        (by decide +kernel)) da_nil))))) (dw_or1 (dt_cmp (or_ne hr.units) op2_ne (de_callB call_len opL_len rfl T.n_len (by decide +kernel) (da_cons (de_var 0 (pv 0)) da_nil)) (de_callB call_len opL_len rfl T.n_len (by decide +kernel) (da_cons (de_var 1 (pv 1)) da_nil)) (nomark _))))) (db_one (ds_ret (de_const pe_bl (fun _ => .bl _)))) db_nil)
    (db_one (ds_ret (de_callB (cr_all rfl) opL_all rfl T.n_all (by decide +kernel) (da_cons (de_lc rfl sc_zsame.nd (di_zip rfl T.n_zip (da_cons (de_var 0 (pv 0)) (da_cons (de_var 1 (pv 1)) da_nil))) (blkOk_by (own := [("_law_a", 2), ("_law_b", 3)]) rfl) (fun _ _ _ _ _ => (dtg_many rfl (pgn_cons 2 sc_zsame.nd (pgn_cons 3 sc_zsame.nd pgn_nil)))) (fun _ _ _ _ _ => dts_nil) (fun _ _ _ _ _ =>
        (de_call C_zsame (hr.mono (by omega)) takes0 rfl T.g_zsame T.k_zsame (da_cons (de_var 2 (pv 2)) (da_cons (de_var 3 (pv 3)) da_nil))))) da_nil))))) db_nil)
    (db_cons (ds_if (dt_tru (de_callB or_isi opL_isi rfl T.n_isinstance (by decide +kernel) (da_cons (de_var 1 (pv 1)) (da_cons (de_ty (y := "bool") T.n_bool rfl (by decide +kernel)) da_nil)))) (db_one (ds_ret (de_and (de_callB or_isi opL_isi rfl T.n_isinstance (by decide +kernel) (da_cons (de_var 0 (pv 0)) (da_cons (de_ty (y := "bool") T.n_bool rfl (by decide +kernel)) da_nil))) (de_one (de_cmp
        (or_eq hr.units) op2_eq (de_var 0 (pv 0)) (de_var 1 (pv 1)) (nomark _)))))) db_nil)
    (db_cons (ds_if (dt_tru (de_callB or_isi opL_isi rfl T.n_isinstance (by decide +kernel) (da_cons (de_var 1 (pv 1)) (da_cons (de_ty (y := "int") T.n_int rfl (by decide +kernel)) da_nil)))) (db_one (ds_ret (de_and (de_callB or_isi opL_isi rfl T.n_isinstance (by decide +kernel) (da_cons (de_var 0 (pv 0)) (da_cons (de_ty (y := "int") T.n_int rfl (by decide +kernel)) da_nil))) (de_and (de_not
        (de_callB or_isi opL_isi rfl T.n_isinstance (by decide +kernel) (da_cons (de_var 0 (pv 0)) (da_cons (de_ty (y := "bool") T.n_bool rfl (by decide +kernel)) da_nil)))) (de_one (de_cmp (or_eq hr.units) op2_eq (de_var 0 (pv 0)) (de_var 1 (pv 1)) (nomark _))))))) db_nil)
    (db_one (ds_ret (de_and (de_callB or_isi opL_isi rfl T.n_isinstance (by decide +kernel) (da_cons (de_var 0 (pv 0)) (da_cons (de_ty (y := "str") T.n_str rfl (by decide +kernel)) da_nil))) (de_one (de_cmp (or_eq hr.units) op2_eq (de_var 0 (pv 0)) (de_var 1 (pv 1)) (nomark _)))))))))))) ?_
    rfl
theorem sc_zwords : FnScope ["_law_reel_here", "_law_many", "_law_most", "_law_abc", "_law_stem", "_law_spot", "_law_start", "_law_tails", "_law_k"] ["_law_reel_here", "_law_many", "_law_most"] (defScope s_zwords) := ⟨rfl, rfl, rfl, by decide +kernel, rfl, by decide +kernel, by decide +kernel⟩
theorem okF_zwords (F : Fun K "_law_words" "_law_words" s_zwords d.a_zwords fd) (T : Txt K mg d) (C_zdraw : FOk P w K mg base 1 d.a_zdraw ["_law_reel_here", "_law_size"] m_zdraw) (C_zof : FOk P w K mg base 2 d.a_zof ["_law_reel_here", "_law_some"] m_zof) : FnOk P w K mg base (L2.CX P w) 3 d.a_zwords fd ["_law_reel_here", "_law_many", "_law_most"] (spD K mg
        (["_law_reel_here", "_law_many", "_law_most"] : List Str).length m_zwords) := by
  refine fn_okE (k := 2) F sc_zwords (fun cdv A outer s H E hr tk ps =>
  (db_cons (dset 3 sc_zwords.nd (de_const pe_str (fun _ => .str _)))
    (db_cons (dset 4 sc_zwords.nd (de_m1 PySem.F.slot_str_join PySem.F.type_str_join mt_join opM1_join (de_const pe_str (fun _ => .str _)) (de_lc rfl sc_zwords.nd (di_range1 rfl T.n_range (da_cons (de_call C_zdraw (hr.mono (by omega)) tk rfl T.g_zdraw T.k_zdraw (da_cons (de_var 0 (pv 0)) (da_cons (de_var 2 (pv 2)) da_nil))) da_nil)) (blkOk_by (own := [("_law_k", 8)]) rfl) (fun _ _ _ _ _ =>
        (dtg_one 8 sc_zwords.nd)) (fun _ _ _ _ _ => dts_nil) (fun _ _ _ _ _ => (de_call C_zof (hr.mono (by omega)) takes0 rfl T.g_zof T.k_zof (da_cons (de_var 0 (pv 0)) (da_cons (de_var 3 (pv 3)) da_nil)))))))
    (db_cons (ds_asg (de_tup (da_cons (de_call C_zdraw (hr.mono (by omega)) tk rfl T.g_zdraw T.k_zdraw (da_cons (de_var 0 (pv 0)) (da_cons (de_op or_add op2_add (de_callB call_len opL_len rfl T.n_len (by decide +kernel) (da_cons (de_var 4 (pv 4)) da_nil)) (de_const pe_int (fun _ => .int _))) da_nil))) (da_cons (de_call C_zdraw (hr.mono (by omega)) tk rfl T.g_zdraw T.k_zdraw (da_cons (de_var 0
        (pv 0)) (da_cons (de_const pe_int (fun _ => .int _)) da_nil))) da_nil))) (dg_tup (n := 2) rfl (dgs_cons (dgn 5 sc_zwords.nd) (dgs_cons (dgn 6 sc_zwords.nd) dgs_nil))))
    (db_cons (dset 7 sc_zwords.nd (de_lc rfl sc_zwords.nd (di_range1 rfl T.n_range (da_cons (de_var 1 (pv 1)) da_nil)) (blkOk_by (own := [("_law_k", 8)]) rfl) (fun _ _ _ _ _ => (dtg_one 8 sc_zwords.nd)) (fun _ _ _ _ _ => dts_nil) (fun _ _ _ _ _ => (de_op or_add op2_add (de_var 5 (pv 5)) (de_call C_zdraw (hr.mono (by omega)) takes0 rfl T.g_zdraw T.k_zdraw (da_cons (de_var 0 (pv 0)) (da_cons
        (de_op or_add op2_add (de_op op_sub op2_i0 (de_callB call_len opL_len rfl T.n_len (by decide +kernel) (da_cons (de_var 4 (pv 4)) da_nil)) (de_var 5 (pv 5))) (de_const pe_int (fun _ => .int _))) da_nil)))))))
    (db_one (ds_ret (de_lc rfl sc_zwords.nd (di_range1 rfl T.n_range (da_cons (de_var 1 (pv 1)) da_nil)) (blkOk_by (own := [("_law_k", 8)]) rfl) (fun _ _ _ _ _ => (dtg_one 8 sc_zwords.nd)) (fun _ _ _ _ _ => dts_nil) (fun _ _ _ _ _ => (de_op or_add op2_add (de_op or_add op2_add (de_slice (de_var 4 (pv 4)) do_none (do_some (de_var 5 (pv 5)))) (de_get (de_var 3 (pv 3)) (de_op op_mod op2_mod
        (de_callTy call_int1 opL_int rfl T.n_int (by decide +kernel) (da_cons (de_op or_add op2_add (de_var 6 (pv 6)) (de_op or_mul op2_mul (de_const pe_int (fun _ => .int _)) (de_var 8 (pv 8)))) da_nil)) (de_const pe_int (fun _ => .int _))))) (de_slice (de_var 4 (pv 4)) (do_some (de_var 5 (pv 5))) (do_some (de_get (de_var 7 (pv 7)) (de_var 8 (pv 8))))))))))))))) ?_
  rfl
theorem sc_zkinds : FnScope ["_law_reel_here", "_law_many"] ["_law_reel_here", "_law_many"] (defScope s_zkinds) := ⟨rfl, rfl, rfl, by decide +kernel, rfl, by decide +kernel, by decide +kernel⟩
theorem okF_zkinds (F : Fun K "_law_kinds" "_law_kinds" s_zkinds d.a_zkinds fd) (T : Txt K mg d) (C_zwords : FOk P w K mg base 3 d.a_zwords ["_law_reel_here", "_law_many", "_law_most"] m_zwords) : FnOk P w K mg base (L2.CX P w) 4 d.a_zkinds fd ["_law_reel_here", "_law_many"] (spD K mg (["_law_reel_here", "_law_many"] : List Str).length m_zkinds) := by
  refine fn_okE (k := 3) F sc_zkinds (fun cdv A outer s H E hr tk ps =>
  (db_one (ds_ret (de_call C_zwords (hr.mono (by omega)) tk rfl T.g_zwords T.k_zwords (da_cons (de_var 0 (pv 0)) (da_cons (de_var 1 (pv 1)) (da_cons (de_const pe_int (fun _ => .int _)) da_nil))))))) ?_
  rfl
theorem sc_law : FnScope ["_law_script", "_law_reel_here", "_law_kinds_here", "_law_names", "_law_spot", "_law_sign", "_law_bent", "_law_long", "_law_bad", "_law_told", "_law_word", "_law_thing"] ["_law_script"] (defScope s_law) := ⟨rfl, rfl, rfl, by decide +kernel, rfl, by decide +kernel, by decide +kernel⟩
theorem okF_law (F : Fun K "law" "law" s_law d.a_law fd) (T : Txt K mg d) (C_zdraw : FOk P w K mg base 1 d.a_zdraw ["_law_reel_here", "_law_size"] m_zdraw) (C_zkinds : FOk P w K mg base 4 d.a_zkinds ["_law_reel_here", "_law_many"] m_zkinds) (C_zof : FOk P w K mg base 2 d.a_zof ["_law_reel_here", "_law_some"] m_zof) (C_zreel : FOk P w K mg base 1 d.a_zreel ["_law_script"] m_zreel)
        (C_zsame : FOk P w K mg base 4 d.a_zsame ["_law_found", "_law_due"] (m_zsame 3)) (C_zwords : FOk P w K mg base 3 d.a_zwords ["_law_reel_here", "_law_many", "_law_most"] m_zwords) (C_is_kind : FOk P w K mg base 2 d.a_is_kind ["value"] m_is_kind) (C_is_name : FOk P w K mg base 2 d.a_is_name ["value"] m_is_name) (CK0_is_kind : FOkK P w K mg base 2 d.a_is_kind ["value"] [0] m_is_kind)
        (CK0_is_name : FOkK P w K mg base 2 d.a_is_name ["value"] [0] m_is_name) : FnOk P w K mg base (L2.CX P w) 5 d.a_law fd ["_law_script"] (spD K mg (["_law_script"] : List Str).length m_law) := by
  refine fn_okE (k := 4) F sc_law (fun cdv A outer s H E hr tk ps =>
  (db_cons (dsetM 1 sc_law.nd (de_call C_zreel (hr.mono (by omega)) tk rfl T.g_zreel T.k_zreel (da_cons (de_var 0 (pv 0)) da_nil)))
    (db_cons (ds_par2 (gn_set 2) (gn_set 3) rfl sc_law.nd rfl rfl (by decide) rfl rfl (da_cons (de_call C_zkinds (hr.mono (by omega)) tk rfl T.g_zkinds T.k_zkinds (da_cons (de_var 1 (pv 1)) (da_cons (de_const pe_int (fun _ => .int _)) da_nil))) (da_cons (de_call C_zwords (hr.mono (by omega)) tk rfl T.g_zwords T.k_zwords (da_cons (de_var 1 (pv 1)) (da_cons (de_const pe_int (fun _ => .int _))
        (da_cons (de_const pe_int (fun _ => .int _)) da_nil)))) da_nil)) rfl)
    (db_cons (ds_if (dt_not (dt_tru (de_call C_zsame (hr.mono (by omega)) tk rfl T.g_zsame T.k_zsame (da_cons (de_lc rfl sc_law.nd (di_data (de_op or_add op2_add (de_var 2 (pv 2)) (de_slice (de_var 3 (pv 3)) do_none (do_some (de_const pe_int (fun _ => .int _)))))) (blkOk_by (own := [("_law_word", 10)]) rfl) (fun _ _ _ _ _ => (dtg_one 10 sc_law.nd)) (fun _ _ _ _ _ => dts_nil) (fun _ _ _ _ _ =>
        (de_call C_is_kind (hr.mono (by omega)) takes0 rfl T.g_is_kind T.k_is_kind (da_cons (de_var 10 (pv 10)) da_nil)))) (da_cons (de_op or_mul op2_mul (de_lst (da_cons (de_const pe_bl (fun _ => .bl _)) da_nil)) (de_const pe_int (fun _ => .int _))) da_nil))))) (db_one (ds_ret (de_const pe_bl (fun _ => .bl _)))) db_nil)
    (db_cons (ds_if (dt_not (dt_tru (de_call C_zsame (hr.mono (by omega)) tk rfl T.g_zsame T.k_zsame (da_cons (de_lc rfl sc_law.nd (di_data (de_op or_add op2_add (de_var 3 (pv 3)) (de_var 2 (pv 2)))) (blkOk_by (own := [("_law_word", 10)]) rfl) (fun _ _ _ _ _ => (dtg_one 10 sc_law.nd)) (fun _ _ _ _ _ => dts_nil) (fun _ _ _ _ _ => (de_call C_is_name (hr.mono
        (by omega)) takes0 rfl T.g_is_name T.k_is_name (da_cons (de_var 10 (pv 10)) da_nil)))) (da_cons (de_op or_mul op2_mul (de_lst (da_cons (de_const pe_bl (fun _ => .bl _)) da_nil)) (de_const pe_int (fun _ => .int _))) da_nil))))) (db_one (ds_ret (de_const pe_bl (fun _ => .bl _)))) db_nil)
    (db_cons (dset 4 sc_law.nd (de_call C_zdraw (hr.mono (by omega)) tk rfl T.g_zdraw T.k_zdraw (da_cons (de_var 1 (pv 1)) (da_cons (de_op or_add op2_add (de_callB call_len opL_len rfl T.n_len (by decide +kernel) (da_cons (de_get (de_var 2 (pv 2)) (de_const pe_int (fun _ => .int _))) da_nil)) (de_const pe_int (fun _ => .int _))) da_nil))))
    (db_cons (dset 5 sc_law.nd (de_call C_zof (hr.mono (by omega)) tk rfl T.g_zof T.k_zof (da_cons (de_var 1 (pv 1)) (da_cons (de_lst (da_cons (de_const pe_str (fun _ => .str _)) (da_cons (de_const pe_str (fun _ => .str _)) (da_cons (de_const pe_str (fun _ => .str _)) (da_cons (de_const pe_str (fun _ => .str _)) (da_cons (de_const pe_str (fun _ => .str _)) (da_cons (de_const pe_str
        (fun _ => .str _)) (da_cons (de_const pe_str (fun _ => .str _)) (da_cons (de_const pe_str (fun _ => .str _)) (da_cons (de_const pe_str (fun _ => .str _)) da_nil)))))))))) da_nil))))
    (db_cons (dset 6 sc_law.nd (de_op or_add op2_add (de_op or_add op2_add (de_slice (de_get (de_var 2 (pv 2)) (de_const pe_int (fun _ => .int _))) do_none (do_some (de_var 4 (pv 4)))) (de_var 5 (pv 5))) (de_slice (de_get (de_var 2 (pv 2)) (de_const pe_int (fun _ => .int _))) (do_some (de_var 4 (pv 4))) do_none)))
    (db_cons (dset 7 sc_law.nd (de_op or_add op2_add (de_get (de_var 3 (pv 3)) (de_const pe_int (fun _ => .int _))) (de_slice (de_const pe_str (fun _ => .str _)) (do_some (de_callB call_len opL_len rfl T.n_len (by decide +kernel) (da_cons (de_get (de_var 3 (pv 3)) (de_const pe_int (fun _ => .int _))) da_nil))) do_none)))
    (db_cons (dset 8 sc_law.nd (de_lst (da_cons (de_var 6 (pv 6)) (da_cons (de_const pe_str (fun _ => .str _)) (da_cons (de_const pe_non (fun _ => .non)) (da_cons (de_const pe_int (fun _ => .int _)) (da_cons (de_const pe_bl (fun _ => .bl _)) (da_cons (de_tup (da_cons (de_const pe_str (fun _ => .str _)) da_nil)) (da_cons (de_lst (da_cons (de_const pe_str (fun _ => .str _)) da_nil)) (da_cons
        (de_tup da_nil) (da_cons (de_op or_add op2_add (de_var 7 (pv 7)) (de_const pe_str (fun _ => .str _))) (da_cons (de_op or_add op2_add (de_get (de_var 2 (pv 2)) (de_const pe_int (fun _ => .int _))) (de_const pe_str (fun _ => .str _))) (da_cons (de_const pe_str (fun _ => .str _)) da_nil)))))))))))))
    (db_cons (dset 9 sc_law.nd (de_op or_add op2_add (de_lc rfl sc_law.nd (di_data (de_var 8 (pv 8))) (blkOk_by (own := [("_law_thing", 11)]) rfl) (fun _ _ _ _ _ => (dtg_one 11 sc_law.nd)) (fun _ _ _ _ _ => dts_nil) (fun _ _ _ _ _ => (de_call C_is_kind (hr.mono (by omega)) takes0 rfl T.g_is_kind T.k_is_kind (da_cons (de_var 11 (pv 11)) da_nil)))) (de_lc rfl sc_law.nd (di_data (de_var 8 (pv 8)))
        (blkOk_by (own := [("_law_thing", 11)]) rfl) (fun _ _ _ _ _ => (dtg_one 11 sc_law.nd)) (fun _ _ _ _ _ => dts_nil) (fun _ _ _ _ _ => (de_call C_is_name (hr.mono (by omega)) takes0 rfl T.g_is_name T.k_is_name (da_cons (de_var 11 (pv 11)) da_nil))))))
    (db_cons (ds_if (dt_not (dt_tru (de_call C_zsame (hr.mono (by omega)) tk rfl T.g_zsame T.k_zsame (da_cons (de_var 9 (pv 9)) (da_cons (de_op or_mul op2_mul (de_lst (da_cons (de_const pe_bl (fun _ => .bl _)) da_nil)) (de_const pe_int (fun _ => .int _))) da_nil))))) (db_one (ds_ret (de_const pe_bl (fun _ => .bl _)))) db_nil)
    (db_cons (dset 9 sc_law.nd (de_lst (da_cons (de_call C_is_kind (hr.mono (by omega)) tk rfl T.g_is_kind T.k_is_kind (da_cons (de_var 7 (pv 7)) da_nil)) (da_cons (de_call C_is_name (hr.mono (by omega)) tk rfl T.g_is_name T.k_is_name (da_cons (de_var 7 (pv 7)) da_nil)) (da_cons (de_call C_is_kind (hr.mono (by omega)) tk rfl T.g_is_kind T.k_is_kind (da_cons (de_slice (de_var 7 (pv 7)) do_none
        (do_some (de_const pe_int (fun _ => .int _)))) da_nil)) (da_cons (de_call C_is_kind (hr.mono (by omega)) tk rfl T.g_is_kind T.k_is_kind (da_cons (de_slice (de_var 7 (pv 7)) do_none (do_some (de_const pe_int (fun _ => .int _)))) da_nil)) (da_cons (de_callK0 CK0_is_kind (hr.mono (by omega)) tk rfl T.g_is_kind T.k_is_kind (dk_cons (de_const pe_str (fun _ => .str _)) dk_nil)) (da_cons
        (de_callK0 CK0_is_name (hr.mono (by omega)) tk rfl T.g_is_name T.k_is_name (dk_cons (de_const pe_str (fun _ => .str _)) dk_nil)) da_nil))))))))
    (db_one (ds_ret (de_call C_zsame (hr.mono (by omega)) tk rfl T.g_zsame T.k_zsame (da_cons (de_op or_add op2_add (de_var 9 (pv 9)) (de_lst (da_cons (de_gtup T.c_WAYS rfl) da_nil))) (da_cons (de_lst (da_cons (de_const pe_bl (fun _ => .bl _)) (da_cons (de_const pe_bl (fun _ => .bl _)) (da_cons (de_const pe_bl (fun _ => .bl _)) (da_cons (de_const pe_bl (fun _ => .bl _)) (da_cons (de_const pe_bl
        (fun _ => .bl _)) (da_cons (de_const pe_bl (fun _ => .bl _)) (da_cons (de_tup (da_cons (de_const pe_str (fun _ => .str _)) (da_cons (de_const pe_str (fun _ => .str _)) (da_cons (de_const pe_str (fun _ => .str _)) (da_cons (de_const pe_str (fun _ => .str _)) da_nil))))) da_nil)))))))) da_nil)))))))))))))))))) ?_
  rfl
end
end Toy

namespace Toy
open PySem L2 DL
def reelT (cs : List Int) (p r s : Int) : T := .lst [.d (.lst (cs.map D.int)), .d (.int p), .d (.int r), .d (.int s)]
structure Reel (M : Mst) (k : Nat) (cs : List Int) (p r s : Int) : Prop where
  at_ : M[k]? = some (reelT cs p r s)
  p0 : 0 ≤ p
  s0 : 0 ≤ s
  s1 : s < 18446744073709551616
section
variable {M : Mst} {k : Nat} {cs : List Int} {p r s : Int}
theorem Reel.getD (h : Reel M k cs p r s) (d : T) : M.getD k d = reelT cs p r s := by
  rw [List.getD_eq_getElem?_getD, h.at_]; rfl
theorem Reel.lt (h : Reel M k cs p r s) : k < M.length := (List.getElem?_eq_some_iff.mp h.at_).1
theorem frzR_d (M : Mst) (x : D) : frzR M (.t (.d x)) = x := rfl
theorem Reel.el (h : Reel M k cs p r s) : elems M (.h k) = some [.d (.lst (cs.map D.int)), .d (.int p), .d (.int r), .d (.int s)] := by
  simp only [elems, h.getD]; rfl
theorem get2 (h : Reel M k cs p r s) : getR (.h k) (.t (.d (.int 2))) M = .ok (.t (.d (.int r))) M := by
  unfold getR; rw [frzR_d]; show (match elems M (.h k) with | some ts => _ | none => _) = _; rw [h.el]; rfl
theorem get1 (h : Reel M k cs p r s) : getR (.h k) (.t (.d (.int 1))) M = .ok (.t (.d (.int p))) M := by
  unfold getR; rw [frzR_d]; show (match elems M (.h k) with | some ts => _ | none => _) = _; rw [h.el]; rfl
theorem get3 (h : Reel M k cs p r s) : getR (.h k) (.t (.d (.int 3))) M = .ok (.t (.d (.int s))) M := by
  unfold getR; rw [frzR_d]; show (match elems M (.h k) with | some ts => _ | none => _) = _; rw [h.el]; rfl
theorem get0 (h : Reel M k cs p r s) : getR (.h k) (.t (.d (.int 0))) M = .ok (.t (.d (.lst (cs.map D.int)))) M := by
  unfold getR; rw [frzR_d]; show (match elems M (.h k) with | some ts => _ | none => _) = _; rw [h.el]; rfl
theorem set1 (h : Reel M k cs p r s) (y : Int) : setR (.h k) (.t (.d (.int 1))) (.t (.d (.int y))) M = some (M.set k (reelT cs y r s)) := by
  unfold setR; rw [frzR_d]; show (match M[k]? with | some (.lst ts) => _ | _ => _) = _; rw [h.at_]; rfl
theorem set2 (h : Reel M k cs p r s) (y : Int) : setR (.h k) (.t (.d (.int 2))) (.t (.d (.int y))) M = some (M.set k (reelT cs p y s)) := by
  unfold setR; rw [frzR_d]; show (match M[k]? with | some (.lst ts) => _ | _ => _) = _; rw [h.at_]; rfl
theorem set3 (h : Reel M k cs p r s) (y : Int) : setR (.h k) (.t (.d (.int 3))) (.t (.d (.int y))) M = some (M.set k (reelT cs p r y)) := by
  unfold setR; rw [frzR_d]; show (match M[k]? with | some (.lst ts) => _ | _ => _) = _; rw [h.at_]; rfl
theorem Reel.set (h : Reel M k cs p r s) (p' r' s' : Int) (hp : 0 ≤ p') (h0 : 0 ≤ s') (h1 : s' < 18446744073709551616) : Reel (M.set k (reelT cs p' r' s')) k cs p' r' s' := ⟨by rw [List.getElem?_set_self h.lt], hp, h0, h1⟩
theorem addI (i j : Int) (M : Mst) : addR (.t (.d (.int i))) (.t (.d (.int j))) M = .ok (.t (.d (.int (i + j)))) M := rfl
theorem mulI (i j : Int) (M : Mst) (h : mulC i j = true) : mulR (.t (.d (.int i))) (.t (.d (.int j))) M = .ok (.t (.d (.int (i * j)))) M := by
  show (match (if mulC i j = true then some (D.int (i * j)) else none) with | some d => _ | none => _) = _
  rw [if_pos h]
theorem modI (i j : Int) (M : Mst) (h : 0 < j) : modR (.t (.d (.int i))) (.t (.d (.int j))) M = .ok (.t (.d (.int (i % j)))) M := by
  show (match (if modC i j = true then some (D.int (i % j)) else none) with | some d => _ | none => _) = _
  rw [if_pos (show modC i j = true from decide_eq_true h)]
theorem divI (i j : Int) (M : Mst) (h : 0 < j) (h2 : j < 10 ^ 60) : divR (.t (.d (.int i))) (.t (.d (.int j))) M = .ok (.t (.d (.int (i / j)))) M := by
  show (match (if divC i j = true then some (D.int (i / j)) else none) with | some d => _ | none => _) = _
  rw [if_pos (by unfold divC; rw [decide_eq_true h, decide_eq_true h2]; rfl)]
theorem eqI (i j : Int) (M : Mst) : eqR (.t (.d (.int i))) (.t (.d (.int j))) M = .ok (.t (.d (.bl (decide (i = j))))) M := by
  show Out.ok (R.t (T.d (D.bl (eqv (.int i) (.int j))))) M = _
  congr 4
theorem ltI (i j : Int) (M : Mst) : ltR (.t (.d (.int i))) (.t (.d (.int j))) M = .ok (.t (.d (.bl (decide (i < j))))) M := rfl
theorem gtI (i j : Int) (M : Mst) : gtR (.t (.d (.int i))) (.t (.d (.int j))) M = .ok (.t (.d (.bl (decide (j < i))))) M := rfl
theorem lenL (ds : List D) (M : Mst) : scL lenD [.t (.d (.lst ds))] M = .ok (.t (.d (.int (ds.length : Nat)))) M := rfl
theorem intI (i : Int) (M : Mst) : scL intD [.t (.d (.int i))] M = .ok (.t (.d (.int i))) M := rfl
theorem pow18 (M : Mst) : powR (.t (.d (.int 10))) (.t (.d (.int 18))) M = .ok (.t (.d (.int 1000000000000000000))) M := by
  rfl
theorem atI_nat {α : Type} (xs : List α) (j : Nat) {x : α} (h : xs[j]? = some x) : atI xs (j : Int) = some x := by
  have hl := (List.getElem?_eq_some_iff.mp h).1
  unfold atI ixN
  rw [if_pos (by omega), if_pos (by omega)]
  simpa using h
theorem getI (cs : List Int) (p : Int) (M : Mst) (h0 : 0 ≤ p) (h1 : p < cs.length) : ∃ c, getR (.t (.d (.lst (cs.map D.int)))) (.t (.d (.int p))) M = .ok (.t (.d (.int c))) M := by
  obtain ⟨j, rfl⟩ : ∃ j : Nat, p = (j : Int) := ⟨p.toNat, by omega⟩
  have hj : j < cs.length := by omega
  refine ⟨cs[j], ?_⟩
  show (match atI ((cs.map D.int).map T.d) (j : Int) with | some t => _ | none => _) = _
  rw [atI_nat (x := T.d (.int cs[j])) _ j (by simp [hj])]
theorem mulC_r (i j : Int) (h : -18446744073709551616 < j ∧ j < 18446744073709551616) : mulC i j = true := by
  unfold mulC
  simp only [Bool.or_eq_true, Bool.and_eq_true, decide_eq_true_eq]
  exact .inr (by constructor <;> omega)
theorem seq_step {F G : DenS} {ρ ρ' : Ev} {M M' : Mst} (h : F ρ M = some (.nx ρ', M')) : sSeq F G ρ M = G ρ' M' := by unfold sSeq; rw [h]
theorem seq_ret {F G : DenS} {ρ : Ev} {M M' : Mst} {r : R} (h : F ρ M = some (.rt r, M')) : sSeq F G ρ M = some (.rt r, M') := by unfold sSeq; rw [h]
theorem mulC_l (i j : Int) (h : -18446744073709551616 < i ∧ i < 18446744073709551616) : mulC i j = true := by
  unfold mulC
  simp only [Bool.or_eq_true, Bool.and_eq_true, decide_eq_true_eq]
  exact .inl (by constructor <;> omega)
theorem set_set' (M : Mst) (k : Nat) (a b : T) : (M.set k a).set k b = M.set k b := by simp
def rho (k : Nat) (size : Int) (a b c : Option SV) : Ev := [some (.h k), some (.d (.int size)), a, b, c]
/-- the first half: a cell of the script is taken in -/
theorem draw0 (h : Reel M k cs p r s) (size : Int) : ∃ a p' r' s', t_zdraw_0 (rho k size none none none) M = some (.nx (rho k size a none none), M.set k (reelT cs p' r' s')) ∧ 0 ≤ p' ∧ 0 ≤ s' ∧ s' < 18446744073709551616 := by
  have self : M.set k (reelT cs p r s) = M := by
    have := h.at_
    apply List.ext_getElem?
    intro j
    by_cases hj : j = k
    · subst hj; rw [List.getElem?_set_self h.lt, this]
    · rw [List.getElem?_set_ne (fun e => hj e.symm)]
  unfold t_zdraw_0 rho
  by_cases hr : r = 0
  · subst hr
    by_cases hp : p < (cs.map D.int).length
    · obtain ⟨c, hc⟩ := getI cs p M h.p0 (by simpa using hp)
      have h1 := h.set (p + 1) 0 s (by have := h.p0; omega) h.s0 h.s1
      by_cases hb : 1000000000000000000 < c
      · refine ⟨some (.d (.int c)), p + 1, c, s, ?_, by have := h.p0; omega, h.s0, h.s1⟩
        simp only [Out.bind, eVar, eC, eSeq2, eNil, eCons, eTB, tAndD, tOrD, tNotD, bindS, sSeq, sNil, sIf, sRet, sAsg, gSet, svR, frz, eB, gItem, List.getElem?_cons_zero, List.getElem?_cons_succ, List.set_cons_zero, List.set_cons_succ, if_true, if_false, Bool.false_eq_true, decide_true, decide_false, get2 h, get1 h, get0 h, get3 h, eqI, ltI, gtI, hp, lenL, hc, addI, set1 h, pow18, hb, set2 h1, set_set']
      · refine ⟨some (.d (.int c)), p + 1, 0, (s * 48611 + c % 1000003 * 7919 + 104729) % 1000000007, ?_, by have := h.p0; omega, by omega, by omega⟩
        simp only [Out.bind, eVar, eC, eSeq2, eNil, eCons, eTB, tAndD, tOrD, tNotD, bindS, sSeq, sNil, sIf, sRet, sAsg, gSet, svR, frz, eB, gItem, List.getElem?_cons_zero, List.getElem?_cons_succ, List.set_cons_zero, List.set_cons_succ, if_true, if_false, Bool.false_eq_true, decide_true, decide_false, get2 h, get1 h, get0 h, get3 h, eqI, ltI, gtI, hp, lenL, hc, addI, set1 h, pow18, hb, get3 h1, set3 h1, set_set', intI, modI _ 1000003 _ (by decide), modI _ 1000000007 _ (by decide), mulI _ 48611 _ (mulC_r _ _ (by decide)), mulI _ 7919 _ (mulC_r _ _ (by decide))]
    · refine ⟨none, p, 0, s, ?_, h.p0, h.s0, h.s1⟩
      rw [self]
      simp only [Out.bind, eVar, eC, eSeq2, eNil, eCons, eTB, tAndD, tOrD, tNotD, bindS, sSeq, sNil, sIf, sRet, sAsg, gSet, svR, frz, eB, gItem, List.getElem?_cons_zero, List.getElem?_cons_succ, List.set_cons_zero, List.set_cons_succ, if_true, if_false, Bool.false_eq_true, decide_true, decide_false, get2 h, get1 h, get0 h, get3 h, eqI, ltI, hp, lenL]
  · refine ⟨none, p, r, s, ?_, h.p0, h.s0, h.s1⟩
    rw [self]
    simp only [Out.bind, eVar, eC, eSeq2, eNil, eCons, eTB, tAndD, tOrD, tNotD, bindS, sSeq, sNil, sIf, sRet, sAsg, gSet, svR, frz, eB, gItem, List.getElem?_cons_zero, List.getElem?_cons_succ, List.set_cons_zero, List.set_cons_succ, if_true, if_false, Bool.false_eq_true, decide_true, decide_false, get2 h, get1 h, get0 h, get3 h, eqI, ltI, hr]
theorem outOf_rt (n : Nat) (x : T) (M : Mst) (hn : M.length = n) : outOf n (some (.rt (.t x), M)) = .ok (.t x) M := by
  subst hn
  show Out.ok (R.t x) (M.take M.length) = _
  rw [List.take_length]
/-- the second half: the digit -/
theorem draw1 (h : Reel M k cs p r s) (size : Int) (hs : 0 < size) (h60 : size < 10 ^ 60) (a : Option SV) :
    ∃ i p' r' s', sSeq t_zdraw_1 (sSeq t_zdraw_2 (sSeq t_zdraw_3 t_zdraw_4)) (rho k size a none none) M = some (.rt (.t (.d (.int i))), M.set k (reelT cs p' r' s')) ∧ 0 ≤ i ∧ i < size ∧ 0 ≤ p' ∧ 0 ≤ s' ∧ s' < 18446744073709551616 := by
  unfold rho
  by_cases hr : 0 < r
  · refine ⟨r % size, p, r / size, s, ?_, Int.emod_nonneg _ (by omega), Int.emod_lt_of_pos _ hs, h.p0, h.s0, h.s1⟩
    refine seq_ret ?_
    unfold t_zdraw_1
    simp only [Out.bind, eVar, eC, eSeq2, eNil, eCons, eTB, tAndD, tOrD, tNotD, bindS, sSeq, sNil, sIf, sRet, sAsg, gSet, svR, frz, eB, gItem, List.getElem?_cons_zero, List.getElem?_cons_succ, List.set_cons_zero, List.set_cons_succ, if_true, if_false, Bool.false_eq_true, decide_true, decide_false, get2 h, gtI, hr, intI, modI _ size _ hs, divI _ size _ hs h60, set2 h]
  · obtain ⟨mx, hmx⟩ : ∃ mx, mx = (s * s + s * 31) % 1000000007 := ⟨_, rfl⟩
    obtain ⟨st, hst⟩ : ∃ st, st = (mx * 69621 + s * 40014 + 25013) % 1000000007 := ⟨_, rfl⟩
    have h1 := h.set p r st h.p0 (by omega) (by omega)
    have m1 := modI (st / 53 + st % 9973 * 97) size (M.set k (reelT cs p r st)) hs
    refine ⟨(st / 53 + st % 9973 * 97) % size, p, r, st, ?_, Int.emod_nonneg _ (by omega), Int.emod_lt_of_pos _ hs, h.p0, by omega, by omega⟩
    have e1 : t_zdraw_1 [some (.h k), some (.d (.int size)), a, none, none] M = some (.nx [some (.h k), some (.d (.int size)), a, none, none], M) := by
      unfold t_zdraw_1
      simp only [Out.bind, eVar, eC, eSeq2, eNil, eCons, eTB, tAndD, tOrD, tNotD, bindS, sSeq, sNil, sIf, sRet, sAsg, gSet, svR, frz, eB, gItem, List.getElem?_cons_zero, List.getElem?_cons_succ, List.set_cons_zero, List.set_cons_succ, if_true, if_false, Bool.false_eq_true, decide_true, decide_false, get2 h, gtI, hr]
    have e2 : t_zdraw_2 [some (.h k), some (.d (.int size)), a, none, none] M = some (.nx [some (.h k), some (.d (.int size)), a, none, some (.d (.int mx))], M) := by
      unfold t_zdraw_2
      simp only [Out.bind, eVar, eC, eSeq2, eNil, eCons, eTB, tAndD, tOrD, tNotD, bindS, sSeq, sNil, sIf, sRet, sAsg, gSet, svR, frz, eB, gItem, List.getElem?_cons_zero, List.getElem?_cons_succ, List.set_cons_zero, List.set_cons_succ, if_true, if_false, Bool.false_eq_true, decide_true, decide_false, get3 h, mulI s s _ (mulC_r _ _ (by have := h.s0; have := h.s1; omega)), mulI _ 31 _ (mulC_r _ _ (by decide)), addI, intI, modI _ 1000000007 _ (by decide), hmx]
    have e3 : t_zdraw_3 [some (.h k), some (.d (.int size)), a, none, some (.d (.int mx))] M = some (.nx [some (.h k), some (.d (.int size)), a, none, some (.d (.int mx))], M.set k (reelT cs p r st)) := by
      unfold t_zdraw_3
      simp only [Out.bind, eVar, eC, eSeq2, eNil, eCons, eTB, tAndD, tOrD, tNotD, bindS, sSeq, sNil, sIf, sRet, sAsg, gSet, svR, frz, eB, gItem, List.getElem?_cons_zero, List.getElem?_cons_succ, List.set_cons_zero, List.set_cons_succ, if_true, if_false, Bool.false_eq_true, decide_true, decide_false, get3 h, mulI _ 69621 _ (mulC_r _ _ (by decide)), mulI _ 40014 _ (mulC_r _ _ (by decide)), addI, intI, modI _ 1000000007 _ (by decide), hst, set3 h]
    rw [seq_step e1, seq_step e2, seq_step e3]
    unfold t_zdraw_4
    simp only [Out.bind, eVar, eC, eSeq2, eNil, eCons, eTB, tAndD, tOrD, tNotD, bindS, sSeq, sNil, sIf, sRet, sAsg, gSet, svR, frz, eB, gItem, List.getElem?_cons_zero, List.getElem?_cons_succ, List.set_cons_zero, List.set_cons_succ, if_true, if_false, Bool.false_eq_true, decide_true, decide_false, get3 h1, divI _ 53 _ (by decide) (by decide), intI, modI _ 9973 _ (by decide), mulI _ 97 _ (mulC_r _ _ (by decide)), addI, m1]
theorem draw (h : Reel M k cs p r s) (size : Int) (hs : 0 < size) (h60 : size < 10 ^ 60) :
    ∃ i p' r' s', m_zdraw [.h k, .d (.int size)] M = .ok (.t (.d (.int i))) (M.set k (reelT cs p' r' s')) ∧ 0 ≤ i ∧ i < size ∧ Reel (M.set k (reelT cs p' r' s')) k cs p' r' s' := by
  obtain ⟨a, p1, r1, s1, e0, a1, a2, a3⟩ := draw0 h size
  have h1 := h.set p1 r1 s1 a1 a2 a3
  obtain ⟨i, p2, r2, s2, e1, b1, b2, b3, b4, b5⟩ := draw1 h1 size hs h60 a
  refine ⟨i, p2, r2, s2, ?_, b1, b2, h.set p2 r2 s2 b3 b4 b5⟩
  show outOf M.length (sSeq t_zdraw_0 _ (rho k size none none none) M) = _
  rw [seq_step e0, e1, set_set', outOf_rt _ _ _ (by simp)]

/-! ### texts -/
abbrev S (l : List Nat) : Str := ⟨l.toArray⟩
theorem S_len (l : List Nat) : (S l).length = l.length := rfl
theorem S_app (a b : List Nat) : (S a ++ S b : Str) = S (a ++ b) := by
  show (⟨a.toArray ++ b.toArray⟩ : Str) = ⟨(a ++ b).toArray⟩
  simp
theorem S_chars (l : List Nat) : chars (S l) = l.map fun c => D.str (S [c]) := rfl
theorem lenS (l : List Nat) (M : Mst) (h : l.length ≤ 1000000) : scL lenD [.t (.d (.str (S l)))] M = .ok (.t (.d (.int (l.length : Nat)))) M := by
  show (match (if (S l).length ≤ strCap then some (D.int ((S l).length : Nat)) else none) with | some d => _ | none => _) = _
  rw [if_pos (show (S l).length ≤ strCap from h)]
  rfl
theorem getS (l : List Nat) (i : Int) (M : Mst) (h0 : 0 ≤ i) (h1 : i < l.length) (hc : l.length ≤ 1000000) : getR (.t (.d (.str (S l)))) (.t (.d (.int i))) M = .ok (.t (.d (.str (S [l.getD i.toNat 0])))) M := by
  obtain ⟨j, rfl⟩ : ∃ j : Nat, i = (j : Int) := ⟨i.toNat, by omega⟩
  have hj : j < l.length := by omega
  show (match atI l (j : Int) with | some c => (if (S l).length ≤ strCap then _ else _) | none => _) = _
  rw [atI_nat (x := l[j]) _ j (by simp [hj])]
  show (if (S l).length ≤ strCap then _ else _) = _
  rw [if_pos (show (S l).length ≤ strCap from hc)]
  simp [hj]
theorem getLst (ds : List D) (i : Int) (M : Mst) (h0 : 0 ≤ i) (h1 : i < ds.length) : getR (.t (.d (.lst ds))) (.t (.d (.int i))) M = .ok (.t (.d (ds.getD i.toNat .non))) M := by
  obtain ⟨j, rfl⟩ : ∃ j : Nat, i = (j : Int) := ⟨i.toNat, by omega⟩
  have hj : j < ds.length := by omega
  show (match atI (ds.map T.d) (j : Int) with | some t => _ | none => _) = _
  rw [atI_nat (x := T.d ds[j]) _ j (by simp [hj])]
  simp [hj]
theorem catSS (a b : List Nat) (M : Mst) (h : a.length + b.length ≤ 1000000) : addR (.t (.d (.str (S a)))) (.t (.d (.str (S b)))) M = .ok (.t (.d (.str (S (a ++ b))))) M := by
  show (if (S a).length + (S b).length ≤ strCap then Out.ok (R.t (T.d (.str (S a ++ S b)))) M else Out.bad) = _
  rw [if_pos (show (S a).length + (S b).length ≤ strCap from h), S_app]
/-! ### the reel goes on -/
def RD (k : Nat) (M0 M : Mst) : Prop := ∃ cs p r s, Reel M k cs p r s ∧ M = M0.set k (reelT cs p r s)
theorem RD.self {M : Mst} {k : Nat} {cs : List Int} {p r s : Int} (h : Reel M k cs p r s) : RD k M M := ⟨cs, p, r, s, h, by
  apply List.ext_getElem?
  intro j
  by_cases hj : j = k
  · subst hj; rw [List.getElem?_set_self h.lt, h.at_]
  · rw [List.getElem?_set_ne (fun e => hj e.symm)]⟩
theorem RD.draw {M0 M : Mst} {k : Nat} (h : RD k M0 M) {size : Int} (hs : 0 < size) (h60 : size < 10 ^ 60) : ∃ i M', m_zdraw [.h k, .d (.int size)] M = .ok (.t (.d (.int i))) M' ∧ 0 ≤ i ∧ i < size ∧ RD k M0 M' := by
  obtain ⟨cs, p, r, s, h, e⟩ := h
  obtain ⟨i, p', r', s', h1, h2, h3, h4⟩ := Toy.draw h size hs h60
  exact ⟨i, _, h1, h2, h3, cs, p', r', s', h4, by rw [e, set_set']⟩
theorem RD.ofS {M0 M : Mst} {k : Nat} (h : RD k M0 M) {l : List Nat} (hl : 0 < l.length) (hc : l.length ≤ 1000000) : ∃ c M', m_zof [.h k, .d (.str (S l))] M = .ok (.t (.d (.str (S [c])))) M' ∧ c ∈ l ∧ RD k M0 M' := by
  obtain ⟨i, M', h1, h2, h3, h4⟩ := h.draw (size := (l.length : Nat)) (by omega) (by omega)
  have hlen : M'.length = M.length := by
    obtain ⟨_, _, _, _, _, e⟩ := h
    obtain ⟨_, _, _, _, _, e'⟩ := h4
    rw [e, e']; simp
  refine ⟨l.getD i.toNat 0, M', ?_, ?_, h4⟩
  · show outOf M.length (b_zof [some (.h k), some (.d (.str (S l)))] M) = _
    unfold b_zof
    simp only [Out.bind, eVar, eC, eSeq2, eNil, eCons, eTB, tAndD, tOrD, tNotD, bindS, sSeq, sNil, sIf, sRet, sAsg, gSet, svR, frz, eB, gItem, List.getElem?_cons_zero, List.getElem?_cons_succ, List.set_cons_zero, List.set_cons_succ, if_true, if_false, Bool.false_eq_true, decide_true, decide_false, eCall, eArity, List.map, lenS l _ hc, List.length, if_true, Nat.reduceAdd, h1, getS l i M' h2 h3 hc]
    exact outOf_rt _ _ _ hlen
  · have : i.toNat < l.length := by omega
    simp [this]
theorem RD.ofL {M0 M : Mst} {k : Nat} (h : RD k M0 M) {ds : List D} (hl : 0 < ds.length) (hc : ds.length ≤ 1000000) : ∃ d M', m_zof [.h k, .d (.lst ds)] M = .ok (.t (.d d)) M' ∧ d ∈ ds ∧ RD k M0 M' := by
  obtain ⟨i, M', h1, h2, h3, h4⟩ := h.draw (size := (ds.length : Nat)) (by omega) (by omega)
  have hlen : M'.length = M.length := by
    obtain ⟨_, _, _, _, _, e⟩ := h
    obtain ⟨_, _, _, _, _, e'⟩ := h4
    rw [e, e']; simp
  refine ⟨ds.getD i.toNat .non, M', ?_, ?_, h4⟩
  · show outOf M.length (b_zof [some (.h k), some (.d (.lst ds))] M) = _
    unfold b_zof
    simp only [Out.bind, eVar, eC, eSeq2, eNil, eCons, eTB, tAndD, tOrD, tNotD, bindS, sSeq, sNil, sIf, sRet, sAsg, gSet, svR, frz, eB, gItem, List.getElem?_cons_zero, List.getElem?_cons_succ, List.set_cons_zero, List.set_cons_succ, if_true, if_false, Bool.false_eq_true, decide_true, decide_false, eCall, eArity, List.map, lenL, List.length, if_true, Nat.reduceAdd, h1, getLst ds i M' h2 h3]
    exact outOf_rt _ _ _ hlen
  · have : i.toNat < ds.length := by omega
    simp [this]
/-! ### comprehensions -/
theorem lc_inv {g : Tg} {own : List Nat} {c : DenT} {f : Den} {ρ : Ev} (P : Mst → Prop) (Q : D → D → Prop) : ∀ (ds : List D), (∀ d ∈ ds, ∀ M, P M → ∃ ρ1 x M', setT g d (wipeE ρ own) = some ρ1 ∧ c ρ1 M = .ok true M ∧ f ρ1 M = .ok (.t (.d x)) M' ∧ P M' ∧ Q d x) → ∀ (acc : List T) (M : Mst), P M → acc.length + ds.length ≤ 1000000 →
    ∃ (xs : List D) (M' : Mst), lcL g own c f ρ ds acc M = .ok (acc ++ xs.map T.d) M' ∧ P M' ∧ xs.length = ds.length ∧ ∀ x ∈ xs, ∃ d ∈ ds, Q d x := by
  intro ds
  induction ds with
  | nil => exact fun _ acc M hP _ => ⟨[], M, by simp [lcL], hP, rfl, fun _ z => nomatch z⟩
  | cons d r ih =>
    intro h acc M hP hn
    obtain ⟨ρ1, x, M1, e1, e2, e3, p1, q1⟩ := h d (List.mem_cons_self ..) M hP
    have hn' : acc.length + (r.length + 1) ≤ 1000000 := hn
    obtain ⟨xs, M2, f1, f2, f3, f4⟩ := ih (fun d' hd => h d' (List.mem_cons_of_mem _ hd)) (acc ++ [T.d x]) M1 p1 (by rw [List.length_append]; show acc.length + 1 + r.length ≤ _; omega)
    refine ⟨x :: xs, M2, ?_, f2, by rw [List.length_cons, f3]; rfl, fun y hy => ?_⟩
    · unfold lcL
      rw [e1]
      simp only [e2, noX, Out.bind, if_true, e3]
      rw [if_pos (by omega)]
      show lcL g own c f ρ r (acc ++ [T.d x]) M1 = _
      rw [f1]
      simp
    · rcases List.mem_cons.mp hy with rfl | hy
      · exact ⟨d, List.mem_cons_self .., q1⟩
      · obtain ⟨d', m, q⟩ := f4 y hy
        exact ⟨d', List.mem_cons_of_mem _ m, q⟩
/-- one that changes nothing: a map -/
theorem lc_map {g : Tg} {own : List Nat} {c : DenT} {f : Den} {ρ : Ev} {M : Mst} (q : D → D) : ∀ (ds : List D), (∀ d ∈ ds, ∃ ρ1, setT g d (wipeE ρ own) = some ρ1 ∧ c ρ1 M = .ok true M ∧ f ρ1 M = .ok (.t (.d (q d))) M) → ∀ acc : List T, acc.length + ds.length ≤ 1000000 →
    lcL g own c f ρ ds acc M = .ok (acc ++ (ds.map q).map T.d) M := by
  intro ds
  induction ds with
  | nil => exact fun _ acc _ => by simp [lcL]
  | cons d r ih =>
    intro h acc hn
    obtain ⟨ρ1, e1, e2, e3⟩ := h d (List.mem_cons_self ..)
    have hn' : acc.length + (r.length + 1) ≤ 1000000 := hn
    unfold lcL
    rw [e1]
    simp only [e2, noX, Out.bind, if_true, e3]
    rw [if_pos (by omega)]
    show lcL g own c f ρ r (acc ++ [T.d (q d)]) M = _
    rw [ih (fun d' hd => h d' (List.mem_cons_of_mem _ hd)) _ (by rw [List.length_append]; show acc.length + 1 + r.length ≤ _; omega)]
    simp

/-! ### slices, join -/
theorem slS (l : List Nat) (lo hi : Option Int) (M : Mst) (hc : l.length ≤ 1000000) : slR lo hi (.t (.d (.str (S l)))) M = .ok (.t (.d (.str (S ((l.drop (HT.sIx l.length 0 lo)).take (HT.sIx l.length l.length hi - HT.sIx l.length 0 lo)))))) M := by
  show (if (S l).length ≤ strCap then _ else _) = _
  rw [if_pos (show (S l).length ≤ strCap from hc)]
  rfl
theorem sIxI (n d : Nat) (i : Int) (h : 0 ≤ i) : HT.sIx n d (some i) = min i.toNat n := by
  obtain ⟨j, rfl⟩ : ∃ j : Nat, i = (j : Int) := ⟨i.toNat, by omega⟩
  rw [HT.sIx_nat]; rfl
theorem slS_to (l : List Nat) (i : Int) (M : Mst) (hc : l.length ≤ 1000000) (h : 0 ≤ i) : slR none (some i) (.t (.d (.str (S l)))) M = .ok (.t (.d (.str (S (l.take i.toNat))))) M := by
  rw [slS l _ _ M hc, sIxI _ _ _ h, HT.sIx_none]
  congr 5
  rw [Nat.sub_zero, List.drop_zero]
  by_cases hi : i.toNat ≤ l.length
  · rw [Nat.min_eq_left hi]
  · rw [Nat.min_eq_right (by omega), List.take_of_length_le (Nat.le_refl _), List.take_of_length_le (by omega)]
theorem slS_from (l : List Nat) (i : Int) (M : Mst) (hc : l.length ≤ 1000000) (h : 0 ≤ i) : slR (some i) none (.t (.d (.str (S l)))) M = .ok (.t (.d (.str (S (l.drop i.toNat))))) M := by
  rw [slS l _ _ M hc, sIxI _ _ _ h, HT.sIx_none]
  congr 5
  apply List.ext_getElem?
  intro j
  by_cases hi : i.toNat ≤ l.length
  · rw [Nat.min_eq_left hi, List.take_of_length_le (by simp)]
  · rw [Nat.min_eq_right (by omega), List.drop_eq_nil_of_le (as := l) (i := i.toNat) (by omega)]
    simp
theorem slS_mid (l : List Nat) (i j : Int) (M : Mst) (hc : l.length ≤ 1000000) (h : 0 ≤ i) (hij : i ≤ j) (hj : j ≤ l.length) : slR (some i) (some j) (.t (.d (.str (S l)))) M = .ok (.t (.d (.str (S ((l.drop i.toNat).take (j.toNat - i.toNat)))))) M := by
  rw [slS l _ _ M hc, sIxI _ _ _ h, sIxI _ _ _ (by omega), Nat.min_eq_left (by omega), Nat.min_eq_left (by omega)]
def abc : List Nat := [97, 98, 99, 100, 101, 102, 103, 104, 105, 106, 107, 108, 109, 110, 111, 112, 113, 114, 115, 116, 117, 118, 119, 120, 121, 122]
theorem abc_lit : ("abcdefghijklmnopqrstuvwxyz" : Str) = S abc := by decide +kernel
theorem mem_abc (c : Nat) : c ∈ abc ↔ 97 ≤ c ∧ c ≤ 122 := by
  constructor
  · intro h; simp [abc] at h; omega
  · intro h; simp [abc]; omega
theorem frz_ds (ds : List D) : frz (.lst (ds.map T.d)) = .lst ds := by
  unfold frz
  rw [frzL_eq]
  congr 1
  rw [List.map_map]
  exact (List.map_congr_left fun x _ => rfl).trans (List.map_id ds)
theorem frzL_ds (ds : List D) : frzL (ds.map T.d) = ds := by
  rw [frzL_eq, List.map_map]
  exact (List.map_congr_left fun x _ => rfl).trans (List.map_id ds)
theorem joinS (cs : List Nat) (M : Mst) (h : cs.length ≤ 1000000) : joinR "" (.t (.lst ((cs.map fun c => D.str (S [c])).map T.d))) M = .ok (.t (.d (.str (S cs)))) M := by
  have e1 : src M (.t (.lst ((cs.map fun c => D.str (S [c])).map T.d))) = some (.l (cs.map fun c => D.str (S [c])), M) := by
    show (match sqD (frz (.lst ((cs.map fun c => D.str (S [c])).map T.d))) with | some q => some (q, M) | none => none) = _
    rw [frz_ds]; rfl
  have e2 : strsD (cs.map fun c => D.str (S [c])) = some (cs.map fun c => S [c]) := by
    rw [show (cs.map fun c => D.str (S [c])) = (cs.map fun c => S [c]).map D.str by rw [List.map_map]; rfl]
    exact strsD_map _
  have e3 : Txt.join ("" : Str) (cs.map fun c => S [c]) = S cs := by
    rw [show Txt.join ("" : Str) (cs.map fun c => S [c]) = Str.join "" (cs.map fun c => S [c]) from TL.join_eq _ _]
    clear e1 e2 h
    induction cs with
    | nil => rfl
    | cons c r ih =>
      cases r with
      | nil => rfl
      | cons c' r' =>
        show S [c] ++ ("" : Str) ++ Str.join "" ((c' :: r').map fun c => S [c]) = _
        rw [ih, show ("" : Str) = S [] by decide +kernel, S_app, S_app]
        rfl
  unfold joinR
  rw [e1]
  show (match Sq.l (cs.map fun c => D.str (S [c])), strsD (cs.map fun c => D.str (S [c])) with | .l _, some ys => _ | .t _, some ys => _ | _, _ => _) = _
  rw [e2]
  show (if _ then Out.ok (R.t (T.d (.str (Txt.join "" (cs.map fun c => S [c]))))) M else Out.bad) = _
  rw [if_pos, e3]
  rw [List.map_map, show ((fun x : Str => x.length) ∘ fun c => S [c]) = fun _ => 1 from rfl, show (("" : Str)).length = 0 by decide +kernel]
  have : ∀ cs : List Nat, (cs.map fun _ => 1).sum = cs.length := fun cs => by
    induction cs with
    | nil => rfl
    | cons x r ih => rw [List.map_cons, List.sum_cons, ih, List.length_cons, Nat.add_comm]
  rw [this]
  omega
/-! ### is_word -/
theorem isi_ev (d : D) (n t : String) (M : Mst) (h : tyName d = some t) (ho : okTy n = true) : isiR [.t (.d d), .t (.d (.ty n))] M = .ok (.t (.d (.bl (isI t n)))) M := by
  show (match tyName d with | some t => (if okTy n = true then _ else _) | none => _) = _
  rw [h]
  show (if okTy n = true then _ else _) = _
  rw [if_pos ho]
theorem leI (i j : Int) (M : Mst) : leR (.t (.d (.int i))) (.t (.d (.int j))) M = .ok (.t (.d (.bl (decide (i ≤ j))))) M := rfl
theorem inS (c : Nat) (l : List Nat) (M : Mst) : sc2 (inOp false) (.t (.d (.str (S [c])))) (.t (.d (.str (S l)))) M = .ok (.t (.d (.bl (decide (c ∈ l))))) M := rfl
def isW (l : List Nat) (most : Int) : Bool := decide (1 ≤ (l.length : Int) ∧ (l.length : Int) ≤ most) && l.all fun c => decide (c ∈ abc)
theorem outOf_rt' (x : T) (M : Mst) : outOf M.length (some (.rt (.t x), M)) = .ok (.t x) M := outOf_rt _ _ _ rfl
theorem isWord_str (l : List Nat) (most : Int) (M : Mst) (hc : l.length ≤ 1000000) : m_is_word [.d (.str (S l)), .d (.int most)] M = .ok (.t (.d (.bl (isW l most)))) M := by
  show outOf M.length (sSeq t_is_word_0 t_is_word_1 [some (.d (.str (S l))), some (.d (.int most)), none] M) = _
  by_cases h1 : 1 ≤ (l.length : Int)
  · by_cases h2 : (l.length : Int) ≤ most
    · rw [seq_step (ρ' := [some (.d (.str (S l))), some (.d (.int most)), none]) (M' := M)]
      · unfold t_is_word_1
        have e := lc_map (g := .one 2) (own := [2]) (c := tYesD) (f := eSeq2 (sc2 (inOp false)) (eVar 2) (eC (.str "abcdefghijklmnopqrstuvwxyz"))) (ρ := [some (.d (.str (S l))), some (.d (.int most)), none]) (M := M)
          (fun d => match d with | .str x => (match x.cps.toList with | [c] => .bl (decide (c ∈ abc)) | _ => .non) | _ => .non) (l.map fun c => D.str (S [c])) (fun d hd => by
            obtain ⟨c, hc, rfl⟩ := List.mem_map.mp hd
            refine ⟨_, rfl, rfl, ?_⟩
            show sc2 (inOp false) (.t (.d (.str (S [c])))) (.t (.d (.str "abcdefghijklmnopqrstuvwxyz"))) M = _
            rw [abc_lit, inS]) [] (by simpa using hc)
        have e2 : iOf (eVar 0) [some (.d (.str (S l))), some (.d (.int most)), none] M = .ok (l.map fun c => D.str (S [c])) M := rfl
        have e4 : (l.map fun c => D.str (S [c])).map (fun d => match d with | .str x => (match x.cps.toList with | [c] => D.bl (decide (c ∈ abc)) | _ => .non) | _ => .non) = l.map fun c => D.bl (decide (c ∈ abc)) := by
          rw [List.map_map]; rfl
        rw [e4, List.nil_append] at e
        have e3 : scL allDD [.t (.lst (((l.map fun c => D.bl (decide (c ∈ abc)))).map T.d))] M = .ok (.t (.d (.bl (l.all fun c => decide (c ∈ abc))))) M := by
          show (match allDD [frz (.lst _)] with | some d => _ | none => _) = _
          rw [frz_ds]
          show (match (boolsD (l.map fun c => D.bl (decide (c ∈ abc)))).map fun bs => D.bl (bs.all id) with | some d => _ | none => _) = _
          have : ∀ l : List Nat, boolsD (l.map fun c => D.bl (decide (c ∈ abc))) = some (l.map fun c => decide (c ∈ abc)) := fun l => by
            induction l with
            | nil => rfl
            | cons x r ih => show (boolsD (r.map _)).map _ = _; rw [ih]; rfl
          rw [this]
          show Out.ok (R.t (T.d (D.bl _))) M = _
          rw [List.all_map]; rfl
        simp only [Out.bind, eVar, eC, eSeq2, eNil, eCons, eTB, tAndD, tOrD, tNotD, bindS, sSeq, sNil, sIf, sRet, sAsg, gSet, svR, frz, eB, gItem, List.getElem?_cons_zero, List.getElem?_cons_succ, List.set_cons_zero, List.set_cons_succ, if_true, if_false, Bool.false_eq_true, decide_true, decide_false, eLc, e2, e, e3]
        rw [outOf_rt']
        unfold isW
        rw [decide_eq_true ⟨h1, h2⟩, Bool.true_and]
      · unfold t_is_word_0
        simp only [Out.bind, eVar, eC, eSeq2, eNil, eCons, eTB, tAndD, tOrD, tNotD, bindS, sSeq, sNil, sIf, sRet, sAsg, gSet, svR, frz, eB, gItem, List.getElem?_cons_zero, List.getElem?_cons_succ, List.set_cons_zero, List.set_cons_succ, if_true, if_false, Bool.false_eq_true, decide_true, decide_false, eTru, frzR, isi_ev (.str (S l)) "str" "str" M rfl (by decide), truth, eChain, dat, lenS l M hc, leI, h1, h2]
        rfl
    · rw [seq_ret (r := .t (.d (.bl false))) (M' := M)]
      · unfold isW
        rw [outOf_rt', decide_eq_false (fun z => h2 z.2)]; rfl
      · unfold t_is_word_0
        simp only [Out.bind, eVar, eC, eSeq2, eNil, eCons, eTB, tAndD, tOrD, tNotD, bindS, sSeq, sNil, sIf, sRet, sAsg, gSet, svR, frz, eB, gItem, List.getElem?_cons_zero, List.getElem?_cons_succ, List.set_cons_zero, List.set_cons_succ, if_true, if_false, Bool.false_eq_true, decide_true, decide_false, eTru, frzR, isi_ev (.str (S l)) "str" "str" M rfl (by decide), truth, eChain, dat, lenS l M hc, leI, h1, h2]
        rfl
  · rw [seq_ret (r := .t (.d (.bl false))) (M' := M)]
    · unfold isW
      rw [outOf_rt', decide_eq_false (fun z => h1 z.1)]; rfl
    · unfold t_is_word_0
      simp only [Out.bind, eVar, eC, eSeq2, eNil, eCons, eTB, tAndD, tOrD, tNotD, bindS, sSeq, sNil, sIf, sRet, sAsg, gSet, svR, frz, eB, gItem, List.getElem?_cons_zero, List.getElem?_cons_succ, List.set_cons_zero, List.set_cons_succ, if_true, if_false, Bool.false_eq_true, decide_true, decide_false, eTru, frzR, isi_ev (.str (S l)) "str" "str" M rfl (by decide), truth, eChain, dat, lenS l M hc, leI, h1]
      rfl
/-- what is no text is no word -/
theorem isWord_no (d : D) (t : String) (most : Int) (M : Mst) (h : tyName d = some t) (hn : isI t "str" = false) : m_is_word [.d d, .d (.int most)] M = .ok (.t (.d (.bl false))) M := by
  show outOf M.length (sSeq t_is_word_0 t_is_word_1 [some (.d d), some (.d (.int most)), none] M) = _
  rw [seq_ret (r := .t (.d (.bl false))) (M' := M), outOf_rt']
  unfold t_is_word_0
  simp only [Out.bind, eVar, eC, eSeq2, eNil, eCons, eTB, tAndD, tOrD, tNotD, bindS, sSeq, sNil, sIf, sRet, sAsg, gSet, svR, frz, eB, gItem, List.getElem?_cons_zero, List.getElem?_cons_succ, List.set_cons_zero, List.set_cons_succ, if_true, if_false, Bool.false_eq_true, decide_true, decide_false, eTru, frzR, isi_ev d "str" t M h (by decide), truth, hn]
  rfl
theorem isKind_str (l : List Nat) (M : Mst) (hc : l.length ≤ 1000000) : m_is_kind [.d (.str (S l))] M = .ok (.t (.d (.bl (isW l 6)))) M := by
  show outOf M.length (b_is_kind [some (.d (.str (S l)))] M) = _
  unfold b_is_kind
  simp only [Out.bind, eVar, eC, eSeq2, eNil, eCons, eTB, tAndD, tOrD, tNotD, bindS, sSeq, sNil, sIf, sRet, sAsg, gSet, svR, frz, eB, gItem, List.getElem?_cons_zero, List.getElem?_cons_succ, List.set_cons_zero, List.set_cons_succ, if_true, if_false, Bool.false_eq_true, decide_true, decide_false, eCall, eArity, List.map, List.length, Nat.reduceAdd, isWord_str l 6 M hc]
  exact outOf_rt' _ _
theorem isName_str (l : List Nat) (M : Mst) (hc : l.length ≤ 1000000) : m_is_name [.d (.str (S l))] M = .ok (.t (.d (.bl (isW l 8)))) M := by
  show outOf M.length (b_is_name [some (.d (.str (S l)))] M) = _
  unfold b_is_name
  simp only [Out.bind, eVar, eC, eSeq2, eNil, eCons, eTB, tAndD, tOrD, tNotD, bindS, sSeq, sNil, sIf, sRet, sAsg, gSet, svR, frz, eB, gItem, List.getElem?_cons_zero, List.getElem?_cons_succ, List.set_cons_zero, List.set_cons_succ, if_true, if_false, Bool.false_eq_true, decide_true, decide_false, eCall, eArity, List.map, List.length, Nat.reduceAdd, isWord_str l 8 M hc]
  exact outOf_rt' _ _
theorem isKind_no (d : D) (t : String) (M : Mst) (h : tyName d = some t) (hn : isI t "str" = false) : m_is_kind [.d d] M = .ok (.t (.d (.bl false))) M := by
  show outOf M.length (b_is_kind [some (.d d)] M) = _
  unfold b_is_kind
  simp only [Out.bind, eVar, eC, eSeq2, eNil, eCons, eTB, tAndD, tOrD, tNotD, bindS, sSeq, sNil, sIf, sRet, sAsg, gSet, svR, frz, eB, gItem, List.getElem?_cons_zero, List.getElem?_cons_succ, List.set_cons_zero, List.set_cons_succ, if_true, if_false, Bool.false_eq_true, decide_true, decide_false, eCall, eArity, List.map, List.length, Nat.reduceAdd, isWord_no d t 6 M h hn]
  exact outOf_rt' _ _
theorem isName_no (d : D) (t : String) (M : Mst) (h : tyName d = some t) (hn : isI t "str" = false) : m_is_name [.d d] M = .ok (.t (.d (.bl false))) M := by
  show outOf M.length (b_is_name [some (.d d)] M) = _
  unfold b_is_name
  simp only [Out.bind, eVar, eC, eSeq2, eNil, eCons, eTB, tAndD, tOrD, tNotD, bindS, sSeq, sNil, sIf, sRet, sAsg, gSet, svR, frz, eB, gItem, List.getElem?_cons_zero, List.getElem?_cons_succ, List.set_cons_zero, List.set_cons_succ, if_true, if_false, Bool.false_eq_true, decide_true, decide_false, eCall, eArity, List.map, List.length, Nat.reduceAdd, isWord_no d t 8 M h hn]
  exact outOf_rt' _ _

/-! ### words -/
theorem subI (i j : Int) (M : Mst) : subR (.t (.d (.int i))) (.t (.d (.int j))) M = .ok (.t (.d (.int (i - j)))) M := rfl
theorem RD.len {k : Nat} {M0 M : Mst} (h : RD k M0 M) : M.length = M0.length := by
  obtain ⟨_, _, _, _, _, e⟩ := h
  rw [e]; simp
theorem nats_of {P : Nat → Prop} : ∀ xs : List D, (∀ x ∈ xs, ∃ c, P c ∧ x = .str (S [c])) → ∃ cs : List Nat, xs = cs.map (fun c => D.str (S [c])) ∧ ∀ c ∈ cs, P c
  | [], _ => ⟨[], rfl, fun _ z => nomatch z⟩
  | x :: r, h => by
    obtain ⟨c, hc, rfl⟩ := h x (List.mem_cons_self ..)
    obtain ⟨cs, e, hcs⟩ := nats_of r fun y hy => h y (List.mem_cons_of_mem _ hy)
    exact ⟨c :: cs, by rw [e]; rfl, fun y hy => by rcases List.mem_cons.mp hy with rfl | hy; exact hc; exact hcs y hy⟩
theorem ints_of {P : Int → Prop} : ∀ xs : List D, (∀ x ∈ xs, ∃ c, P c ∧ x = .int c) → ∃ cs : List Int, xs = cs.map D.int ∧ ∀ c ∈ cs, P c
  | [], _ => ⟨[], rfl, fun _ z => nomatch z⟩
  | x :: r, h => by
    obtain ⟨c, hc, rfl⟩ := h x (List.mem_cons_self ..)
    obtain ⟨cs, e, hcs⟩ := ints_of r fun y hy => h y (List.mem_cons_of_mem _ hy)
    exact ⟨c :: cs, by rw [e]; rfl, fun y hy => by rcases List.mem_cons.mp hy with rfl | hy; exact hc; exact hcs y hy⟩
theorem rangeD_len (lo : Int) (n : Nat) : (rangeD lo n).length = n := by unfold rangeD; simp
theorem range1_ev {A : DenA} {ρ : Ev} {M M1 : Mst} (i : Int) (h : i < 1000000000 ∧ -1000000000 < i) (hA : A ρ M = .ok [.t (.d (.int i))] M1) : iRange1 A ρ M = .ok (rangeD 0 i.toNat) M1 := by
  unfold iRange1
  rw [hA]
  show (if i < 1000000000 ∧ -1000000000 < i then Out.ok (rangeD 0 i.toNat) M1 else .bad) = _
  rw [if_pos h]
theorem range1_nat {A : DenA} {ρ : Ev} {M M1 : Mst} (n : Nat) (h : n ≤ 1000) (hA : A ρ M = .ok [.t (.d (.int (n : Nat)))] M1) : iRange1 A ρ M = .ok (rangeD 0 n) M1 := by
  rw [range1_ev (n : Int) (by omega) hA, Int.toNat_natCast]
abbrev rw9 (k : Nat) (many most : Int) (a b c d e f : Option SV) : Ev := [some (.h k), some (.d (.int many)), some (.d (.int most)), a, b, c, d, e, f]
theorem words1 {k : Nat} {M0 M : Mst} (h : RD k M0 M) (many most : Int) (hm : 1 ≤ most) (hm2 : most ≤ 1000) (b c d e f : Option SV) :
    ∃ stem M', t_zwords_1 (rw9 k many most (some (.d (.str (S abc)))) b c d e f) M = some (.nx (rw9 k many most (some (.d (.str (S abc)))) (some (.d (.str (S stem)))) c d e f), M') ∧ RD k M0 M' ∧ (stem.length : Int) < most ∧ ∀ c ∈ stem, c ∈ abc := by
  obtain ⟨i, M1, h1, h2, h3, h4⟩ := h.draw (size := most) (by omega) (by omega)
  obtain ⟨xs, M2, e1, p1, hl, hq⟩ := lc_inv (g := .one 8) (own := [8]) (c := tYesD) (f := (eCall m_zof (eArity 2 (eCons (eVar 0) (eCons (eVar 3) eNil))))) (ρ := rw9 k many most (some (.d (.str (S abc)))) b c d e f) (RD k M0) (fun _ x => ∃ c, c ∈ abc ∧ x = .str (S [c])) (rangeD 0 i.toNat)
    (fun d' _ M' hP => by
      obtain ⟨c', M3, q1, q2, q3⟩ := hP.ofS (l := abc) (by decide) (by decide)
      refine ⟨_, _, M3, rfl, rfl, ?_, q3, c', q2, rfl⟩
      show m_zof [.h k, .d (.str (S abc))] M' = _
      exact q1) [] M1 h4 (by rw [rangeD_len]; show 0 + i.toNat ≤ _; omega)
  obtain ⟨cs, rfl, hcs⟩ := nats_of xs (fun x hx => let ⟨_, _, q⟩ := hq x hx; q)
  rw [List.length_map, rangeD_len] at hl
  refine ⟨cs, M2, ?_, p1, by omega, hcs⟩
  have e2 : iRange1 (eCons (eCall m_zdraw (eArity 2 (eCons (eVar 0) (eCons (eVar 2) eNil)))) eNil) (rw9 k many most (some (.d (.str (S abc)))) b c d e f) M = .ok (rangeD 0 i.toNat) M1 := by
    simp only [Out.bind, eVar, eC, eSeq2, eNil, eCons, eTB, tAndD, tOrD, tNotD, bindS, sSeq, sNil, sIf, sRet, sAsg, gSet, svR, frz, eB, gItem, List.getElem?_cons_zero, List.getElem?_cons_succ, List.set_cons_zero, List.set_cons_succ, if_true, if_false, Bool.false_eq_true, decide_true, decide_false, iRange1, eCall, eArity, List.map, List.length, Nat.reduceAdd, h1, frzR]
    rw [if_pos (by omega)]
  unfold t_zwords_1
  simp only [Out.bind, eVar, eC, eSeq2, eNil, eCons, eTB, tAndD, tOrD, tNotD, bindS, sSeq, sNil, sIf, sRet, sAsg, gSet, svR, frz, eB, gItem, List.getElem?_cons_zero, List.getElem?_cons_succ, List.set_cons_zero, List.set_cons_succ, if_true, if_false, Bool.false_eq_true, decide_true, decide_false, eM1, eLc, e2, e1, List.nil_append, joinS cs M2 (by omega)]
theorem words2 {k : Nat} {M0 M : Mst} (h : RD k M0 M) (many most : Int) (stem : List Nat) (hs : stem.length ≤ 1000) (c d e f : Option SV) :
    ∃ sp st M', t_zwords_2 (rw9 k many most (some (.d (.str (S abc)))) (some (.d (.str (S stem)))) c d e f) M = some (.nx (rw9 k many most (some (.d (.str (S abc)))) (some (.d (.str (S stem)))) (some (.d (.int sp))) (some (.d (.int st))) e f), M') ∧ RD k M0 M' ∧ 0 ≤ sp ∧ sp ≤ stem.length ∧ 0 ≤ st ∧ st < 26 := by
  obtain ⟨sp, M1, h1, h2, h3, h4⟩ := h.draw (size := (stem.length : Nat) + 1) (by omega) (by omega)
  obtain ⟨st, M2, g1, g2, g3, g4⟩ := h4.draw (size := 26) (by omega) (by omega)
  refine ⟨sp, st, M2, ?_, g4, h2, by omega, g2, g3⟩
  unfold t_zwords_2
  simp only [Out.bind, eVar, eC, eSeq2, eNil, eCons, eTB, tAndD, tOrD, tNotD, bindS, sSeq, sNil, sIf, sRet, sAsg, gSet, svR, frz, eB, gItem, List.getElem?_cons_zero, List.getElem?_cons_succ, List.set_cons_zero, List.set_cons_succ, if_true, if_false, Bool.false_eq_true, decide_true, decide_false, eTup, eCall, eArity, List.map, List.length, Nat.reduceAdd, lenS stem _ (show stem.length ≤ 1000000 by omega), addI, h1, g1, treesM]
  rfl
theorem words3 {k : Nat} {M0 M : Mst} (h : RD k M0 M) (many most : Int) (stem : List Nat) (hs : stem.length ≤ 1000) (hm0 : 0 ≤ many) (hmany : many ≤ 1000) (sp st : Int) (h0 : 0 ≤ sp) (h1 : sp ≤ stem.length) (e f : Option SV) :
    ∃ (tl : List Int) (M' : Mst), t_zwords_3 (rw9 k many most (some (.d (.str (S abc)))) (some (.d (.str (S stem)))) (some (.d (.int sp))) (some (.d (.int st))) e f) M = some (.nx (rw9 k many most (some (.d (.str (S abc)))) (some (.d (.str (S stem)))) (some (.d (.int sp))) (some (.d (.int st))) (some (.d (.lst (tl.map D.int)))) f), M') ∧ RD k M0 M' ∧ tl.length = many.toNat ∧ ∀ t ∈ tl, sp ≤ t ∧ t ≤ stem.length := by
  obtain ⟨xs, M2, e1, p1, hl, hq⟩ := lc_inv (g := .one 8) (own := [8]) (c := tYesD) (f := (eSeq2 addR (eVar 5) (eCall m_zdraw (eArity 2 (eCons (eVar 0) (eCons (eSeq2 addR (eSeq2 subR (eB (scL lenD) (eCons (eVar 4) eNil)) (eVar 5)) (eC (.int 1))) eNil)))))) (ρ := rw9 k many most (some (.d (.str (S abc)))) (some (.d (.str (S stem)))) (some (.d (.int sp))) (some (.d (.int st))) e f) (RD k M0) (fun _ x => ∃ c : Int, (sp ≤ c ∧ c ≤ stem.length) ∧ x = .int c) (rangeD 0 many.toNat)
    (fun d' _ M' hP => by
      obtain ⟨j, M3, q1, q2, q3, q4⟩ := hP.draw (size := (stem.length : Nat) - sp + 1) (by omega) (by omega)
      refine ⟨_, .int (sp + j), M3, rfl, rfl, ?_, q4, sp + j, ⟨by omega, by omega⟩, rfl⟩
      simp only [Out.bind, eVar, eC, eSeq2, eNil, eCons, eTB, tAndD, tOrD, tNotD, bindS, sSeq, sNil, sIf, sRet, sAsg, gSet, svR, frz, eB, gItem, List.getElem?_cons_zero, List.getElem?_cons_succ, List.set_cons_zero, List.set_cons_succ, if_true, if_false, Bool.false_eq_true, decide_true, decide_false, wipeE, setT, eCall, eArity, List.map, List.length, Nat.reduceAdd, lenS stem _ (show stem.length ≤ 1000000 by omega), subI, addI, q1]) [] M h (by rw [rangeD_len]; show 0 + many.toNat ≤ _; omega)
  obtain ⟨tl, rfl, htl⟩ := ints_of xs (fun x hx => let ⟨_, _, q⟩ := hq x hx; q)
  rw [List.length_map, rangeD_len] at hl
  refine ⟨tl, M2, ?_, p1, hl, htl⟩
  have e2 : iRange1 (eCons (eVar 1) eNil) (rw9 k many most (some (.d (.str (S abc)))) (some (.d (.str (S stem)))) (some (.d (.int sp))) (some (.d (.int st))) e f) M = .ok (rangeD 0 many.toNat) M  := range1_ev many (by omega) rfl
  unfold t_zwords_3
  simp only [Out.bind, eVar, eC, eSeq2, eNil, eCons, eTB, tAndD, tOrD, tNotD, bindS, sSeq, sNil, sIf, sRet, sAsg, gSet, svR, frz, eB, gItem, List.getElem?_cons_zero, List.getElem?_cons_succ, List.set_cons_zero, List.set_cons_succ, if_true, if_false, Bool.false_eq_true, decide_true, decide_false, eLc, e2, e1, List.nil_append, frzL_ds]

def wordOf (stem : List Nat) (sp st : Int) (tl : List Int) (j : Nat) : List Nat := stem.take sp.toNat ++ [abc.getD ((st + 11 * (0 + (j : Int))) % 26).toNat 0] ++ (stem.drop sp.toNat).take ((tl.getD j 0).toNat - sp.toNat)
theorem words4 {k : Nat} {M : Mst} (many most : Int) (stem : List Nat) (hs : stem.length ≤ 1000) (hm0 : 0 ≤ many) (hmany : many ≤ 1000) (sp st : Int) (h0 : 0 ≤ sp) (h1 : sp ≤ stem.length) (h2 : 0 ≤ st) (tl : List Int) (hl : tl.length = many.toNat) (ht : ∀ t ∈ tl, sp ≤ t ∧ t ≤ stem.length) (f : Option SV) :
    t_zwords_4 (rw9 k many most (some (.d (.str (S abc)))) (some (.d (.str (S stem)))) (some (.d (.int sp))) (some (.d (.int st))) (some (.d (.lst (tl.map D.int)))) f) M = some (.rt (.t (.lst (((List.range many.toNat).map fun j => D.str (S (wordOf stem sp st tl j))).map T.d))), M) := by
  have e := lc_map (g := .one 8) (own := [8]) (c := tYesD) (f := eSeq2 addR (eSeq2 addR (eSl (eVar 4) oNone (oSome (eVar 5))) (eSeq2 getR (eVar 3) (eSeq2 modR (eB (scL intD) (eCons (eSeq2 addR (eVar 6) (eSeq2 mulR (eC (.int 11)) (eVar 8))) eNil)) (eC (.int 26))))) (eSl (eVar 4) (oSome (eVar 5)) (oSome (eSeq2 getR (eVar 7) (eVar 8))))) (M := M)
    (ρ := rw9 k many most (some (.d (.str (S abc)))) (some (.d (.str (S stem)))) (some (.d (.int sp))) (some (.d (.int st))) (some (.d (.lst (tl.map D.int)))) f)
    (fun d => match d with | .int j => .str (S (wordOf stem sp st tl j.toNat)) | _ => .non) (rangeD 0 many.toNat) (fun d hd => by
      unfold rangeD at hd
      obtain ⟨j, hj, rfl⟩ := List.mem_map.mp hd
      have hj' : j < tl.length := by rw [hl]; exact List.mem_range.mp hj
      have htj := ht tl[j] (List.getElem_mem hj')
      refine ⟨_, rfl, rfl, ?_⟩
      have g1 : getR (.t (.d (.lst (tl.map D.int)))) (.t (.d (.int (0 + (j : Nat))))) M = .ok (.t (.d (.int (tl.getD j 0)))) M := by
        rw [getLst _ _ _ (by omega) (by rw [List.length_map]; omega)]
        congr 3
        simp [hj']
      have htd : tl.getD j 0 = tl[j] := by simp [hj']
      have ab : ((st + 11 * (0 + (j : Int))) % 26) < (abc.length : Nat) := Int.emod_lt_of_pos _ (by decide)
      have hsp : sp.toNat ≤ stem.length := by omega
      have c1 : (stem.take sp.toNat).length + [abc.getD ((st + 11 * (0 + (j : Int))) % 26).toNat 0].length ≤ 1000000 := by
        rw [List.length_take]; simp only [List.length_cons, List.length_nil]; omega
      have c2 : (stem.take sp.toNat ++ [abc.getD ((st + 11 * (0 + (j : Int))) % 26).toNat 0]).length + ((stem.drop sp.toNat).take ((tl.getD j 0).toNat - sp.toNat)).length ≤ 1000000 := by
        rw [List.length_append, List.length_take, List.length_take, List.length_drop]; simp only [List.length_cons, List.length_nil]; omega
      simp only [Out.bind, eVar, eC, eSeq2, eNil, eCons, eTB, tAndD, tOrD, tNotD, bindS, sSeq, sNil, sIf, sRet, sAsg, gSet, svR, frz, eB, gItem, List.getElem?_cons_zero, List.getElem?_cons_succ, List.set_cons_zero, List.set_cons_succ, if_true, if_false, Bool.false_eq_true, decide_true, decide_false, wipeE, eSl, oNone, oSome, frzR, slS_to stem sp _ (show stem.length ≤ 1000000 by omega) h0, mulI 11 _ _ (mulC_l _ _ (by decide)), addI, intI, modI _ 26 _ (by decide),
        getS abc _ _ (Int.emod_nonneg _ (by decide)) ab (by decide), catSS _ _ _ c1, g1, slS_mid stem sp (tl.getD j 0) _ (show stem.length ≤ 1000000 by omega) h0 (by rw [htd]; exact htj.1) (by rw [htd]; exact htj.2), catSS _ _ _ c2]
      congr 5
      unfold wordOf
      rw [show ((0 : Int) + (j : Nat)).toNat = j by omega]) [] (by rw [rangeD_len]; show 0 + many.toNat ≤ _; omega)
  have e4 : (rangeD 0 many.toNat).map (fun d => match d with | .int j => D.str (S (wordOf stem sp st tl j.toNat)) | _ => .non) = (List.range many.toNat).map fun j => D.str (S (wordOf stem sp st tl j)) := by
    unfold rangeD
    rw [List.map_map]
    refine List.map_congr_left fun j _ => ?_
    show D.str (S (wordOf stem sp st tl ((0 : Int) + (j : Nat)).toNat)) = _
    rw [show ((0 : Int) + (j : Nat)).toNat = j by omega]
  rw [e4, List.nil_append] at e
  have e2 : iRange1 (eCons (eVar 1) eNil) (rw9 k many most (some (.d (.str (S abc)))) (some (.d (.str (S stem)))) (some (.d (.int sp))) (some (.d (.int st))) (some (.d (.lst (tl.map D.int)))) f) M = .ok (rangeD 0 many.toNat) M  := range1_ev many (by omega) rfl
  unfold t_zwords_4
  simp only [Out.bind, eVar, eC, eSeq2, eNil, eCons, eTB, tAndD, tOrD, tNotD, bindS, sSeq, sNil, sIf, sRet, sAsg, gSet, svR, frz, eB, gItem, List.getElem?_cons_zero, List.getElem?_cons_succ, List.set_cons_zero, List.set_cons_succ, if_true, if_false, Bool.false_eq_true, decide_true, decide_false, eLc, e2, e]
theorem words {k : Nat} {M0 M : Mst} (h : RD k M0 M) (many most : Int) (hm0 : 0 ≤ many) (hmany : many ≤ 1000) (hm : 1 ≤ most) (hm2 : most ≤ 1000) :
    ∃ (ws : List (List Nat)) (M' : Mst), m_zwords [.h k, .d (.int many), .d (.int most)] M = .ok (.t (.lst ((ws.map fun l => D.str (S l)).map T.d))) M' ∧ RD k M0 M' ∧ ws.length = many.toNat ∧ ∀ w ∈ ws, 1 ≤ w.length ∧ (w.length : Int) ≤ most ∧ ∀ c ∈ w, c ∈ abc := by
  obtain ⟨stem, M1, a1, a2, a3, a4⟩ := words1 h many most hm hm2 none none none none none
  obtain ⟨sp, st, M2, b1, b2, b3, b4, b5, b6⟩ := words2 a2 many most stem (by omega) none none none none
  obtain ⟨tl, M3, c1, c2, c3, c4⟩ := words3 b2 many most stem (by omega) hm0 hmany sp st b3 b4 none none
  have d1 := words4 (k := k) (M := M3) many most stem (by omega) hm0 hmany sp st b3 b4 b5 tl c3 c4 none
  refine ⟨(List.range many.toNat).map (wordOf stem sp st tl), M3, ?_, c2, by simp, fun w hw => ?_⟩
  · show outOf M.length (sSeq t_zwords_0 _ [some (.h k), some (.d (.int many)), some (.d (.int most)), none, none, none, none, none, none] M) = _
    rw [seq_step (ρ' := rw9 k many most (some (.d (.str (S abc)))) none none none none none) (M' := M)]
    · rw [seq_step a1, seq_step b1, seq_step c1, d1, outOf_rt _ _ _ (by rw [c2.len, h.len]), List.map_map (f := wordOf stem sp st tl)]
      rfl
    · unfold t_zwords_0
      simp only [Out.bind, eVar, eC, eSeq2, eNil, eCons, eTB, tAndD, tOrD, tNotD, bindS, sSeq, sNil, sIf, sRet, sAsg, gSet, svR, frz, eB, gItem, List.getElem?_cons_zero, List.getElem?_cons_succ, List.set_cons_zero, List.set_cons_succ, if_true, if_false, Bool.false_eq_true, decide_true, decide_false]
      rw [abc_lit]
  · obtain ⟨j, hj, rfl⟩ := List.mem_map.mp hw
    have hj' : j < tl.length := by rw [c3]; exact List.mem_range.mp hj
    have htj := c4 tl[j] (List.getElem_mem hj')
    have htd : tl.getD j 0 = tl[j] := by simp [hj']
    have ab : ((st + 11 * (0 + (j : Int))) % 26) < (26 : Nat) := Int.emod_lt_of_pos _ (by decide)
    have ab0 := Int.emod_nonneg (st + 11 * (0 + (j : Int))) (show (26 : Int) ≠ 0 by decide)
    have hx : ((st + 11 * (0 + (j : Int))) % 26).toNat < abc.length := by show _ < 26; omega
    unfold wordOf
    rw [htd]
    refine ⟨?_, ?_, fun c hc => ?_⟩
    · simp only [List.length_append, List.length_cons, List.length_nil]; omega
    · simp only [List.length_append, List.length_cons, List.length_nil, List.length_take, List.length_drop]; omega
    · rcases List.mem_append.mp hc with hc | hc
      · rcases List.mem_append.mp hc with hc | hc
        · exact a4 c (List.mem_of_mem_take hc)
        · rw [List.mem_singleton] at hc
          rw [hc, List.getD_eq_getElem?_getD, List.getElem?_eq_getElem hx]
          exact List.getElem_mem hx
      · exact a4 c (List.mem_of_mem_drop (List.mem_of_mem_take hc))
theorem kinds {k : Nat} {M0 M : Mst} (h : RD k M0 M) (many : Int) (hm0 : 0 ≤ many) (hmany : many ≤ 1000) :
    ∃ (ws : List (List Nat)) (M' : Mst), m_zkinds [.h k, .d (.int many)] M = .ok (.t (.lst ((ws.map fun l => D.str (S l)).map T.d))) M' ∧ RD k M0 M' ∧ ws.length = many.toNat ∧ ∀ w ∈ ws, 1 ≤ w.length ∧ (w.length : Int) ≤ 6 ∧ ∀ c ∈ w, c ∈ abc := by
  obtain ⟨ws, M', h1, h2, h3, h4⟩ := words h many 6 hm0 hmany (by decide) (by decide)
  refine ⟨ws, M', ?_, h2, h3, h4⟩
  show outOf M.length (b_zkinds [some (.h k), some (.d (.int many))] M) = _
  unfold b_zkinds
  simp only [Out.bind, eVar, eC, eSeq2, eNil, eCons, eTB, tAndD, tOrD, tNotD, bindS, sSeq, sNil, sIf, sRet, sAsg, gSet, svR, frz, eB, gItem, List.getElem?_cons_zero, List.getElem?_cons_succ, List.set_cons_zero, List.set_cons_succ, if_true, if_false, Bool.false_eq_true, decide_true, decide_false, eCall, eArity, List.map, List.length, Nat.reduceAdd, h1]
  exact outOf_rt _ _ _ (by rw [h2.len, h.len])

/-! ### _law_same is reflexive -/
def okS : Nat → D → Bool
  | _, .non => true
  | _, .bl _ => true
  | _, .int _ => true
  | _, .str _ => true
  | n + 1, .lst ds => decide (ds.length ≤ 1000) && ds.all (okS n)
  | n + 1, .tup ds => decide (ds.length ≤ 1000) && ds.all (okS n)
  | _, _ => false
theorem isN_ev (d : D) (M : Mst) : sc2 (isN false) (.t (.d d)) (.t (.d .non)) M = .ok (.t (.d (.bl (isNonD d)))) M := rfl
abbrev r4 (d : D) : Ev := [some (.d d), some (.d d), none, none]
theorem same_unf (n : Nat) (d : D) (M : Mst) : m_zsame (n + 1) [.d d, .d d] M = outOf M.length (sSeq (t_zsame_0 (m_zsame n)) (sSeq (t_zsame_1 (m_zsame n)) (sSeq (t_zsame_2 (m_zsame n)) (sSeq (t_zsame_3 (m_zsame n)) (sSeq (t_zsame_4 (m_zsame n)) (t_zsame_5 (m_zsame n)))))) (r4 d) M) := rfl
theorem same_non (n : Nat) (M : Mst) : m_zsame (n + 1) [.d .non, .d .non] M = .ok (.t (.d (.bl true))) M := by
  rw [same_unf, seq_ret (r := .t (.d (.bl true))) (M' := M), outOf_rt']
  unfold t_zsame_0
  simp only [Out.bind, eVar, eC, eSeq2, eNil, eCons, eTB, tAndD, tOrD, tNotD, bindS, sSeq, sNil, sIf, sRet, sAsg, gSet, svR, frz, eB, gItem, List.getElem?_cons_zero, List.getElem?_cons_succ, List.set_cons_zero, List.set_cons_succ, if_true, if_false, Bool.false_eq_true, decide_true, decide_false, isN_ev, isNonD, eAnd]
theorem same0 (rec : Fn) (d : D) (M : Mst) (h : isNonD d = false) : t_zsame_0 rec (r4 d) M = some (.nx (r4 d), M) := by
  unfold t_zsame_0
  simp only [Out.bind, eVar, eC, eSeq2, eNil, eCons, eTB, tAndD, tOrD, tNotD, bindS, sSeq, sNil, sIf, sRet, sAsg, gSet, svR, frz, eB, gItem, List.getElem?_cons_zero, List.getElem?_cons_succ, List.set_cons_zero, List.set_cons_succ, if_true, if_false, Bool.false_eq_true, decide_true, decide_false, isN_ev, h]
theorem same_isi (rec : Fn) (d : D) (M : Mst) (t : String) (ht : tyName d = some t) :
    (isI t "list" = false → t_zsame_1 rec (r4 d) M = some (.nx (r4 d), M)) ∧ (isI t "tuple" = false → t_zsame_2 rec (r4 d) M = some (.nx (r4 d), M)) ∧ (isI t "bool" = false → t_zsame_3 rec (r4 d) M = some (.nx (r4 d), M)) ∧ (isI t "int" = false → t_zsame_4 rec (r4 d) M = some (.nx (r4 d), M)) := by
  refine ⟨fun h => ?_, fun h => ?_, fun h => ?_, fun h => ?_⟩
  · unfold t_zsame_1; simp only [Out.bind, eVar, eC, eSeq2, eNil, eCons, eTB, tAndD, tOrD, tNotD, bindS, sSeq, sNil, sIf, sRet, sAsg, gSet, svR, frz, eB, gItem, List.getElem?_cons_zero, List.getElem?_cons_succ, List.set_cons_zero, List.set_cons_succ, if_true, if_false, Bool.false_eq_true, decide_true, decide_false, eTru, frzR, isi_ev d "list" t M ht (by decide), truth, h]
  · unfold t_zsame_2; simp only [Out.bind, eVar, eC, eSeq2, eNil, eCons, eTB, tAndD, tOrD, tNotD, bindS, sSeq, sNil, sIf, sRet, sAsg, gSet, svR, frz, eB, gItem, List.getElem?_cons_zero, List.getElem?_cons_succ, List.set_cons_zero, List.set_cons_succ, if_true, if_false, Bool.false_eq_true, decide_true, decide_false, eTru, frzR, isi_ev d "tuple" t M ht (by decide), truth, h]
  · unfold t_zsame_3; simp only [Out.bind, eVar, eC, eSeq2, eNil, eCons, eTB, tAndD, tOrD, tNotD, bindS, sSeq, sNil, sIf, sRet, sAsg, gSet, svR, frz, eB, gItem, List.getElem?_cons_zero, List.getElem?_cons_succ, List.set_cons_zero, List.set_cons_succ, if_true, if_false, Bool.false_eq_true, decide_true, decide_false, eTru, frzR, isi_ev d "bool" t M ht (by decide), truth, h]
  · unfold t_zsame_4; simp only [Out.bind, eVar, eC, eSeq2, eNil, eCons, eTB, tAndD, tOrD, tNotD, bindS, sSeq, sNil, sIf, sRet, sAsg, gSet, svR, frz, eB, gItem, List.getElem?_cons_zero, List.getElem?_cons_succ, List.set_cons_zero, List.set_cons_succ, if_true, if_false, Bool.false_eq_true, decide_true, decide_false, eTru, frzR, isi_ev d "int" t M ht (by decide), truth, h]
theorem eqB (a b : Bool) (M : Mst) : eqR (.t (.d (.bl a))) (.t (.d (.bl b))) M = .ok (.t (.d (.bl (decide (a = b))))) M := by cases a <;> cases b <;> rfl
theorem eqS (a b : Str) (M : Mst) : eqR (.t (.d (.str a))) (.t (.d (.str b))) M = .ok (.t (.d (.bl (decide (a = b))))) M := rfl
theorem neI (i j : Int) (M : Mst) : neR (.t (.d (.int i))) (.t (.d (.int j))) M = .ok (.t (.d (.bl (!decide (i = j))))) M := by
  show Out.ok (R.t (T.d (D.bl (!eqv (.int i) (.int j))))) M = _
  congr 4
theorem pair_mem {ds : List D} {d : D} (h : d ∈ pairD ds ds) : ∃ a ∈ ds, d = .tup [a, a] := by
  induction ds with
  | nil => cases h
  | cons x r ih =>
    rcases List.mem_cons.mp h with rfl | h
    · exact ⟨x, List.mem_cons_self .., rfl⟩
    · obtain ⟨a, m, e⟩ := ih h
      exact ⟨a, List.mem_cons_of_mem _ m, e⟩
theorem pair_len (ds : List D) : (pairD ds ds).length = ds.length := by unfold pairD; simp
theorem all_true (n : Nat) (M : Mst) : scL allDD [.t (.lst ((List.replicate n (D.bl true)).map T.d))] M = .ok (.t (.d (.bl true))) M := by
  show (match allDD [frz (.lst _)] with | some d => _ | none => _) = _
  rw [frz_ds]
  have : boolsD (List.replicate n (D.bl true)) = some (List.replicate n true) := by
    induction n with
    | zero => rfl
    | succ n ih => show (boolsD (List.replicate n _)).map _ = _; rw [ih]; rfl
  show (match (boolsD (List.replicate n (D.bl true))).map fun bs => D.bl (bs.all id) with | some d => _ | none => _) = _
  rw [this]
  show Out.ok (R.t (T.d (D.bl ((List.replicate n true).all id)))) M = _
  congr 4
  simp
theorem same_lc (rec : Fn) (ds : List D) (D0 : D) (M : Mst) (hl : ds.length ≤ 1000) (hr : ∀ a ∈ ds, ∀ M, rec [.d a, .d a] M = .ok (.t (.d (.bl true))) M) :
    lcL (.many [2, 3]) [2, 3] tYesD (eCall rec (eArity 2 (eCons (eVar 2) (eCons (eVar 3) eNil)))) (r4 D0) (pairD ds ds) [] M = .ok ((List.replicate ds.length (D.bl true)).map T.d) M := by
  have e := lc_map (g := .many [2, 3]) (own := [2, 3]) (c := tYesD) (f := (eCall rec (eArity 2 (eCons (eVar 2) (eCons (eVar 3) eNil))))) (ρ := r4 D0) (M := M) (fun _ => .bl true) (pairD ds ds) (fun d hd => by
    obtain ⟨a, ha, rfl⟩ := pair_mem hd
    refine ⟨_, rfl, rfl, ?_⟩
    show rec [.d a, .d a] M = _
    exact hr a ha M) [] (by rw [pair_len]; show 0 + ds.length ≤ _; omega)
  rw [e, List.nil_append, List.map_const', pair_len]
theorem sc_l (rec : Fn) (ds : List D) (M : Mst) (hl : ds.length ≤ 1000) (hr : ∀ a ∈ ds, ∀ M, rec [.d a, .d a] M = .ok (.t (.d (.bl true))) M) : t_zsame_1 rec (r4 (.lst ds)) M = some (.rt (.t (.d (.bl true))), M) := by
  have e1 : iZipD (eCons (eVar 0) (eCons (eVar 1) eNil)) (r4 (.lst ds)) M = .ok (pairD ds ds) M := rfl
  unfold t_zsame_1
  simp only [Out.bind, eVar, eC, eSeq2, eNil, eCons, eTB, tAndD, tOrD, tNotD, bindS, sSeq, sNil, sIf, sRet, sAsg, gSet, svR, frz, eB, gItem, List.getElem?_cons_zero, List.getElem?_cons_succ, List.set_cons_zero, List.set_cons_succ, if_true, if_false, Bool.false_eq_true, decide_true, decide_false, eTru, frzR, isi_ev (.lst ds) "list" "list" M rfl (by decide), truth, show isI "list" "list" = true by decide, lenL, neI, Bool.not_true, eLc, e1, same_lc rec ds (.lst ds) M hl hr, all_true]
theorem lenT (ds : List D) (M : Mst) : scL lenD [.t (.d (.tup ds))] M = .ok (.t (.d (.int (ds.length : Nat)))) M := rfl
theorem sc_t (rec : Fn) (ds : List D) (M : Mst) (hl : ds.length ≤ 1000) (hr : ∀ a ∈ ds, ∀ M, rec [.d a, .d a] M = .ok (.t (.d (.bl true))) M) : t_zsame_2 rec (r4 (.tup ds)) M = some (.rt (.t (.d (.bl true))), M) := by
  have e1 : iZipD (eCons (eVar 0) (eCons (eVar 1) eNil)) (r4 (.tup ds)) M = .ok (pairD ds ds) M := rfl
  unfold t_zsame_2
  simp only [Out.bind, eVar, eC, eSeq2, eNil, eCons, eTB, tAndD, tOrD, tNotD, bindS, sSeq, sNil, sIf, sRet, sAsg, gSet, svR, frz, eB, gItem, List.getElem?_cons_zero, List.getElem?_cons_succ, List.set_cons_zero, List.set_cons_succ, if_true, if_false, Bool.false_eq_true, decide_true, decide_false, eTru, frzR, isi_ev (.tup ds) "tuple" "tuple" M rfl (by decide), truth, show isI "tuple" "tuple" = true by decide, lenT, neI, Bool.not_true, eLc, e1, same_lc rec ds (.tup ds) M hl hr, all_true]
theorem same_refl : ∀ (n : Nat) (d : D) (M : Mst), okS n d = true → m_zsame (n + 1) [.d d, .d d] M = .ok (.t (.d (.bl true))) M := by
  intro n d M h
  cases d with
  | non => exact same_non n M
  | bl b =>
    obtain ⟨s1, s2, s3, s4⟩ := same_isi (m_zsame n) (.bl b) M "bool" rfl
    rw [same_unf, seq_step (same0 _ _ _ rfl), seq_step (s1 (by decide)), seq_step (s2 (by decide)), seq_ret (r := .t (.d (.bl true))) (M' := M), outOf_rt']
    unfold t_zsame_3
    simp only [Out.bind, eVar, eC, eSeq2, eNil, eCons, eTB, tAndD, tOrD, tNotD, bindS, sSeq, sNil, sIf, sRet, sAsg, gSet, svR, frz, eB, gItem, List.getElem?_cons_zero, List.getElem?_cons_succ, List.set_cons_zero, List.set_cons_succ, if_true, if_false, Bool.false_eq_true, decide_true, decide_false, eTru, frzR, isi_ev (.bl b) "bool" "bool" M rfl (by decide), truth, show isI "bool" "bool" = true by decide, eAnd, eqB]
  | int i =>
    obtain ⟨s1, s2, s3, s4⟩ := same_isi (m_zsame n) (.int i) M "int" rfl
    rw [same_unf, seq_step (same0 _ _ _ rfl), seq_step (s1 (by decide)), seq_step (s2 (by decide)), seq_step (s3 (by decide)), seq_ret (r := .t (.d (.bl true))) (M' := M), outOf_rt']
    unfold t_zsame_4
    simp only [Out.bind, eVar, eC, eSeq2, eNil, eCons, eTB, tAndD, tOrD, tNotD, bindS, sSeq, sNil, sIf, sRet, sAsg, gSet, svR, frz, eB, gItem, List.getElem?_cons_zero, List.getElem?_cons_succ, List.set_cons_zero, List.set_cons_succ, if_true, if_false, Bool.false_eq_true, decide_true, decide_false, eTru, frzR, isi_ev (.int i) "int" "int" M rfl (by decide), isi_ev (.int i) "bool" "int" M rfl (by decide), truth, show isI "int" "int" = true by decide, show isI "int" "bool" = false by decide, eAnd, eNot, Bool.not_false, eqI]
  | str x =>
    obtain ⟨s1, s2, s3, s4⟩ := same_isi (m_zsame n) (.str x) M "str" rfl
    rw [same_unf, seq_step (same0 _ _ _ rfl), seq_step (s1 (by decide)), seq_step (s2 (by decide)), seq_step (s3 (by decide)), seq_step (s4 (by decide))]
    have : t_zsame_5 (m_zsame n) (r4 (.str x)) M = some (.rt (.t (.d (.bl true))), M) := by
      unfold t_zsame_5
      simp only [Out.bind, eVar, eC, eSeq2, eNil, eCons, eTB, tAndD, tOrD, tNotD, bindS, sSeq, sNil, sIf, sRet, sAsg, gSet, svR, frz, eB, gItem, List.getElem?_cons_zero, List.getElem?_cons_succ, List.set_cons_zero, List.set_cons_succ, if_true, if_false, Bool.false_eq_true, decide_true, decide_false, eTru, frzR, isi_ev (.str x) "str" "str" M rfl (by decide), truth, show isI "str" "str" = true by decide, eAnd, eqS]
    rw [this, outOf_rt']
  | lst ds =>
    cases n with
    | zero => cases h
    | succ n =>
      have h : (decide (ds.length ≤ 1000) && ds.all (okS n)) = true := h
      rw [Bool.and_eq_true, decide_eq_true_eq, List.all_eq_true] at h
      rw [same_unf, seq_step (same0 _ _ _ rfl), seq_ret (sc_l _ ds M h.1 fun a ha M => same_refl n a M (h.2 a ha)), outOf_rt']
  | tup ds =>
    cases n with
    | zero => cases h
    | succ n =>
      have h : (decide (ds.length ≤ 1000) && ds.all (okS n)) = true := h
      rw [Bool.and_eq_true, decide_eq_true_eq, List.all_eq_true] at h
      obtain ⟨s1, s2, s3, s4⟩ := same_isi (m_zsame (n + 1)) (.tup ds) M "tuple" rfl
      rw [same_unf, seq_step (same0 _ _ _ rfl), seq_step (s1 (by decide)), seq_ret (sc_t _ ds M h.1 fun a ha M => same_refl n a M (h.2 a ha)), outOf_rt']
  | ins c f => cases n <;> cases h
  | glo x => cases n <;> cases h
  | ty x => cases n <;> cases h
  | ro x => cases n <;> cases h

/-! ### the law -/
theorem src_lst (ds : List D) (M : Mst) : src M (.t (.lst (ds.map T.d))) = some (.l ds, M) := by
  show (match sqD (frz (.lst (ds.map T.d))) with | some q => some (q, M) | none => none) = _
  rw [frz_ds]; rfl
theorem src_ld (ds : List D) (M : Mst) : src M (.t (.d (.lst ds))) = some (.l ds, M) := rfl
theorem catLL {r1 r2 : R} {a b : List D} {M : Mst} (h1 : src M r1 = some (.l a, M)) (h2 : src M r2 = some (.l b, M)) (hq : isSq (frzR M r1) = true) (h : a.length + b.length ≤ 1000000) : addR r1 r2 M = .ok (.t (.lst ((a ++ b).map T.d))) M := by
  unfold addR case2
  rw [if_pos hq]
  unfold catR
  simp only [h1, h2]
  rw [if_pos h]
theorem isSq_lst (ds : List D) (M : Mst) : isSq (frzR M (.t (.lst (ds.map T.d)))) = true := by
  show isSq (frz _) = true
  rw [frz_ds]; rfl
theorem iOf_lst {F : Den} {ρ : Ev} {M : Mst} {ds : List D} (h : F ρ M = .ok (.t (.lst (ds.map T.d))) M) : iOf F ρ M = .ok ds M := by
  unfold iOf
  rw [h]
  show (match items (frz (.lst (ds.map T.d))) with | some ds => Out.ok ds M | none => .bad) = _
  rw [frz_ds]; rfl
theorem lc_ev {G : DenI} {g : Tg} {own : List Nat} {f : Den} {ρ : Ev} {M : Mst} (q : D → D) {ds : List D} (hG : G ρ M = .ok ds M) (h : ∀ d ∈ ds, ∃ ρ1, setT g d (wipeE ρ own) = some ρ1 ∧ f ρ1 M = .ok (.t (.d (q d))) M) (hn : ds.length ≤ 1000) :
    eLc G g own tYesD f ρ M = .ok (.t (.lst ((ds.map q).map T.d))) M := by
  unfold eLc
  rw [hG]
  show (lcL g own tYesD f ρ ds [] M).bind _ = _
  rw [lc_map (c := tYesD) q ds (fun d hd => let ⟨ρ1, h1, h2⟩ := h d hd; ⟨ρ1, h1, rfl, h2⟩) [] (by rw [List.length_nil]; omega)]
  rfl
theorem same_step {A B : Den} {ρ : Ev} {M : Mst} {r1 r2 : R} {d : D} (hA : A ρ M = .ok r1 M) (hB : B ρ M = .ok r2 M) (h1 : svR r1 = .d d) (h2 : svR r2 = .d d) (ho : okS 2 d = true) :
    eCall (m_zsame 3) (eArity 2 (eCons A (eCons B eNil))) ρ M = .ok (.t (.d (.bl true))) M := by
  simp only [Out.bind, eVar, eC, eSeq2, eNil, eCons, eTB, tAndD, tOrD, tNotD, bindS, sSeq, sNil, sIf, sRet, sAsg, gSet, svR, frz, eB, gItem, List.getElem?_cons_zero, List.getElem?_cons_succ, List.set_cons_zero, List.set_cons_succ, if_true, if_false, Bool.false_eq_true, decide_true, decide_false, eCall, eArity, hA, hB, List.length, Nat.reduceAdd, List.map]
  show m_zsame 3 [svR r1, svR r2] M = _
  rw [h1, h2, same_refl 2 d M ho]
theorem svR_lst (ds : List D) : svR (.t (.lst (ds.map T.d))) = .d (.lst ds) := by
  show SV.d (frz _) = _
  rw [frz_ds]
theorem guard_step {A : Den} {ρ : Ev} {M : Mst} (h : A ρ M = .ok (.t (.d (.bl true))) M) : sIf (tNotD (eTru A)) (sRet (eC (.bl false))) sNil ρ M = some (.nx ρ, M) := by
  simp only [Out.bind, eVar, eC, eSeq2, eNil, eCons, eTB, tAndD, tOrD, tNotD, bindS, sSeq, sNil, sIf, sRet, sAsg, gSet, svR, frz, eB, gItem, List.getElem?_cons_zero, List.getElem?_cons_succ, List.set_cons_zero, List.set_cons_succ, if_true, if_false, Bool.false_eq_true, decide_true, decide_false, eTru, h, frzR, truth, Bool.not_true]
abbrev kd (ws : List (List Nat)) : List D := ws.map fun l => D.str (S l)
abbrev r12 (ns : List Int) (a b c d e f g h : Option SV) : Ev := [some (.d (.ro (ns.map D.int))), some (.h 0), a, b, c, d, e, f, g, h, none, none]
def Good (most : Int) (ws : List (List Nat)) : Prop := ws.length = 4 ∧ ∀ w ∈ ws, 1 ≤ w.length ∧ (w.length : Int) ≤ most ∧ ∀ c ∈ w, c ∈ abc
theorem isW_good {w : List Nat} {most : Int} (h : 1 ≤ w.length ∧ (w.length : Int) ≤ most ∧ ∀ c ∈ w, c ∈ abc) : isW w most = true := by
  unfold isW
  rw [Bool.and_eq_true, List.all_eq_true]
  exact ⟨decide_eq_true ⟨by omega, h.2.1⟩, fun c hc => decide_eq_true (h.2.2 c hc)⟩
theorem law1 (ns : List Int) {M0 M : Mst} (h : RD 0 M0 M) : ∃ ks nm M', t_law_1 (r12 ns none none none none none none none none) M = some (.nx (r12 ns (some (.d (.lst (kd ks)))) (some (.d (.lst (kd nm)))) none none none none none none), M') ∧ RD 0 M0 M' ∧ Good 6 ks ∧ Good 8 nm := by
  obtain ⟨ks, M1, a1, a2, a3, a4⟩ := kinds h 4 (by decide) (by decide)
  obtain ⟨nm, M2, b1, b2, b3, b4⟩ := words a2 4 8 (by decide) (by decide) (by decide) (by decide)
  refine ⟨ks, nm, M2, ?_, b2, ⟨a3, a4⟩, ⟨b3, b4⟩⟩
  unfold t_law_1
  simp only [Out.bind, eVar, eC, eSeq2, eNil, eCons, eTB, tAndD, tOrD, tNotD, bindS, sSeq, sNil, sIf, sRet, sAsg, gSet, svR, frz, eB, gItem, List.getElem?_cons_zero, List.getElem?_cons_succ, List.set_cons_zero, List.set_cons_succ, if_true, if_false, Bool.false_eq_true, decide_true, decide_false, sPar2, eCall, eArity, List.map, List.length, Nat.reduceAdd, a1, b1, frzL_ds]
theorem law2 (ns : List Int) {M : Mst} {ks nm : List (List Nat)} (hk : Good 6 ks) (hn : Good 8 nm) : t_law_2 (r12 ns (some (.d (.lst (kd ks)))) (some (.d (.lst (kd nm)))) none none none none none none) M = some (.nx (r12 ns (some (.d (.lst (kd ks)))) (some (.d (.lst (kd nm)))) none none none none none none), M) := by
  unfold t_law_2
  refine guard_step (same_step (d := .lst (List.replicate 4 (.bl true))) (lc_ev (fun _ => .bl true) (ds := kd ks) (iOf_lst ?_) ?_ ?_) rfl ?_ rfl (by decide))
  · have e1 : slR none (some 0) (.t (.d (.lst (kd nm)))) M = .ok (.t (.lst (([] : List D).map T.d))) M := by
      show Out.ok (R.t (.lst ((cutD (kd nm) none (some 0)).map T.d))) M = _
      unfold cutD
      rw [HT.sIx_none, sIxI _ _ _ (by decide)]
      simp
    have e2 := catLL (M := M) (src_ld (kd ks) M) (src_lst [] M) rfl (by have := hk.1; simp; omega)
    rw [List.append_nil] at e2
    simp only [Out.bind, eVar, eC, eSeq2, eNil, eCons, eTB, tAndD, tOrD, tNotD, bindS, sSeq, sNil, sIf, sRet, sAsg, gSet, svR, frz, eB, gItem, List.getElem?_cons_zero, List.getElem?_cons_succ, List.set_cons_zero, List.set_cons_succ, if_true, if_false, Bool.false_eq_true, decide_true, decide_false, eSl, oNone, oSome, frzR, e1, e2]
  · intro d hd
    obtain ⟨w, hw, rfl⟩ := List.mem_map.mp hd
    refine ⟨_, rfl, ?_⟩
    show m_is_kind [.d (.str (S w))] M = _
    rw [isKind_str w M (by have := (hk.2 w hw).2.1; omega), isW_good (hk.2 w hw)]
  · rw [List.length_map, hk.1]; decide
  · rw [svR_lst, List.map_const', List.length_map, hk.1]

theorem reel_ev (ns : List Int) : ∃ cs s, m_zreel [.d (.ro (ns.map D.int))] [] = .ok (.t (reelT cs 0 0 s)) [] ∧ 0 ≤ s ∧ s < 18446744073709551616 := by
  have hc : cutD (ns.map D.int) none (some 63) = (ns.take 63).map D.int := by
    unfold cutD
    rw [HT.sIx_none, sIxI _ _ _ (by decide), List.drop_zero, Nat.sub_zero]
    rw [show (63 : Int).toNat = 63 from rfl, List.length_map]
    by_cases h : 63 ≤ ns.length
    · rw [Nat.min_eq_left h, List.map_take]
    · rw [Nat.min_eq_right (by omega), List.take_of_length_le (by simp), List.take_of_length_le (l := ns) (by omega)]
  have hl : (ns.take 63).length ≤ 63 := by rw [List.length_take]; omega
  refine ⟨ns.take 63, 12011 + 7 * ((ns.take 63).length : Nat), ?_, by omega, by omega⟩
  have e0 : slR none (some 63) (.t (.d (.ro (ns.map D.int)))) [] = .ok (.t (.lst (((ns.take 63).map D.int).map T.d))) [] := by
    show Out.ok (R.t (.lst ((cutD (ns.map D.int) none (some 63)).map T.d))) [] = _
    rw [hc]
  have e1 : listR [.t (.lst (((ns.take 63).map D.int).map T.d))] [] = .ok (.t (.lst (((ns.take 63).map D.int).map T.d))) [] := by
    simp only [listR, src_lst]
  show outOf 0 (sSeq t_zreel_0 t_zreel_1 [some (.d (.ro (ns.map D.int))), none] []) = _
  rw [seq_step (ρ' := [some (.d (.ro (ns.map D.int))), some (.d (.lst ((ns.take 63).map D.int)))]) (M' := [])]
  · unfold t_zreel_1
    have m7 := mulI 7 ((ns.take 63).length : Nat) [] (mulC_l _ _ (by decide))
    simp only [Out.bind, eVar, eC, eSeq2, eNil, eCons, eTB, tAndD, tOrD, tNotD, bindS, sSeq, sNil, sIf, sRet, sAsg, gSet, svR, frz, eB, gItem, List.getElem?_cons_zero, List.getElem?_cons_succ, List.set_cons_zero, List.set_cons_succ, if_true, if_false, Bool.false_eq_true, decide_true, decide_false, eLst, lenL, List.length_map, m7, addI, treesM, List.length, Nat.reduceAdd, Nat.reduceLeDiff]
    rfl
  · unfold t_zreel_0
    simp only [Out.bind, eVar, eC, eSeq2, eNil, eCons, eTB, tAndD, tOrD, tNotD, bindS, sSeq, sNil, sIf, sRet, sAsg, gSet, svR, frz, eB, gItem, List.getElem?_cons_zero, List.getElem?_cons_succ, List.set_cons_zero, List.set_cons_succ, if_true, if_false, Bool.false_eq_true, decide_true, decide_false, eSl, oNone, oSome, frzR, e0, e1, frzL_ds]

theorem Good.wk {ws : List (List Nat)} (h : Good 6 ws) : Good 8 ws := ⟨h.1, fun w hw => ⟨(h.2 w hw).1, by have := (h.2 w hw).2.1; omega, (h.2 w hw).2.2⟩⟩
theorem law3 (ns : List Int) {M : Mst} {ks nm : List (List Nat)} (hk : Good 6 ks) (hn : Good 8 nm) : t_law_3 (r12 ns (some (.d (.lst (kd ks)))) (some (.d (.lst (kd nm)))) none none none none none none) M = some (.nx (r12 ns (some (.d (.lst (kd ks)))) (some (.d (.lst (kd nm)))) none none none none none none), M) := by
  unfold t_law_3
  refine guard_step (same_step (d := .lst (List.replicate 8 (.bl true))) (lc_ev (fun _ => .bl true) (ds := kd nm ++ kd ks) (iOf_lst ?_) ?_ ?_) rfl ?_ rfl (by decide))
  · have e2 := catLL (M := M) (src_ld (kd nm) M) (src_ld (kd ks) M) rfl (by have := hk.1; have := hn.1; simp; omega)
    simp only [Out.bind, eVar, eC, eSeq2, eNil, eCons, eTB, tAndD, tOrD, tNotD, bindS, sSeq, sNil, sIf, sRet, sAsg, gSet, svR, frz, eB, gItem, List.getElem?_cons_zero, List.getElem?_cons_succ, List.set_cons_zero, List.set_cons_succ, if_true, if_false, Bool.false_eq_true, decide_true, decide_false, e2]
  · intro d hd
    rw [← List.map_append] at hd
    obtain ⟨w, hw, rfl⟩ := List.mem_map.mp hd
    have g : 1 ≤ w.length ∧ (w.length : Int) ≤ 8 ∧ ∀ c ∈ w, c ∈ abc := by
      rcases List.mem_append.mp hw with hw | hw
      · exact hn.2 w hw
      · exact hk.wk.2 w hw
    refine ⟨_, rfl, ?_⟩
    show m_is_name [.d (.str (S w))] M = _
    rw [isName_str w M (by omega), isW_good g]
  · rw [List.length_append, List.length_map, List.length_map, hk.1, hn.1]; decide
  · rw [svR_lst, List.map_const', List.length_append, List.length_map, List.length_map, hk.1, hn.1]
def signs : List Nat := [65, 95, 49, 32, 45, 126, 10, 58, 90]
theorem sA : ("A" : Str) = S [65] := by decide +kernel
theorem sU : ("_" : Str) = S [95] := by decide +kernel
theorem s1' : ("1" : Str) = S [49] := by decide +kernel
theorem sSp : (" " : Str) = S [32] := by decide +kernel
theorem sDa : ("-" : Str) = S [45] := by decide +kernel
theorem sTi : ("~" : Str) = S [126] := by decide +kernel
theorem sNl : ("\n" : Str) = S [10] := by decide +kernel
theorem sCo : (":" : Str) = S [58] := by decide +kernel
theorem sZ : ("Z" : Str) = S [90] := by decide +kernel
theorem s_a : ("a" : Str) = S [97] := by decide +kernel
theorem s_e : ("" : Str) = S [] := by decide +kernel
theorem s_sum : ("sum" : Str) = S [115, 117, 109] := by decide +kernel
theorem s_plan : ("plan" : Str) = S [112, 108, 97, 110] := by decide +kernel
theorem s_abch : ("abcdefgh" : Str) = S [97, 98, 99, 100, 101, 102, 103, 104] := by decide +kernel
section
variable {ns : List Int} {M M0 : Mst} {k0 k1 k2 k3 n0 n1 n2 n3 : List Nat}
abbrev q4 (a b c d : List Nat) : D := .lst [.str (S a), .str (S b), .str (S c), .str (S d)]
theorem law4 (h : RD 0 M0 M) (h0 : k0.length ≤ 6) (b : Option SV) : ∃ sp M', t_law_4 (r12 ns (some (.d (q4 k0 k1 k2 k3))) b none none none none none none) M = some (.nx (r12 ns (some (.d (q4 k0 k1 k2 k3))) b (some (.d (.int sp))) none none none none none), M') ∧ RD 0 M0 M' ∧ 0 ≤ sp ∧ sp ≤ k0.length := by
  obtain ⟨i, M', h1, h2, h3, h4⟩ := h.draw (size := (k0.length : Nat) + 1) (by omega) (by omega)
  refine ⟨i, M', ?_, h4, h2, by omega⟩
  have e1 : getR (.t (.d (q4 k0 k1 k2 k3))) (.t (.d (.int 0))) M = .ok (.t (.d (.str (S k0)))) M := rfl
  unfold t_law_4
  simp only [Out.bind, eVar, eC, eSeq2, eNil, eCons, eTB, tAndD, tOrD, tNotD, bindS, sSeq, sNil, sIf, sRet, sAsg, gSet, svR, frz, eB, gItem, List.getElem?_cons_zero, List.getElem?_cons_succ, List.set_cons_zero, List.set_cons_succ, if_true, if_false, Bool.false_eq_true, decide_true, decide_false, eCall, eArity, List.map_cons, List.map_nil, List.length_cons, List.length_nil, Nat.reduceAdd, e1, lenS k0 M (show k0.length ≤ 1000000 by omega), addI, h1]
theorem law5 (h : RD 0 M0 M) (a b c : Option SV) : ∃ s M', t_law_5 (r12 ns a b c none none none none none) M = some (.nx (r12 ns a b c (some (.d (.str (S [s])))) none none none none), M') ∧ RD 0 M0 M' ∧ s ∉ abc := by
  obtain ⟨d, M', h1, h2, h3⟩ := h.ofL (ds := signs.map fun c => D.str (S [c])) (by decide) (by decide)
  obtain ⟨s, hs, rfl⟩ := List.mem_map.mp h2
  refine ⟨s, M', ?_, h3, ?_⟩
  · unfold t_law_5
    have e : m_zof [.h 0, .d (.lst [.str (S [65]), .str (S [95]), .str (S [49]), .str (S [32]), .str (S [45]), .str (S [126]), .str (S [10]), .str (S [58]), .str (S [90])])] M = .ok (.t (.d (.str (S [s])))) M' := h1
    simp only [Out.bind, eVar, eC, eSeq2, eNil, eCons, eTB, tAndD, tOrD, tNotD, bindS, sSeq, sNil, sIf, sRet, sAsg, gSet, svR, frz, eB, gItem, List.getElem?_cons_zero, List.getElem?_cons_succ, List.set_cons_zero, List.set_cons_succ, if_true, if_false, Bool.false_eq_true, decide_true, decide_false, eCall, eArity, eLst, treesM, sA, sU, s1', sSp, sDa, sTi, sNl, sCo, sZ, List.map_cons, List.map_nil, List.length_cons, List.length_nil, Nat.reduceAdd, Nat.reduceLeDiff, frzL, e]
  · have : ∀ s ∈ signs, s ∉ abc := by decide
    exact this s hs
theorem law6 (h0 : k0.length ≤ 6) {sp : Int} (hs : 0 ≤ sp) (s : Nat) (b : Option SV) : t_law_6 (r12 ns (some (.d (q4 k0 k1 k2 k3))) b (some (.d (.int sp))) (some (.d (.str (S [s])))) none none none none) M = some (.nx (r12 ns (some (.d (q4 k0 k1 k2 k3))) b (some (.d (.int sp))) (some (.d (.str (S [s])))) (some (.d (.str (S (k0.take sp.toNat ++ [s] ++ k0.drop sp.toNat))))) none none none), M) := by
  have e1 : getR (.t (.d (q4 k0 k1 k2 k3))) (.t (.d (.int 0))) M = .ok (.t (.d (.str (S k0)))) M := rfl
  have c1 : (k0.take sp.toNat).length + [s].length ≤ 1000000 := by rw [List.length_take]; simp only [List.length_cons, List.length_nil]; omega
  have c2 : (k0.take sp.toNat ++ [s]).length + (k0.drop sp.toNat).length ≤ 1000000 := by rw [List.length_append, List.length_take, List.length_drop]; simp only [List.length_cons, List.length_nil]; omega
  unfold t_law_6
  simp only [Out.bind, eVar, eC, eSeq2, eNil, eCons, eTB, tAndD, tOrD, tNotD, bindS, sSeq, sNil, sIf, sRet, sAsg, gSet, svR, frz, eB, gItem, List.getElem?_cons_zero, List.getElem?_cons_succ, List.set_cons_zero, List.set_cons_succ, if_true, if_false, Bool.false_eq_true, decide_true, decide_false, eSl, oNone, oSome, frzR, e1, slS_to k0 sp _ (show k0.length ≤ 1000000 by omega) hs, slS_from k0 sp _ (show k0.length ≤ 1000000 by omega) hs, catSS _ _ _ c1, catSS _ _ _ c2]
abbrev tl8 : List Nat := [97, 98, 99, 100, 101, 102, 103, 104]
theorem law7 (h0 : n0.length ≤ 8) (a c d e : Option SV) : t_law_7 (r12 ns a (some (.d (q4 n0 n1 n2 n3))) c d e none none none) M = some (.nx (r12 ns a (some (.d (q4 n0 n1 n2 n3))) c d e (some (.d (.str (S (n0 ++ tl8.drop n0.length))))) none none), M) := by
  have e1 : getR (.t (.d (q4 n0 n1 n2 n3))) (.t (.d (.int 0))) M = .ok (.t (.d (.str (S n0)))) M := rfl
  have c1 : n0.length + (tl8.drop n0.length).length ≤ 1000000 := by rw [List.length_drop]; simp only [List.length_cons, List.length_nil]; omega
  have e2 : slR (some (n0.length : Int)) none (.t (.d (.str (S tl8)))) M = .ok (.t (.d (.str (S (tl8.drop n0.length))))) M := slS_from tl8 (n0.length : Int) M (by decide) (by omega)
  unfold t_law_7
  simp only [Out.bind, eVar, eC, eSeq2, eNil, eCons, eTB, tAndD, tOrD, tNotD, bindS, sSeq, sNil, sIf, sRet, sAsg, gSet, svR, frz, eB, gItem, List.getElem?_cons_zero, List.getElem?_cons_succ, List.set_cons_zero, List.set_cons_succ, if_true, if_false, Bool.false_eq_true, decide_true, decide_false, eSl, oNone, oSome, frzR, e1, s_abch, lenS n0 M (show n0.length ≤ 1000000 by omega), e2, catSS _ _ _ c1]
end

/-! the bad ones -/
abbrev badL (bent long k1 : List Nat) : List D := [.str (S bent), .str (S []), .non, .int 3, .bl true, .tup [.str (S [97])], .lst [.str (S [97])], .tup [], .str (S (long ++ [97])), .str (S (k1 ++ [32])), .str (S [10])]
section
variable {ns : List Int} {M M0 : Mst} {k0 k1 k2 k3 n0 n1 n2 n3 bent long : List Nat}
theorem law8 (hk : k1.length ≤ 6) (hl : long.length ≤ 8) (b c d : Option SV) : t_law_8 (r12 ns (some (.d (q4 k0 k1 k2 k3))) b c d (some (.d (.str (S bent)))) (some (.d (.str (S long)))) none none) M = some (.nx (r12 ns (some (.d (q4 k0 k1 k2 k3))) b c d (some (.d (.str (S bent)))) (some (.d (.str (S long)))) (some (.d (.lst (badL bent long k1)))) none), M) := by
  have e1 : getR (.t (.d (q4 k0 k1 k2 k3))) (.t (.d (.int 1))) M = .ok (.t (.d (.str (S k1)))) M := rfl
  have c1 : long.length + [97].length ≤ 1000000 := by simp only [List.length_cons, List.length_nil]; omega
  have c2 : k1.length + [32].length ≤ 1000000 := by simp only [List.length_cons, List.length_nil]; omega
  unfold t_law_8
  simp only [Out.bind, eVar, eC, eSeq2, eNil, eCons, eTB, tAndD, tOrD, tNotD, bindS, sSeq, sNil, sIf, sRet, sAsg, gSet, svR, frz, eB, gItem, List.getElem?_cons_zero, List.getElem?_cons_succ, List.set_cons_zero, List.set_cons_succ, if_true, if_false, Bool.false_eq_true, decide_true, decide_false, eLst, eTup, treesM, s_e, s_a, sSp, sNl, e1, catSS _ _ _ c1, catSS _ _ _ c2, List.length_cons, List.length_nil, Nat.reduceAdd, Nat.reduceLeDiff, frzL]
theorem isW_bad {w : List Nat} {most : Int} {c : Nat} (h : c ∈ w) (hc : c ∉ abc) : isW w most = false := by
  unfold isW
  rw [Bool.and_eq_false_iff]
  refine .inr ?_
  rw [List.all_eq_false]
  exact ⟨c, h, by simpa using hc⟩
theorem isW_long {w : List Nat} {most : Int} (h : most < w.length) : isW w most = false := by
  unfold isW
  rw [decide_eq_false (fun z => by have := z.2; omega), Bool.false_and]
theorem badK {s : Nat} {sp : Nat} (hs : s ∉ abc) (hk0 : k0.length ≤ 6) (hk : k1.length ≤ 6) (hl : long.length = 8) : ∀ d ∈ badL (k0.take sp ++ [s] ++ k0.drop sp) long k1, m_is_kind [.d d] M = .ok (.t (.d (.bl false))) M ∧ m_is_name [.d d] M = .ok (.t (.d (.bl false))) M := by
  have st : ∀ w : List Nat, w.length ≤ 1000000 → isW w 6 = false → isW w 8 = false → m_is_kind [.d (.str (S w))] M = .ok (.t (.d (.bl false))) M ∧ m_is_name [.d (.str (S w))] M = .ok (.t (.d (.bl false))) M := fun w h1 h2 h3 => ⟨by rw [isKind_str w M h1, h2], by rw [isName_str w M h1, h3]⟩
  have no : ∀ (d : D) (t : String), tyName d = some t → isI t "str" = false → m_is_kind [.d d] M = .ok (.t (.d (.bl false))) M ∧ m_is_name [.d d] M = .ok (.t (.d (.bl false))) M := fun d t h1 h2 => ⟨isKind_no d t M h1 h2, isName_no d t M h1 h2⟩
  intro d hd
  simp only [List.mem_cons, List.not_mem_nil, or_false] at hd
  rcases hd with rfl | rfl | rfl | rfl | rfl | rfl | rfl | rfl | rfl | rfl | rfl
  · have m : s ∈ k0.take sp ++ [s] ++ k0.drop sp := by simp
    exact st _ (by simp only [List.length_append, List.length_take, List.length_drop, List.length_cons, List.length_nil]; omega) (isW_bad m hs) (isW_bad m hs)
  · exact st [] (by decide) (by decide) (by decide)
  · exact no _ "NoneType" rfl (by decide)
  · exact no _ "int" rfl (by decide)
  · exact no _ "bool" rfl (by decide)
  · exact no _ "tuple" rfl (by decide)
  · exact no _ "list" rfl (by decide)
  · exact no _ "tuple" rfl (by decide)
  · have e : (long ++ [97]).length = 9 := by simp [hl]
    exact st _ (by omega) (isW_long (by omega)) (isW_long (by omega))
  · have m : 32 ∈ k1 ++ [32] := by simp
    exact st _ (by simp only [List.length_append, List.length_cons, List.length_nil]; omega) (isW_bad m (by decide)) (isW_bad m (by decide))
  · exact st [10] (by decide) (by decide) (by decide)
theorem law9 {a b c d e f : Option SV} {bad : List D} (hl : bad.length = 11) (h : ∀ x ∈ bad, m_is_kind [.d x] M = .ok (.t (.d (.bl false))) M ∧ m_is_name [.d x] M = .ok (.t (.d (.bl false))) M) :
    t_law_9 (r12 ns a b c d e f (some (.d (.lst bad))) none) M = some (.nx (r12 ns a b c d e f (some (.d (.lst bad))) (some (.d (.lst (List.replicate 22 (.bl false)))))), M) := by
  have g : iOf (eVar 8) (r12 ns a b c d e f (some (.d (.lst bad))) none) M = .ok bad M := rfl
  have e1 := lc_ev (g := .one 11) (own := [11]) (f := eCall m_is_kind (eArity 1 (eCons (eVar 11) eNil))) (fun _ => .bl false) g (fun x hx => ⟨_, rfl, (h x hx).1⟩) (by omega)
  have e2 := lc_ev (g := .one 11) (own := [11]) (f := eCall m_is_name (eArity 1 (eCons (eVar 11) eNil))) (fun _ => .bl false) g (fun x hx => ⟨_, rfl, (h x hx).2⟩) (by omega)
  rw [List.map_const', hl] at e1 e2
  have e3 := catLL (M := M) (src_lst (List.replicate 11 (D.bl false)) M) (src_lst (List.replicate 11 (D.bl false)) M) (isSq_lst _ _) (by simp)
  unfold t_law_9
  simp only [Out.bind, eVar, eC, eSeq2, eNil, eCons, eTB, tAndD, tOrD, tNotD, bindS, sSeq, sNil, sIf, sRet, sAsg, gSet, svR, frz, eB, gItem, List.getElem?_cons_zero, List.getElem?_cons_succ, List.set_cons_zero, List.set_cons_succ, if_true, if_false, Bool.false_eq_true, decide_true, decide_false, e1, e2, e3, frzL_ds]
  rfl
theorem law10 {a b c d e f g : Option SV} : t_law_10 (r12 ns a b c d e f g (some (.d (.lst (List.replicate 22 (.bl false)))))) M = some (.nx (r12 ns a b c d e f g (some (.d (.lst (List.replicate 22 (.bl false)))))), M) := by
  unfold t_law_10
  exact guard_step (same_step (d := .lst (List.replicate 22 (.bl false))) rfl rfl rfl rfl (by decide))
theorem law11 {a b c d e g h : Option SV} (hl : long.length = 8) (hw : ∀ c ∈ long, c ∈ abc) : t_law_11 (r12 ns a b c d e (some (.d (.str (S long)))) g h) M = some (.nx (r12 ns a b c d e (some (.d (.str (S long)))) g (some (.d (.lst [.bl false, .bl true, .bl true, .bl false, .bl true, .bl true])))), M) := by
  have c6 : (long.take 6).length = 6 := by rw [List.length_take]; omega
  have c7 : (long.take 7).length = 7 := by rw [List.length_take]; omega
  have w1 := isKind_str long M (by omega)
  have w2 := isName_str long M (by omega)
  have w3 := isKind_str (long.take 6) M (by omega)
  have w4 := isKind_str (long.take 7) M (by omega)
  have w5 := isKind_str [115, 117, 109] M (by decide)
  have w6 := isName_str [112, 108, 97, 110] M (by decide)
  rw [isW_long (by omega)] at w1 w4
  rw [isW_good ⟨by omega, by omega, hw⟩] at w2
  rw [isW_good ⟨by omega, by omega, fun c hc => hw c (List.mem_of_mem_take hc)⟩] at w3
  rw [show isW [115, 117, 109] 6 = true by decide] at w5
  rw [show isW [112, 108, 97, 110] 8 = true by decide] at w6
  have v3 : slR none (some 6) (.t (.d (.str (S long)))) M = .ok (.t (.d (.str (S (long.take 6))))) M := slS_to long 6 M (by omega) (by decide)
  have v4 : slR none (some 7) (.t (.d (.str (S long)))) M = .ok (.t (.d (.str (S (long.take 7))))) M := slS_to long 7 M (by omega) (by decide)
  unfold t_law_11
  simp only [Out.bind, eVar, eC, eSeq2, eNil, eCons, eTB, tAndD, tOrD, tNotD, bindS, sSeq, sNil, sIf, sRet, sAsg, gSet, svR, frz, eB, gItem, List.getElem?_cons_zero, List.getElem?_cons_succ, List.set_cons_zero, List.set_cons_succ, if_true, if_false, Bool.false_eq_true, decide_true, decide_false, eLst, eCall, eCallK, permL, List.getD_cons_zero, eArity, eSl, oNone, oSome, frzR, List.map_cons, List.map_nil, List.length_cons, List.length_nil, Nat.reduceAdd, Nat.reduceLeDiff, s_sum, s_plan, w1, w2, v3, v4, w3, w4, w5, w6, treesM, frzL]
theorem law12 {a b c d e f g : Option SV} : t_law_12 (r12 ns a b c d e f g (some (.d (.lst [.bl false, .bl true, .bl true, .bl false, .bl true, .bl true])))) M = some (.rt (.t (.d (.bl true))), M) := by
  have e := same_step (A := (eSeq2 addR (eVar 9) (eLst (eCons (eC (.tup ((["sum", "greatest", "least", "bag"] : List Str).map D.str))) eNil)))) (B := (eLst (eCons (eC (.bl false)) (eCons (eC (.bl true)) (eCons (eC (.bl true)) (eCons (eC (.bl false)) (eCons (eC (.bl true)) (eCons (eC (.bl true)) (eCons (eTup (eCons (eC (.str "sum")) (eCons (eC (.str "greatest")) (eCons (eC (.str "least")) (eCons (eC (.str "bag")) eNil))))) eNil)))))))))
    (ρ := (r12 ns a b c d e f g (some (.d (.lst [.bl false, .bl true, .bl true, .bl false, .bl true, .bl true]))))) (M := M) (d := .lst [.bl false, .bl true, .bl true, .bl false, .bl true, .bl true, .tup [.str "sum", .str "greatest", .str "least", .str "bag"]]) rfl rfl rfl rfl (by decide)
  unfold t_law_12
  simp only [Out.bind, eVar, eC, eSeq2, eNil, eCons, eTB, tAndD, tOrD, tNotD, bindS, sSeq, sNil, sIf, sRet, sAsg, gSet, svR, frz, eB, gItem, List.getElem?_cons_zero, List.getElem?_cons_succ, List.set_cons_zero, List.set_cons_succ, if_true, if_false, Bool.false_eq_true, decide_true, decide_false, e]
end
theorem law_true (ns : List Int) (_ : ns.length ≤ 63) : ∃ M, m_law [.d (.ro (ns.map D.int))] [] = .ok (.t (.d (.bl true))) M := by
  obtain ⟨cs, s, r1, r2, r3⟩ := reel_ev ns
  have hR : Reel [reelT cs 0 0 s] 0 cs 0 0 s := ⟨rfl, by decide, r2, r3⟩
  obtain ⟨ks, nm, M1, a1, a2, hk, hn⟩ := law1 ns (RD.self hR)
  obtain ⟨k0, k1, k2, k3, rfl⟩ : ∃ a b c d, ks = [a, b, c, d] := by
    match ks, hk.1 with
    | [a, b, c, d], _ => exact ⟨a, b, c, d, rfl⟩
  obtain ⟨n0, n1, n2, n3, rfl⟩ : ∃ a b c d, nm = [a, b, c, d] := by
    match nm, hn.1 with
    | [a, b, c, d], _ => exact ⟨a, b, c, d, rfl⟩
  have hk0 := hk.2 k0 (by simp)
  have hk1 := hk.2 k1 (by simp)
  have hn0 := hn.2 n0 (by simp)
  obtain ⟨sp, M2, b1, b2, b3, b4⟩ := law4 (ns := ns) (k0 := k0) (k1 := k1) (k2 := k2) (k3 := k3) a2 (by omega) (some (.d (q4 n0 n1 n2 n3)))
  obtain ⟨sg, M3, c1, c2, c3⟩ := law5 (ns := ns) b2 (some (.d (q4 k0 k1 k2 k3))) (some (.d (q4 n0 n1 n2 n3))) (some (.d (.int sp)))
  have hlong : (n0 ++ tl8.drop n0.length).length = 8 := by rw [List.length_append, List.length_drop]; simp only [List.length_cons, List.length_nil]; omega
  have hlw : ∀ c ∈ n0 ++ tl8.drop n0.length, c ∈ abc := fun c hc => by
    rcases List.mem_append.mp hc with hc | hc
    · exact hn0.2.2 c hc
    · have : ∀ c ∈ tl8, c ∈ abc := by decide
      exact this c (List.mem_of_mem_drop hc)
  refine ⟨[], ?_⟩
  show outOf 0 (sSeq t_law_0 _ [some (.d (.ro (ns.map D.int))), none, none, none, none, none, none, none, none, none, none, none] []) = _
  rw [seq_step (ρ' := r12 ns none none none none none none none none) (M' := [reelT cs 0 0 s])]
  · rw [seq_step a1, seq_step (law2 ns hk hn), seq_step (law3 ns hk hn)]
    show outOf 0 (sSeq t_law_4 _ (r12 ns (some (.d (q4 k0 k1 k2 k3))) (some (.d (q4 n0 n1 n2 n3))) none none none none none none) M1) = _
    rw [seq_step b1, seq_step c1, seq_step (law6 (by omega) b3 sg _), seq_step (law7 (by omega) _ _ _ _), seq_step (law8 (by omega) (by omega) _ _ _),
      seq_step (law9 rfl (badK c3 (by omega) (by omega) hlong)), seq_step law10, seq_step (law11 hlong hlw), law12]
    rfl
  · unfold t_law_0
    simp only [Out.bind, eVar, eC, eSeq2, eNil, eCons, eTB, tAndD, tOrD, tNotD, bindS, sSeq, sNil, sIf, sRet, sAsg, gSet, svR, frz, eB, gItem, List.getElem?_cons_zero, List.getElem?_cons_succ, List.set_cons_zero, List.set_cons_succ, if_true, if_false, Bool.false_eq_true, decide_true, decide_false, eCall, eArity, List.map_cons, List.map_nil, List.length_cons, List.length_nil, Nat.reduceAdd, r1, gSetM, reelT]
    rfl
end
end Toy

/-! What the top has written, and the law (printed by gen.py) -/
namespace Toy
open PySem L2 DL PyProof.Rows
theorem all_mk {P : Program} {w : World} {K : PySem.W.Frag} {h : Heap} {mg : Str → Option Value} {fa : Addr} (X : K.In h) (G : h.Ns mainGlobals mg) (hfa : mg "law" = some (.ref fa))
    {f_is_word : Addr} {od_is_word an_is_word : Option Addr} {sl_is_word : Array (Option Value)} {oc_is_word kV_is_word dc_is_word pm_is_word cd_is_word ct_is_word : Value}
    {f_is_kind : Addr} {od_is_kind an_is_kind : Option Addr} {sl_is_kind : Array (Option Value)} {oc_is_kind kV_is_kind dc_is_kind pm_is_kind cd_is_kind ct_is_kind : Value}
    {f_is_name : Addr} {od_is_name an_is_name : Option Addr} {sl_is_name : Array (Option Value)} {oc_is_name kV_is_name dc_is_name pm_is_name cd_is_name ct_is_name : Value}
    {f_zreel : Addr} {od_zreel an_zreel : Option Addr} {sl_zreel : Array (Option Value)} {oc_zreel kV_zreel dc_zreel pm_zreel cd_zreel ct_zreel : Value}
    {f_zdraw : Addr} {od_zdraw an_zdraw : Option Addr} {sl_zdraw : Array (Option Value)} {oc_zdraw kV_zdraw dc_zdraw pm_zdraw cd_zdraw ct_zdraw : Value}
    {f_zof : Addr} {od_zof an_zof : Option Addr} {sl_zof : Array (Option Value)} {oc_zof kV_zof dc_zof pm_zof cd_zof ct_zof : Value}
    {f_zsame : Addr} {od_zsame an_zsame : Option Addr} {sl_zsame : Array (Option Value)} {oc_zsame kV_zsame dc_zsame pm_zsame cd_zsame ct_zsame : Value}
    {f_zwords : Addr} {od_zwords an_zwords : Option Addr} {sl_zwords : Array (Option Value)} {oc_zwords kV_zwords dc_zwords pm_zwords cd_zwords ct_zwords : Value}
    {f_zkinds : Addr} {od_zkinds an_zkinds : Option Addr} {sl_zkinds : Array (Option Value)} {oc_zkinds kV_zkinds dc_zkinds pm_zkinds cd_zkinds ct_zkinds : Value}
    {f_law : Addr} {od_law an_law : Option Addr} {sl_law : Array (Option Value)} {oc_law kV_law dc_law pm_law cd_law ct_law : Value}
    {t_LETTERS : Tok}
    {t_MOST_KIND : Tok}
    {t_MOST_NAME : Tok}
    {x_WAYS : Addr} {od_WAYS : Option Addr} {n_WAYS : Nat} {sl_WAYS : Array (Option Value)} {t0_WAYS t1_WAYS t2_WAYS t3_WAYS : Tok}
    (a_is_word : PySem.W.nsIn K mainGlobals "is_word" = some (some (.ref f_is_word))) (l_is_word : K.lookup f_is_word = some ⟨oc_is_word, od_is_word, .func (PySem.W.fnOf "is_word" "is_word" (defArgs s_is_word) (defBody s_is_word) (defScope s_is_word) .none kV_is_word dc_is_word pm_is_word an_is_word cd_is_word ct_is_word), sl_is_word⟩) (c_is_word : PySem.W.codeIn K cd_is_word "is_word" = true)
        (k_is_word : PySem.W.keepIn K (.ref f_is_word) = true)
    (a_is_kind : PySem.W.nsIn K mainGlobals "is_kind" = some (some (.ref f_is_kind))) (l_is_kind : K.lookup f_is_kind = some ⟨oc_is_kind, od_is_kind, .func (PySem.W.fnOf "is_kind" "is_kind" (defArgs s_is_kind) (defBody s_is_kind) (defScope s_is_kind) .none kV_is_kind dc_is_kind pm_is_kind an_is_kind cd_is_kind ct_is_kind), sl_is_kind⟩) (c_is_kind : PySem.W.codeIn K cd_is_kind "is_kind" = true)
        (k_is_kind : PySem.W.keepIn K (.ref f_is_kind) = true)
    (a_is_name : PySem.W.nsIn K mainGlobals "is_name" = some (some (.ref f_is_name))) (l_is_name : K.lookup f_is_name = some ⟨oc_is_name, od_is_name, .func (PySem.W.fnOf "is_name" "is_name" (defArgs s_is_name) (defBody s_is_name) (defScope s_is_name) .none kV_is_name dc_is_name pm_is_name an_is_name cd_is_name ct_is_name), sl_is_name⟩) (c_is_name : PySem.W.codeIn K cd_is_name "is_name" = true)
        (k_is_name : PySem.W.keepIn K (.ref f_is_name) = true)
    (a_zreel : PySem.W.nsIn K mainGlobals "_law_reel" = some (some (.ref f_zreel))) (l_zreel : K.lookup f_zreel = some ⟨oc_zreel, od_zreel, .func (PySem.W.fnOf "_law_reel" "_law_reel" (defArgs s_zreel) (defBody s_zreel) (defScope s_zreel) .none kV_zreel dc_zreel pm_zreel an_zreel cd_zreel ct_zreel), sl_zreel⟩) (c_zreel : PySem.W.codeIn K cd_zreel "_law_reel" = true) (k_zreel : PySem.W.keepIn K
        (.ref f_zreel) = true)
    (a_zdraw : PySem.W.nsIn K mainGlobals "_law_draw" = some (some (.ref f_zdraw))) (l_zdraw : K.lookup f_zdraw = some ⟨oc_zdraw, od_zdraw, .func (PySem.W.fnOf "_law_draw" "_law_draw" (defArgs s_zdraw) (defBody s_zdraw) (defScope s_zdraw) .none kV_zdraw dc_zdraw pm_zdraw an_zdraw cd_zdraw ct_zdraw), sl_zdraw⟩) (c_zdraw : PySem.W.codeIn K cd_zdraw "_law_draw" = true) (k_zdraw : PySem.W.keepIn K
        (.ref f_zdraw) = true)
    (a_zof : PySem.W.nsIn K mainGlobals "_law_of" = some (some (.ref f_zof))) (l_zof : K.lookup f_zof = some ⟨oc_zof, od_zof, .func (PySem.W.fnOf "_law_of" "_law_of" (defArgs s_zof) (defBody s_zof) (defScope s_zof) .none kV_zof dc_zof pm_zof an_zof cd_zof ct_zof), sl_zof⟩) (c_zof : PySem.W.codeIn K cd_zof "_law_of" = true) (k_zof : PySem.W.keepIn K (.ref f_zof) = true)
    (a_zsame : PySem.W.nsIn K mainGlobals "_law_same" = some (some (.ref f_zsame))) (l_zsame : K.lookup f_zsame = some ⟨oc_zsame, od_zsame, .func (PySem.W.fnOf "_law_same" "_law_same" (defArgs s_zsame) (defBody s_zsame) (defScope s_zsame) .none kV_zsame dc_zsame pm_zsame an_zsame cd_zsame ct_zsame), sl_zsame⟩) (c_zsame : PySem.W.codeIn K cd_zsame "_law_same" = true) (k_zsame : PySem.W.keepIn K
        (.ref f_zsame) = true)
    (a_zwords : PySem.W.nsIn K mainGlobals "_law_words" = some (some (.ref f_zwords))) (l_zwords : K.lookup f_zwords = some ⟨oc_zwords, od_zwords, .func (PySem.W.fnOf "_law_words" "_law_words" (defArgs s_zwords) (defBody s_zwords) (defScope s_zwords) .none kV_zwords dc_zwords pm_zwords an_zwords cd_zwords ct_zwords), sl_zwords⟩) (c_zwords : PySem.W.codeIn K cd_zwords "_law_words" = true)
        (k_zwords : PySem.W.keepIn K (.ref f_zwords) = true)
    (a_zkinds : PySem.W.nsIn K mainGlobals "_law_kinds" = some (some (.ref f_zkinds))) (l_zkinds : K.lookup f_zkinds = some ⟨oc_zkinds, od_zkinds, .func (PySem.W.fnOf "_law_kinds" "_law_kinds" (defArgs s_zkinds) (defBody s_zkinds) (defScope s_zkinds) .none kV_zkinds dc_zkinds pm_zkinds an_zkinds cd_zkinds ct_zkinds), sl_zkinds⟩) (c_zkinds : PySem.W.codeIn K cd_zkinds "_law_kinds" = true)
        (k_zkinds : PySem.W.keepIn K (.ref f_zkinds) = true)
    (a_law : PySem.W.nsIn K mainGlobals "law" = some (some (.ref f_law))) (l_law : K.lookup f_law = some ⟨oc_law, od_law, .func (PySem.W.fnOf "law" "law" (defArgs s_law) (defBody s_law) (defScope s_law) .none kV_law dc_law pm_law an_law cd_law ct_law), sl_law⟩) (c_law : PySem.W.codeIn K cd_law "law" = true) (k_law : PySem.W.keepIn K (.ref f_law) = true)
    (z_all : PySem.W.nsIn K mainGlobals "all" = some none)
    (z_bool : PySem.W.nsIn K mainGlobals "bool" = some none)
    (z_int : PySem.W.nsIn K mainGlobals "int" = some none)
    (z_isinstance : PySem.W.nsIn K mainGlobals "isinstance" = some none)
    (z_len : PySem.W.nsIn K mainGlobals "len" = some none)
    (z_list : PySem.W.nsIn K mainGlobals "list" = some none)
    (z_range : PySem.W.nsIn K mainGlobals "range" = some none)
    (z_str : PySem.W.nsIn K mainGlobals "str" = some none)
    (z_tuple : PySem.W.nsIn K mainGlobals "tuple" = some none)
    (z_zip : PySem.W.nsIn K mainGlobals "zip" = some none)
    (a_LETTERS : PySem.W.nsIn K mainGlobals "LETTERS" = some (some (.str "abcdefghijklmnopqrstuvwxyz" t_LETTERS)))
    (a_MOST_KIND : PySem.W.nsIn K mainGlobals "MOST_KIND" = some (some (.int 6 t_MOST_KIND)))
    (a_MOST_NAME : PySem.W.nsIn K mainGlobals "MOST_NAME" = some (some (.int 8 t_MOST_NAME)))
    (a_WAYS : PySem.W.nsIn K mainGlobals "WAYS" = some (some (.ref x_WAYS))) (l_WAYS : K.lookup x_WAYS = some ⟨.type "tuple", od_WAYS, .seq #[.str "sum" t0_WAYS, .str "greatest" t1_WAYS, .str "least" t2_WAYS, .str "bag" t3_WAYS] n_WAYS, sl_WAYS⟩) :
    ∃ fd : FuncData, (∀ (s : Shared) (v : Value), BindsTo s fd ⟨[v], []⟩ [("_law_script", v)]) ∧ ∀ base : Heap, K.In base → base.Ns mainGlobals mg → FnOk P w K mg base (L2.CX P w) 5 fa fd ["_law_script"] (spLaw K) := by
  have e := hfa.symm.trans (PySem.W.mg_of X G a_law)
  cases e
  have T : Txt K mg ⟨f_is_word, f_is_kind, f_is_name, f_zreel, f_zdraw, f_zof, f_zsame, f_zwords, f_zkinds, fa⟩ := ⟨PySem.W.mg_of X G a_is_word, k_is_word, PySem.W.mg_of X G a_is_kind, k_is_kind, PySem.W.mg_of X G a_is_name, k_is_name, PySem.W.mg_of X G a_zreel, k_zreel, PySem.W.mg_of X G a_zdraw, k_zdraw, PySem.W.mg_of X G a_zof, k_zof, PySem.W.mg_of X G a_zsame, k_zsame, PySem.W.mg_of X G a_zwords, k_zwords, PySem.W.mg_of X G a_zkinds, k_zkinds, PySem.W.mg_of X G a_law, k_law, PySem.W.mg_none_of X G z_all, PySem.W.mg_none_of X G z_bool, PySem.W.mg_none_of X G z_int, PySem.W.mg_none_of X G z_isinstance, PySem.W.mg_none_of X G z_len, PySem.W.mg_none_of X G z_list, PySem.W.mg_none_of X G z_range, PySem.W.mg_none_of X G z_str, PySem.W.mg_none_of X G z_tuple, PySem.W.mg_none_of X G z_zip, ⟨_, PySem.W.mg_of X G a_LETTERS⟩, ⟨_, PySem.W.mg_of X G a_MOST_KIND⟩, ⟨_, PySem.W.mg_of X G a_MOST_NAME⟩, ⟨_, PySem.W.mg_of X G a_WAYS, _, _, _, l_WAYS, rfl, rfl, (by show 4 ≤ sizeLine; decide), (.cons ⟨_, rfl⟩ (.cons ⟨_, rfl⟩ (.cons ⟨_, rfl⟩ (.cons ⟨_, rfl⟩ .nil))))⟩⟩
  have F_is_word := fun_mk (st := s_is_word) l_is_word c_is_word k_is_word
  have b_is_word := F_is_word.binds (ps := ["value", "most"]) fun _ _ _ _ _ _ us hl => match us, hl with | [_, _], _ => rfl
  have F_is_kind := fun_mk (st := s_is_kind) l_is_kind c_is_kind k_is_kind
  have b_is_kind := F_is_kind.binds (ps := ["value"]) fun _ _ _ _ _ _ us hl => match us, hl with | [_], _ => rfl
  have F_is_name := fun_mk (st := s_is_name) l_is_name c_is_name k_is_name
  have b_is_name := F_is_name.binds (ps := ["value"]) fun _ _ _ _ _ _ us hl => match us, hl with | [_], _ => rfl
  have F_zreel := fun_mk (st := s_zreel) l_zreel c_zreel k_zreel
  have b_zreel := F_zreel.binds (ps := ["_law_script"]) fun _ _ _ _ _ _ us hl => match us, hl with | [_], _ => rfl
  have F_zdraw := fun_mk (st := s_zdraw) l_zdraw c_zdraw k_zdraw
  have b_zdraw := F_zdraw.binds (ps := ["_law_reel_here", "_law_size"]) fun _ _ _ _ _ _ us hl => match us, hl with | [_, _], _ => rfl
  have F_zof := fun_mk (st := s_zof) l_zof c_zof k_zof
  have b_zof := F_zof.binds (ps := ["_law_reel_here", "_law_some"]) fun _ _ _ _ _ _ us hl => match us, hl with | [_, _], _ => rfl
  have F_zsame := fun_mk (st := s_zsame) l_zsame c_zsame k_zsame
  have b_zsame := F_zsame.binds (ps := ["_law_found", "_law_due"]) fun _ _ _ _ _ _ us hl => match us, hl with | [_, _], _ => rfl
  have F_zwords := fun_mk (st := s_zwords) l_zwords c_zwords k_zwords
  have b_zwords := F_zwords.binds (ps := ["_law_reel_here", "_law_many", "_law_most"]) fun _ _ _ _ _ _ us hl => match us, hl with | [_, _, _], _ => rfl
  have F_zkinds := fun_mk (st := s_zkinds) l_zkinds c_zkinds k_zkinds
  have b_zkinds := F_zkinds.binds (ps := ["_law_reel_here", "_law_many"]) fun _ _ _ _ _ _ us hl => match us, hl with | [_, _], _ => rfl
  have F_law := fun_mk (st := s_law) l_law c_law k_law
  have b_law := F_law.binds (ps := ["_law_script"]) fun _ _ _ _ _ _ us hl => match us, hl with | [_], _ => rfl
  refine ⟨PySem.W.fnOf "law" "law" (defArgs s_law) (defBody s_law) (defScope s_law) .none kV_law dc_law pm_law an_law cd_law ct_law, fun s v => .of_eq rfl, fun base _ _ => ?_⟩
  let d : Ad := ⟨f_is_word, f_is_kind, f_is_name, f_zreel, f_zdraw, f_zof, f_zsame, f_zwords, f_zkinds, fa⟩
  have G_is_word := okF_is_word (P := P) (w := w) (base := base) (d := d) F_is_word T 
  have C_is_word := FOk.of G_is_word b_is_word
  have G_is_kind := okF_is_kind (P := P) (w := w) (base := base) (d := d) F_is_kind T C_is_word
  have C_is_kind := FOk.of G_is_kind b_is_kind
  have CK0_is_kind := FOkK.of (ks := ["value"]) (π := [0]) G_is_kind rfl fun s us ws h1 h2 => match us, ws, h1, h2 with | [], [_], _, _ => .of_eq rfl
  have G_is_name := okF_is_name (P := P) (w := w) (base := base) (d := d) F_is_name T C_is_word
  have C_is_name := FOk.of G_is_name b_is_name
  have CK0_is_name := FOkK.of (ks := ["value"]) (π := [0]) G_is_name rfl fun s us ws h1 h2 => match us, ws, h1, h2 with | [], [_], _, _ => .of_eq rfl
  have G_zreel := okF_zreel (P := P) (w := w) (base := base) (d := d) F_zreel T 
  have C_zreel := FOk.of G_zreel b_zreel
  have G_zdraw := okF_zdraw (P := P) (w := w) (base := base) (d := d) F_zdraw T 
  have C_zdraw := FOk.of G_zdraw b_zdraw
  have G_zof := okF_zof (P := P) (w := w) (base := base) (d := d) F_zof T C_zdraw
  have C_zof := FOk.of G_zof b_zof
  have G_zsame := okF_zsame (P := P) (w := w) (base := base) (d := d) F_zsame b_zsame T  3
  have C_zsame := FOk.of G_zsame b_zsame
  have G_zwords := okF_zwords (P := P) (w := w) (base := base) (d := d) F_zwords T C_zdraw C_zof
  have C_zwords := FOk.of G_zwords b_zwords
  have G_zkinds := okF_zkinds (P := P) (w := w) (base := base) (d := d) F_zkinds T C_zwords
  have C_zkinds := FOk.of G_zkinds b_zkinds
  have G_law := okF_law (P := P) (w := w) (base := base) (d := d) F_law T C_zdraw C_zkinds C_zof C_zreel C_zsame C_zwords C_is_kind C_is_name CK0_is_kind CK0_is_name
  exact fn_law G_law law_true
end Toy
open PySem PySem.W PyProof.Rows
set_option maxRecDepth 100000 in
set_option maxHeartbeats 0 in
theorem PySem.Challenge.cw_twoabreast_k02_kinds_and_names_holds : PySem.Challenge.rw_twoabreast_k02_kinds_and_names.Holds := by
  w_on; o_law; k_head; (case hw => w_witness2)
  k_fill
  refine L2.walk_of (l := PySem.Challenge.rw_twoabreast_k02_kinds_and_names) (n := 63) (k := 5) (x := "_law_script") (CX := fun w => L2.CX PySem.Challenge.rw_twoabreast_k02_kinds_and_names.prog w) (sp := fun w => DL.spLaw _) rfl (by decide) rfl ⟨rfl, by decide, by decide⟩ (fun w h Y => PySem.W.kIn_of Y) ?F
        (fun _ _ a ns hl _ hS => ⟨a, ns, rfl, hS, hl, fun _ => rfl⟩) fun w H s e s' z => DL.cx_no H s e s' z
  case F =>
    intro w mg fa h KX G hmg
    refine' Toy.all_mk KX G hmg ?a_is_word ?l_is_word ?c_is_word ?k_is_word ?a_is_kind ?l_is_kind ?c_is_kind ?k_is_kind ?a_is_name ?l_is_name ?c_is_name ?k_is_name ?a_zreel ?l_zreel ?c_zreel ?k_zreel ?a_zdraw ?l_zdraw ?c_zdraw ?k_zdraw ?a_zof ?l_zof ?c_zof ?k_zof ?a_zsame ?l_zsame ?c_zsame ?k_zsame ?a_zwords ?l_zwords ?c_zwords ?k_zwords ?a_zkinds ?l_zkinds ?c_zkinds ?k_zkinds ?a_law ?l_law ?c_law ?k_law ?z_all ?z_bool ?z_int ?z_isinstance ?z_len ?z_list ?z_range ?z_str ?z_tuple ?z_zip ?a_LETTERS ?a_MOST_KIND ?a_MOST_NAME ?a_WAYS ?l_WAYS
    (case a_is_word => k_is)
    (case l_is_word => k_is)
    (case c_is_word => k_is)
    (case k_is_word => k_is)
    (case a_is_kind => k_is)
    (case l_is_kind => k_is)
    (case c_is_kind => k_is)
    (case k_is_kind => k_is)
    (case a_is_name => k_is)
    (case l_is_name => k_is)
    (case c_is_name => k_is)
    (case k_is_name => k_is)
    (case a_zreel => k_is)
    (case l_zreel => k_is)
    (case c_zreel => k_is)
    (case k_zreel => k_is)
    (case a_zdraw => k_is)
    (case l_zdraw => k_is)
    (case c_zdraw => k_is)
    (case k_zdraw => k_is)
    (case a_zof => k_is)
    (case l_zof => k_is)
    (case c_zof => k_is)
    (case k_zof => k_is)
    (case a_zsame => k_is)
    (case l_zsame => k_is)
    (case c_zsame => k_is)
    (case k_zsame => k_is)
    (case a_zwords => k_is)
    (case l_zwords => k_is)
    (case c_zwords => k_is)
    (case k_zwords => k_is)
    (case a_zkinds => k_is)
    (case l_zkinds => k_is)
    (case c_zkinds => k_is)
    (case k_zkinds => k_is)
    (case a_law => k_is)
    (case l_law => k_is)
    (case c_law => k_is)
    (case k_law => k_is)
    (case z_all => k_is)
    (case z_bool => k_is)
    (case z_int => k_is)
    (case z_isinstance => k_is)
    (case z_len => k_is)
    (case z_list => k_is)
    (case z_range => k_is)
    (case z_str => k_is)
    (case z_tuple => k_is)
    (case z_zip => k_is)
    (case a_LETTERS => k_is)
    (case a_MOST_KIND => k_is)
    (case a_MOST_NAME => k_is)
    (case a_WAYS => k_is)
    (case l_WAYS => k_is)

