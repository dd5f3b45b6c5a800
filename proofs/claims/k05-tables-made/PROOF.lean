import PyProof.Rows.All
import HandS.ForMost
import HandS.ForExc
import HandS.Wide
import HandS.CallSlots
import HandS.Property
import HandS.Zip
import HandS.TupAny
import HandS.IsInst
import HandS.Deep
import HandS.FStr
import HandS.Style
import KE.GoesEnum
import HandS.Strs
import HandS.ClsMeth
import Wide.All
import OpenK.AllK
import Wide.FinOn
import PySem.Challenge.RW_twoabreast_k05_tables_made
set_option Elab.async false
set_option linter.all false
set_option maxRecDepth 100000
set_option maxHeartbeats 4000000
set_option autoImplicit false
/-! DL0: data of Python's values, trees that are not shared yet, and what a heap says of them -/
namespace DL
open PySem L2

/-- data that never changes -/
inductive D where
  | non | bl (b : Bool) | int (i : Int) | str (x : Str)
  /-- tupP true: a tuple whose object is known to have no dict -/
  | lst (ds : List D) | tupP (p : Bool) (ds : List D)
  | ins (c : Str) (fs : List (Str × D))
  | glo (x : Str) | ty (n : String)
  /-- a list that is read only (the script) -/
  | ro (ds : List D)
  | dic (kvs : List (Key × D))
  /-- a thing of which nothing is known -/
  | junk

abbrev D.tup (ds : List D) : D := .tupP false ds

/-- a tree of objects that nobody else holds -/
inductive T where
  | d (x : D) | lst (ts : List T) | tup (ts : List T) | ins (c : Str) (fs : List (Str × T)) | dic (kvs : List (Key × T))

mutual
def frz : T → D
  | .d x => x
  | .lst ts => .lst (frzL ts)
  | .tup ts => .tup (frzL ts)
  | .ins c fs => .ins c (frzF fs)
  | .dic fs => .dic (frzK fs)
def frzL : List T → List D
  | [] => []
  | t :: r => frz t :: frzL r
def frzF : List (Str × T) → List (Str × D)
  | [] => []
  | (f, t) :: r => (f, frz t) :: frzF r
def frzK : List (Key × T) → List (Key × D)
  | [] => []
  | (f, t) :: r => (f, frz t) :: frzK r
end
theorem frzL_eq : ∀ ts : List T, frzL ts = ts.map frz
  | [] => rfl
  | t :: r => by simp [frzL, frzL_eq r]
theorem frzL_d (ds : List D) : frzL (ds.map T.d) = ds := by
  induction ds with
  | nil => rfl
  | cons x r ih => simp [frzL, frz, ih]

abbrev Mg := Str → Option Value
/-- a tuple; p: its object is known to have no dict -/
def SqP (K : PySem.W.Frag) (F : Hp) (p : Bool) (a : Addr) (xs : List V) : Prop := SqT K F a xs ∧ (p = true → ∃ o, (F a = some (.frz o (.tup xs)) ∨ K.lookup a = some o) ∧ o.dict = none)
section
variable (K : PySem.W.Frag) (mg : Mg) (F : Hp)
mutual
inductive Dp : V → D → Prop
  | non : Dp .non .non
  | bl (b : Bool) : Dp (.bl b) (.bl b)
  | int (i : Int) : Dp (.int i) (.int i)
  | str (x : Str) : Dp (.str x) (.str x)
  | lst {a : Addr} {xs : List V} {ds : List D} : F a = some (.lst xs) → DpL xs ds → Dp (.ref a) (.lst ds)
  | ro {a : Addr} {xs : List V} {ds : List D} : SqL K F a xs → DpL xs ds → Dp (.ref a) (.ro ds)
  | tupP {p : Bool} {a : Addr} {xs : List V} {ds : List D} : SqP K F p a xs → DpL xs ds → Dp (.ref a) (.tupP p ds)
  | ins {a C dx : Addr} {fs : List (Str × V)} {c : Str} {gs : List (Str × D)} : F a = some (.ins C dx fs) → mg c = some (.ref C) → DpF fs gs → Dp (.ref a) (.ins c gs)
  | glo {x : Str} {a : Addr} : mg x = some (.ref a) → Dp (.ref a) (.glo x)
  | ty (n : String) : Dp (.ty n) (.ty n)
  | dic {a : Addr} {kvs : List (Key × V)} {gs : List (Key × D)} : F a = some (.dK kvs) → DpK kvs gs → Dp (.ref a) (.dic gs)
  | junk (a : Addr) : Dp (.ref a) .junk
inductive DpL : List V → List D → Prop
  | nil : DpL [] []
  | cons {v : V} {vs : List V} {x : D} {xs : List D} : Dp v x → DpL vs xs → DpL (v :: vs) (x :: xs)
inductive DpF : List (Str × V) → List (Str × D) → Prop
  | nil : DpF [] []
  | cons {f : Str} {v : V} {vs : List (Str × V)} {x : D} {xs : List (Str × D)} : Dp v x → DpF vs xs → DpF ((f, v) :: vs) ((f, x) :: xs)
inductive DpK : List (Key × V) → List (Key × D) → Prop
  | nil : DpK [] []
  | cons {f : Key} {v : V} {vs : List (Key × V)} {x : D} {xs : List (Key × D)} : Dp v x → DpK vs xs → DpK ((f, v) :: vs) ((f, x) :: xs)
end
variable (H : Hp)
mutual
inductive TR : V → T → List Addr → Prop
  | d {v : V} {x : D} : Dp K mg F v x → TR v (.d x) []
  | lst {a : Addr} {vs : List V} {ts : List T} {fp : List Addr} : H a = some (.lst vs) → F a = none → TRL vs ts fp → TR (.ref a) (.lst ts) (a :: fp)
  | tup {a : Addr} {vs : List V} {ts : List T} {fp : List Addr} : H a = some (.tup vs) → F a = none → TRL vs ts fp → TR (.ref a) (.tup ts) (a :: fp)
  | ins {a C dx : Addr} {fs : List (Str × V)} {c : Str} {ts : List (Str × T)} {fp : List Addr} : H a = some (.ins C dx fs) → F a = none → mg c = some (.ref C) → TRF fs ts fp → TR (.ref a) (.ins c ts) (a :: fp)
  | dic {a : Addr} {kvs : List (Key × V)} {ts : List (Key × T)} {fp : List Addr} : H a = some (.dK kvs) → F a = none → TRK kvs ts fp → TR (.ref a) (.dic ts) (a :: fp)
inductive TRL : List V → List T → List Addr → Prop
  | nil : TRL [] [] []
  | cons {v : V} {vs : List V} {t : T} {ts : List T} {f1 f2 : List Addr} : TR v t f1 → TRL vs ts f2 → TRL (v :: vs) (t :: ts) (f1 ++ f2)
inductive TRF : List (Str × V) → List (Str × T) → List Addr → Prop
  | nil : TRF [] [] []
  | cons {f : Str} {v : V} {vs : List (Str × V)} {t : T} {ts : List (Str × T)} {f1 f2 : List Addr} : TR v t f1 → TRF vs ts f2 → TRF ((f, v) :: vs) ((f, t) :: ts) (f1 ++ f2)
inductive TRK : List (Key × V) → List (Key × T) → List Addr → Prop
  | nil : TRK [] [] []
  | cons {f : Key} {v : V} {vs : List (Key × V)} {t : T} {ts : List (Key × T)} {f1 f2 : List Addr} : TR v t f1 → TRK vs ts f2 → TRK ((f, v) :: vs) ((f, t) :: ts) (f1 ++ f2)
end
end

section
variable {K : PySem.W.Frag} {mg : Mg} {F F' H H' : Hp}
theorem Same.seqT {a : Addr} {xs : List V} (e : Same F F') (h : SqT K F a xs) : SqT K F' a xs := by
  rcases h with (h | ⟨o, h⟩) | h
  · exact .inl (.inl (e _ _ h))
  · exact .inl (.inr ⟨o, e _ _ h⟩)
  · exact .inr h
theorem Dp.tup {a : Addr} {xs : List V} {ds : List D} (h : SqT K F a xs) (l : DpL K mg F xs ds) : Dp K mg F (.ref a) (.tup ds) := .tupP ⟨h, fun z => nomatch z⟩ l
theorem Same.seqP {p : Bool} {a : Addr} {xs : List V} (e : Same F F') (h : SqP K F p a xs) : SqP K F' p a xs := ⟨Same.seqT e h.1, fun z => (h.2 z).imp fun o q => ⟨q.1.imp (e _ _) id, q.2⟩⟩
mutual
theorem Dp.mono (e : Same F F') : ∀ {v : V} {x : D}, Dp K mg F v x → Dp K mg F' v x
  | _, _, .non => .non
  | _, _, .bl b => .bl b
  | _, _, .int i => .int i
  | _, _, .str x => .str x
  | _, _, .lst h l => .lst (e _ _ h) (DpL.mono e l)
  | _, _, .ro h l => .ro (e.seq h) (DpL.mono e l)
  | _, _, .tupP h l => .tupP (Same.seqP e h) (DpL.mono e l)
  | _, _, .ins h m l => .ins (e _ _ h) m (DpF.mono e l)
  | _, _, .glo m => .glo m
  | _, _, .ty n => .ty n
  | _, _, .dic h l => .dic (e _ _ h) (DpK.mono e l)
  | _, _, .junk v => .junk v
theorem DpL.mono (e : Same F F') : ∀ {v : List V} {x : List D}, DpL K mg F v x → DpL K mg F' v x
  | _, _, .nil => .nil
  | _, _, .cons h r => .cons (Dp.mono e h) (DpL.mono e r)
theorem DpF.mono (e : Same F F') : ∀ {v : List (Str × V)} {x : List (Str × D)}, DpF K mg F v x → DpF K mg F' v x
  | _, _, .nil => .nil
  | _, _, .cons h r => .cons (Dp.mono e h) (DpF.mono e r)
theorem DpK.mono (e : Same F F') : ∀ {v : List (Key × V)} {x : List (Key × D)}, DpK K mg F v x → DpK K mg F' v x
  | _, _, .nil => .nil
  | _, _, .cons h r => .cons (Dp.mono e h) (DpK.mono e r)
end
theorem DpL.length : ∀ {vs : List V} {xs : List D}, DpL K mg F vs xs → vs.length = xs.length
  | _, _, .nil => rfl
  | _, _, .cons _ r => by simp [DpL.length r]
theorem DpL.get : ∀ {vs : List V} {xs : List D} {i : Nat} {x : D}, DpL K mg F vs xs → xs[i]? = some x → ∃ v, vs[i]? = some v ∧ Dp K mg F v x
  | _, _, _, _, .nil, e => by simp at e
  | _, _, 0, _, .cons h _, e => by simp at e; subst e; exact ⟨_, rfl, h⟩
  | _, _, i + 1, _, .cons _ r, e => by
    obtain ⟨v, h1, h2⟩ := DpL.get (i := i) r (by simpa using e)
    exact ⟨v, by simpa using h1, h2⟩
theorem DpL.append : ∀ {vs ws : List V} {xs ys : List D}, DpL K mg F vs xs → DpL K mg F ws ys → DpL K mg F (vs ++ ws) (xs ++ ys)
  | _, _, _, _, .nil, s => s
  | _, _, _, _, .cons h r, s => .cons h (DpL.append r s)
theorem DpL.take : ∀ {vs : List V} {xs : List D} (n : Nat), DpL K mg F vs xs → DpL K mg F (vs.take n) (xs.take n)
  | _, _, 0, _ => .nil
  | _, _, _ + 1, .nil => .nil
  | _, _, n + 1, .cons h r => .cons h (DpL.take n r)
theorem DpL.drop : ∀ {vs : List V} {xs : List D} (n : Nat), DpL K mg F vs xs → DpL K mg F (vs.drop n) (xs.drop n)
  | _, _, 0, r => r
  | _, _, _ + 1, .nil => .nil
  | _, _, n + 1, .cons _ r => DpL.drop n r
theorem DpL.reverse : ∀ {vs : List V} {xs : List D}, DpL K mg F vs xs → DpL K mg F vs.reverse xs.reverse
  | _, _, .nil => .nil
  | _, _, .cons h r => by simp only [List.reverse_cons]; exact DpL.append (DpL.reverse r) (.cons h .nil)
theorem DpF.get : ∀ {vs : List (Str × V)} {xs : List (Str × D)} {f : Str} {x : D}, DpF K mg F vs xs → xs.lookup f = some x → ∃ v, vs.lookup f = some v ∧ Dp K mg F v x
  | _, _, _, _, .nil, e => by simp at e
  | _, _, f, x, .cons (f := g) h r, e => by
    simp only [List.lookup_cons] at e ⊢
    split at e
    · cases e; exact ⟨_, rfl, h⟩
    · exact DpF.get r e
theorem DpF.none_of : ∀ {vs : List (Str × V)} {xs : List (Str × D)} {f : Str}, DpF K mg F vs xs → xs.lookup f = none → vs.lookup f = none
  | _, _, _, .nil, _ => rfl
  | _, _, f, .cons (f := g) h r, e => by
    simp only [List.lookup_cons] at e ⊢
    split at e
    · cases e
    · exact DpF.none_of r e
theorem TRL.length : ∀ {vs : List V} {xs : List T} {fp : List Addr}, TRL K mg F H vs xs fp → vs.length = xs.length
  | _, _, _, .nil => rfl
  | _, _, _, .cons _ r => by simp [TRL.length r]

mutual
/-- the places of a tree: tracked, not frozen -/
theorem TR.fp : ∀ {v : V} {t : T} {fp : List Addr}, TR K mg F H v t fp → ∀ a ∈ fp, F a = none ∧ ∃ o, H a = some o
  | _, _, _, .d _ => fun _ h => nomatch h
  | _, _, _, .lst h n l => fun a ha => by
    rcases List.mem_cons.mp ha with rfl | ha
    · exact ⟨n, _, h⟩
    · exact TRL.fp l a ha
  | _, _, _, .tup h n l => fun a ha => by
    rcases List.mem_cons.mp ha with rfl | ha
    · exact ⟨n, _, h⟩
    · exact TRL.fp l a ha
  | _, _, _, .ins h n m l => fun a ha => by
    rcases List.mem_cons.mp ha with rfl | ha
    · exact ⟨n, _, h⟩
    · exact TRF.fp l a ha
  | _, _, _, .dic h n l => fun a ha => by
    rcases List.mem_cons.mp ha with rfl | ha
    · exact ⟨n, _, h⟩
    · exact TRK.fp l a ha
theorem TRL.fp : ∀ {v : List V} {t : List T} {fp : List Addr}, TRL K mg F H v t fp → ∀ a ∈ fp, F a = none ∧ ∃ o, H a = some o
  | _, _, _, .nil => fun _ h => nomatch h
  | _, _, _, .cons h r => fun a ha => by
    rcases List.mem_append.mp ha with ha | ha
    · exact TR.fp h a ha
    · exact TRL.fp r a ha
theorem TRF.fp : ∀ {v : List (Str × V)} {t : List (Str × T)} {fp : List Addr}, TRF K mg F H v t fp → ∀ a ∈ fp, F a = none ∧ ∃ o, H a = some o
  | _, _, _, .nil => fun _ h => nomatch h
  | _, _, _, .cons h r => fun a ha => by
    rcases List.mem_append.mp ha with ha | ha
    · exact TR.fp h a ha
    · exact TRF.fp r a ha
theorem TRK.fp : ∀ {v : List (Key × V)} {t : List (Key × T)} {fp : List Addr}, TRK K mg F H v t fp → ∀ a ∈ fp, F a = none ∧ ∃ o, H a = some o
  | _, _, _, .nil => fun _ h => nomatch h
  | _, _, _, .cons h r => fun a ha => by
    rcases List.mem_append.mp ha with ha | ha
    · exact TR.fp h a ha
    · exact TRK.fp r a ha
end
mutual
/-- a tree stays where its places stay -/
theorem TR.stay (e : Same F F') : ∀ {v : V} {t : T} {fp : List Addr}, TR K mg F H v t fp → (∀ a ∈ fp, F' a = none ∧ ∀ o, H a = some o → H' a = some o) → TR K mg F' H' v t fp
  | _, _, _, .d h, _ => .d (h.mono e)
  | _, _, _, .lst h n l, k => .lst ((k _ List.mem_cons_self).2 _ h) (k _ List.mem_cons_self).1 (TRL.stay e l fun a ha => k a (List.mem_cons_of_mem _ ha))
  | _, _, _, .tup h n l, k => .tup ((k _ List.mem_cons_self).2 _ h) (k _ List.mem_cons_self).1 (TRL.stay e l fun a ha => k a (List.mem_cons_of_mem _ ha))
  | _, _, _, .ins h n m l, k => .ins ((k _ List.mem_cons_self).2 _ h) (k _ List.mem_cons_self).1 m (TRF.stay e l fun a ha => k a (List.mem_cons_of_mem _ ha))
  | _, _, _, .dic h n l, k => .dic ((k _ List.mem_cons_self).2 _ h) (k _ List.mem_cons_self).1 (TRK.stay e l fun a ha => k a (List.mem_cons_of_mem _ ha))
theorem TRL.stay (e : Same F F') : ∀ {v : List V} {t : List T} {fp : List Addr}, TRL K mg F H v t fp → (∀ a ∈ fp, F' a = none ∧ ∀ o, H a = some o → H' a = some o) → TRL K mg F' H' v t fp
  | _, _, _, .nil, _ => .nil
  | _, _, _, .cons h r, k => .cons (TR.stay e h fun a ha => k a (List.mem_append_left _ ha)) (TRL.stay e r fun a ha => k a (List.mem_append_right _ ha))
theorem TRF.stay (e : Same F F') : ∀ {v : List (Str × V)} {t : List (Str × T)} {fp : List Addr}, TRF K mg F H v t fp → (∀ a ∈ fp, F' a = none ∧ ∀ o, H a = some o → H' a = some o) → TRF K mg F' H' v t fp
  | _, _, _, .nil, _ => .nil
  | _, _, _, .cons h r, k => .cons (TR.stay e h fun a ha => k a (List.mem_append_left _ ha)) (TRF.stay e r fun a ha => k a (List.mem_append_right _ ha))
theorem TRK.stay (e : Same F F') : ∀ {v : List (Key × V)} {t : List (Key × T)} {fp : List Addr}, TRK K mg F H v t fp → (∀ a ∈ fp, F' a = none ∧ ∀ o, H a = some o → H' a = some o) → TRK K mg F' H' v t fp
  | _, _, _, .nil, _ => .nil
  | _, _, _, .cons h r, k => .cons (TR.stay e h fun a ha => k a (List.mem_append_left _ ha)) (TRK.stay e r fun a ha => k a (List.mem_append_right _ ha))
end
mutual
/-- what a tree is worth over a heap that holds its places -/
theorem TR.seen (e : Same F F') : ∀ {v : V} {t : T} {fp : List Addr}, TR K mg F H v t fp → (∀ a ∈ fp, ∀ o, H a = some o → F' a = some o) → Dp K mg F' v (frz t)
  | _, _, _, .d h, _ => h.mono e
  | _, _, _, .lst h n l, k => .lst (k _ List.mem_cons_self _ h) (TRL.seen e l fun a ha => k a (List.mem_cons_of_mem _ ha))
  | _, _, _, .tup h n l, k => .tup (SqT.of (k _ List.mem_cons_self _ h)) (TRL.seen e l fun a ha => k a (List.mem_cons_of_mem _ ha))
  | _, _, _, .ins h n m l, k => .ins (k _ List.mem_cons_self _ h) m (TRF.seen e l fun a ha => k a (List.mem_cons_of_mem _ ha))
  | _, _, _, .dic h n l, k => .dic (k _ List.mem_cons_self _ h) (TRK.seen e l fun a ha => k a (List.mem_cons_of_mem _ ha))
theorem TRL.seen (e : Same F F') : ∀ {v : List V} {t : List T} {fp : List Addr}, TRL K mg F H v t fp → (∀ a ∈ fp, ∀ o, H a = some o → F' a = some o) → DpL K mg F' v (frzL t)
  | _, _, _, .nil, _ => .nil
  | _, _, _, .cons h r, k => .cons (TR.seen e h fun a ha => k a (List.mem_append_left _ ha)) (TRL.seen e r fun a ha => k a (List.mem_append_right _ ha))
theorem TRF.seen (e : Same F F') : ∀ {v : List (Str × V)} {t : List (Str × T)} {fp : List Addr}, TRF K mg F H v t fp → (∀ a ∈ fp, ∀ o, H a = some o → F' a = some o) → DpF K mg F' v (frzF t)
  | _, _, _, .nil, _ => .nil
  | _, _, _, .cons h r, k => .cons (TR.seen e h fun a ha => k a (List.mem_append_left _ ha)) (TRF.seen e r fun a ha => k a (List.mem_append_right _ ha))
theorem TRK.seen (e : Same F F') : ∀ {v : List (Key × V)} {t : List (Key × T)} {fp : List Addr}, TRK K mg F H v t fp → (∀ a ∈ fp, ∀ o, H a = some o → F' a = some o) → DpK K mg F' v (frzK t)
  | _, _, _, .nil, _ => .nil
  | _, _, _, .cons h r, k => .cons (TR.seen e h fun a ha => k a (List.mem_append_left _ ha)) (TRK.seen e r fun a ha => k a (List.mem_append_right _ ha))
end
end
end DL

/-! DL1: states, how they grow, what a reading says of data -/
namespace DL
open PySem L2

abbrev Mst := List T
inductive R where
  | h (k : Nat) | t (x : T)
inductive SV where
  | d (x : D) | h (k : Nat)
abbrev Ev := List (Option SV)
structure Exc where
  c : Str
  fs : List (Str × D)
inductive Out (α : Type) where
  | ok (a : α) (M : Mst) | exc (e : Exc) (M : Mst) | bad
/-- the ghost of a state: what is frozen, where the mutable objects stand, their places -/
structure Wd where
  F : Hp
  α : Nat → Addr
  φ : Nat → List Addr

/-- a place that may be changed from here -/
def Pm (fs : List Addr) (w : Wd) (H : Hp) (M : Mst) (a : Addr) : Prop := H a = none ∨ (∃ j, j < M.length ∧ a ∈ w.φ j) ∨ a ∈ fs
structure Ext (fs : List Addr) (w : Wd) (H : Hp) (M : Mst) (w' : Wd) (H' : Hp) (M' : Mst) : Prop where
  F : Same w.F w'.F
  len : M.length ≤ M'.length
  al : ∀ k, k < M.length → w'.α k = w.α k
  keep : ∀ a o, H a = some o → ¬ Pm fs w H M a → H' a = some o
  ph : ∀ k, k < M'.length → ∀ a ∈ w'.φ k, Pm fs w H M a
  gr : ∀ a, w'.F a ≠ none → w.F a ≠ none ∨ Pm fs w H M a
  there : ∀ a, H' a = none → H a = none
structure MR (K : PySem.W.Frag) (mg : Mg) (w : Wd) (H : Hp) (M : Mst) : Prop where
  sub : Same w.F H
  obj : ∀ k t, M[k]? = some t → TR K mg w.F H (.ref (w.α k)) t (w.φ k) ∧ (w.φ k).Nodup
  dis : ∀ j k a, j < M.length → k < M.length → a ∈ w.φ j → a ∈ w.φ k → j = k

def RR (K : PySem.W.Frag) (mg : Mg) (w : Wd) (H : Hp) (M : Mst) (v : V) : R → List Addr → Prop
  | .h k, fp => k < M.length ∧ v = .ref (w.α k) ∧ fp = []
  | .t x, fp => TR K mg w.F H v x fp ∧ fp.Nodup ∧ ∀ a ∈ fp, ∀ k, k < M.length → a ∉ w.φ k
inductive RRL (K : PySem.W.Frag) (mg : Mg) (w : Wd) (H : Hp) (M : Mst) : List V → List R → List Addr → Prop
  | nil : RRL K mg w H M [] [] []
  | cons {v : V} {vs : List V} {r : R} {rs : List R} {f1 f2 : List Addr} : RR K mg w H M v r f1 → RRL K mg w H M vs rs f2 → (∀ a ∈ f1, a ∉ f2) → RRL K mg w H M (v :: vs) (r :: rs) (f1 ++ f2)
def VR (K : PySem.W.Frag) (mg : Mg) (w : Wd) (M : Mst) (v : V) : SV → Prop
  | .d x => Dp K mg w.F v x
  | .h k => k < M.length ∧ v = .ref (w.α k)
inductive VRL (K : PySem.W.Frag) (mg : Mg) (w : Wd) (M : Mst) : List V → List SV → Prop
  | nil : VRL K mg w M [] []
  | cons {v : V} {vs : List V} {x : SV} {xs : List SV} : VR K mg w M v x → VRL K mg w M vs xs → VRL K mg w M (v :: vs) (x :: xs)
structure ER (K : PySem.W.Frag) (mg : Mg) (w : Wd) (M : Mst) (σ : St) (ρ : Ev) : Prop where
  len : σ.length = ρ.length
  at_ : ∀ (i : Nat) (x : SV), ρ[i]? = some (some x) → ∃ v, σ[i]? = some (some v) ∧ VR K mg w M v x
def XR (K : PySem.W.Frag) (mg : Mg) (w : Wd) (H : Hp) (cls : Value) (d : Option Addr) (e : Exc) : Prop :=
  ∃ C dx vs, cls = .ref C ∧ mg e.c = some (.ref C) ∧ d = some dx ∧ H dx = some (.xd vs) ∧ DpF K mg w.F vs e.fs

section
variable {K : PySem.W.Frag} {mg : Mg} {fs gs fp f1 f2 : List Addr} {w w' w'' : Wd} {H H' H'' : Hp} {M M' M'' : Mst}
theorem Ext.refl (m : MR K mg w H M) : Ext fs w H M w H M where
  F := Same.refl _
  len := Nat.le_refl _
  al := fun _ _ => rfl
  keep := fun _ _ h _ => h
  ph := fun k hk a ha => .inr (.inl ⟨k, hk, ha⟩)
  gr := fun _ h => .inl h
  there := fun _ h => h
theorem Ext.pm (e : Ext fs w H M w' H' M') (hg : ∀ a ∈ gs, Pm fs w H M a) {a : Addr} (h : Pm gs w' H' M' a) : Pm fs w H M a := by
  rcases h with h | ⟨j, hj, h⟩ | h
  · exact .inl (e.there a h)
  · exact e.ph j hj a h
  · exact hg a h
theorem Ext.trans (e : Ext fs w H M w' H' M') (e' : Ext gs w' H' M' w'' H'' M'') (hg : ∀ a ∈ gs, Pm fs w H M a) : Ext fs w H M w'' H'' M'' where
  F := e.F.trans e'.F
  len := Nat.le_trans e.len e'.len
  al := fun k hk => (e'.al k (Nat.lt_of_lt_of_le hk e.len)).trans (e.al k hk)
  keep := fun a o h n => e'.keep a o (e.keep a o h n) fun z => n (e.pm hg z)
  ph := fun k hk a ha => e.pm hg (e'.ph k hk a ha)
  gr := fun a h => by
    rcases e'.gr a h with z | z
    · exact e.gr a z
    · exact .inr (e.pm hg z)
  there := fun a h => e.there a (e'.there a h)
theorem Ext.trans0 (e : Ext fs w H M w' H' M') (e' : Ext [] w' H' M' w'' H'' M'') : Ext fs w H M w'' H'' M'' := e.trans e' fun _ h => nomatch h
theorem Ext.mono (e : Ext fs w H M w' H' M') (hs : ∀ a ∈ fs, a ∈ gs) : Ext gs w H M w' H' M' := by
  have z : ∀ a, Pm fs w H M a → Pm gs w H M a := fun a h => by
    rcases h with h | h | h
    · exact .inl h
    · exact .inr (.inl h)
    · exact .inr (.inr (hs a h))
  exact ⟨e.F, e.len, e.al, fun a o h n => e.keep a o h fun q => n (z a q), fun k hk a ha => z a (e.ph k hk a ha), fun a h => (e.gr a h).imp id (z a), e.there⟩
theorem RR.fpOk {v : V} {r : R} (h : RR K mg w H M v r fp) : ∀ a ∈ fp, w.F a = none ∧ (∃ o, H a = some o) ∧ ∀ k, k < M.length → a ∉ w.φ k := by
  cases r with
  | h k => obtain ⟨_, _, rfl⟩ := h; exact fun _ z => nomatch z
  | t x => exact fun a ha => ⟨(h.1.fp a ha).1, (h.1.fp a ha).2, h.2.2 a ha⟩
theorem RR.nd {v : V} {r : R} (h : RR K mg w H M v r fp) : fp.Nodup := by
  cases r with
  | h k => obtain ⟨_, _, rfl⟩ := h; exact List.nodup_nil
  | t x => exact h.2.1
/-- a held result stays -/
theorem RR.stay {v : V} {r : R} (h : RR K mg w H M v r fp) (e : Ext gs w H M w' H' M') (hd : ∀ a ∈ fp, a ∉ gs) : RR K mg w' H' M' v r fp := by
  have np : ∀ a ∈ fp, ¬ Pm gs w H M a := fun a ha z => by
    obtain ⟨h1, ⟨o, h2⟩, h3⟩ := h.fpOk a ha
    rcases z with z | ⟨j, hj, z⟩ | z
    · rw [h2] at z; cases z
    · exact h3 j hj z
    · exact hd a ha z
  cases r with
  | h k => obtain ⟨h1, h2, h3⟩ := h; exact ⟨Nat.lt_of_lt_of_le h1 e.len, by rw [e.al k h1]; exact h2, h3⟩
  | t x =>
    obtain ⟨h1, h2, h3⟩ := h
    refine ⟨h1.stay e.F fun a ha => ⟨?_, fun o ho => e.keep a o ho (np a ha)⟩, h2, fun a ha k hk z => np a ha (e.ph k hk a z)⟩
    cases q : w'.F a with
    | none => rfl
    | some o =>
      rcases e.gr a (by rw [q]; exact fun z => nomatch z) with z | z
      · exact absurd (h1.fp a ha).1 z
      · exact absurd z (np a ha)
theorem RRL.fpOk : ∀ {vs : List V} {rs : List R} {fp : List Addr}, RRL K mg w H M vs rs fp → ∀ a ∈ fp, w.F a = none ∧ (∃ o, H a = some o) ∧ ∀ k, k < M.length → a ∉ w.φ k
  | _, _, _, .nil => fun _ z => nomatch z
  | _, _, _, .cons h r _ => fun a ha => by
    rcases List.mem_append.mp ha with z | z
    · exact h.fpOk a z
    · exact RRL.fpOk r a z
theorem RRL.stay : ∀ {vs : List V} {rs : List R} {fp : List Addr}, RRL K mg w H M vs rs fp → Ext gs w H M w' H' M' → (∀ a ∈ fp, a ∉ gs) → RRL K mg w' H' M' vs rs fp
  | _, _, _, .nil, _, _ => .nil
  | _, _, _, .cons h r d, e, hd => .cons (h.stay e fun a ha => hd a (List.mem_append_left _ ha)) (RRL.stay r e fun a ha => hd a (List.mem_append_right _ ha)) d
theorem RRL.length : ∀ {vs : List V} {rs : List R} {fp : List Addr}, RRL K mg w H M vs rs fp → vs.length = rs.length
  | _, _, _, .nil => rfl
  | _, _, _, .cons _ r _ => by simp [RRL.length r]
theorem VR.stay {v : V} {x : SV} (h : VR K mg w M v x) (e : Ext gs w H M w' H' M') : VR K mg w' M' v x := by
  cases x with
  | d x => exact Dp.mono e.F h
  | h k => exact ⟨Nat.lt_of_lt_of_le h.1 e.len, by rw [e.al k h.1]; exact h.2⟩
theorem VRL.stay : ∀ {vs : List V} {xs : List SV}, VRL K mg w M vs xs → Ext gs w H M w' H' M' → VRL K mg w' M' vs xs
  | _, _, .nil, _ => .nil
  | _, _, .cons h r, e => .cons (h.stay e) (VRL.stay r e)
theorem VRL.length : ∀ {vs : List V} {xs : List SV}, VRL K mg w M vs xs → vs.length = xs.length
  | _, _, .nil => rfl
  | _, _, .cons _ r => by simp [VRL.length r]
theorem VRL.get : ∀ {vs : List V} {xs : List SV} {i : Nat} {x : SV}, VRL K mg w M vs xs → xs[i]? = some x → ∃ v, vs[i]? = some v ∧ VR K mg w M v x
  | _, _, _, _, .nil, e => by simp at e
  | _, _, 0, _, .cons h _, e => by simp at e; subst e; exact ⟨_, rfl, h⟩
  | _, _, i + 1, _, .cons _ r, e => by
    obtain ⟨v, h1, h2⟩ := VRL.get (i := i) r (by simpa using e)
    exact ⟨v, by simpa using h1, h2⟩
theorem ER.stay {σ : St} {ρ : Ev} (h : ER K mg w M σ ρ) (e : Ext gs w H M w' H' M') : ER K mg w' M' σ ρ :=
  ⟨h.len, fun i x q => let ⟨v, h1, h2⟩ := h.at_ i x q; ⟨v, h1, h2.stay e⟩⟩
theorem ER.set {σ : St} {ρ : Ev} {i : Nat} {v : V} {x : SV} (h : ER K mg w M σ ρ) (hv : VR K mg w M v x) : ER K mg w M (σ.set i (some v)) (ρ.set i (some x)) := by
  refine ⟨by simpa using h.len, fun j y q => ?_⟩
  by_cases e : i = j
  · subst e
    by_cases hl : i < ρ.length
    · rw [List.getElem?_set_self hl] at q
      cases q
      exact ⟨v, List.getElem?_set_self (by rw [h.len]; exact hl), hv⟩
    · rw [List.getElem?_eq_none (by simpa using hl)] at q; cases q
  · rw [List.getElem?_set_ne e] at q ⊢
    exact h.at_ j y q
theorem ER.clear {σ : St} {ρ : Ev} {i : Nat} (h : ER K mg w M σ ρ) : ER K mg w M (σ.set i none) (ρ.set i none) := by
  refine ⟨by simpa using h.len, fun j y q => ?_⟩
  by_cases e : i = j
  · subst e
    by_cases hl : i < ρ.length
    · rw [List.getElem?_set_self hl] at q; cases q
    · rw [List.getElem?_eq_none (by simpa using hl)] at q; cases q
  · rw [List.getElem?_set_ne e] at q ⊢
    exact h.at_ j y q
def wipeE (ρ : Ev) : List Nat → Ev
  | [] => ρ
  | v :: vs => (wipeE ρ vs).set v none
theorem ER.wipe {σ : St} {ρ : Ev} (h : ER K mg w M σ ρ) : ∀ vs : List Nat, ER K mg w M (L2.wipe σ vs) (wipeE ρ vs)
  | [] => h
  | v :: vs => (ER.wipe h vs).clear

/-! ### freezing -/
def frzR (M : Mst) : R → D
  | .h k => frz (M.getD k (.d .non))
  | .t x => frz x
def frzM (M : Mst) : R → Mst
  | .h k => M.set k (.d (frz (M.getD k (.d .non))))
  | .t _ => M
def frzHp (F H : Hp) (fp : List Addr) : Hp := fun a => if a ∈ fp then H a else F a
theorem frzHp_same {F : Hp} (h : ∀ a ∈ fp, F a = none) : Same F (frzHp F H fp) := fun a o e => by
  unfold frzHp
  split
  · rename_i z; rw [h a z] at e; cases e
  · exact e
theorem frzHp_in (F H : Hp) {fp : List Addr} {a : Addr} (h : a ∈ fp) : frzHp F H fp a = H a := if_pos h
theorem frzHp_out (F H : Hp) {fp : List Addr} {a : Addr} (h : a ∉ fp) : frzHp F H fp a = F a := if_neg h
theorem frzM_length {r : R} : (frzM M r).length = M.length := by cases r <;> simp [frzM]
theorem getD_of {k : Nat} {x : T} (h : M[k]? = some x) : M.getD k (.d .non) = x := by rw [List.getD_eq_getElem?_getD, h]; rfl

/-- a result becomes data -/
theorem settle {v : V} {r : R} (m : MR K mg w H M) (h : RR K mg w H M v r fp) :
    ∃ w', Ext fp w H M w' H (frzM M r) ∧ MR K mg w' H (frzM M r) ∧ Dp K mg w'.F v (frzR M r) ∧ w'.α = w.α := by
  cases r with
  | t x =>
    obtain ⟨h1, h2, h3⟩ := h
    have hn : ∀ a ∈ fp, w.F a = none := fun a ha => (h1.fp a ha).1
    have sF : Same w.F (frzHp w.F H fp) := frzHp_same hn
    refine ⟨⟨frzHp w.F H fp, w.α, w.φ⟩, ⟨sF, Nat.le_refl _, fun _ _ => rfl, fun _ _ q _ => q, fun k hk a ha => .inr (.inl ⟨k, hk, ha⟩), fun a q => ?_, fun _ q => q⟩, ⟨fun a o e => ?_, fun k t e => ?_, m.dis⟩, ?_, rfl⟩
    · by_cases ha : a ∈ fp
      · exact .inr (.inr (.inr ha))
      · exact .inl (by rw [← frzHp_out w.F H ha]; exact q)
    · by_cases ha : a ∈ fp
      · rw [← frzHp_in w.F H ha]; exact e
      · exact m.sub a o (by rw [← frzHp_out w.F H ha]; exact e)
    · obtain ⟨q1, q2⟩ := m.obj k t e
      have hk : k < M.length := (List.getElem?_eq_some_iff.mp e).1
      refine ⟨q1.stay sF fun a ha => ⟨?_, fun _ z => z⟩, q2⟩
      show frzHp w.F H fp a = none
      rw [frzHp_out w.F H fun z => h3 a z k hk ha]
      exact (q1.fp a ha).1
    · exact h1.seen sF fun a ha o ho => by show frzHp w.F H fp a = _; rw [frzHp_in w.F H ha]; exact ho
  | h k =>
    obtain ⟨hk, rfl, rfl⟩ := h
    obtain ⟨x, hx⟩ : ∃ x, M[k]? = some x := ⟨M[k], List.getElem?_eq_getElem hk⟩
    obtain ⟨q1, q2⟩ := m.obj k x hx
    have hn : ∀ a ∈ w.φ k, w.F a = none := fun a ha => (q1.fp a ha).1
    have sF : Same w.F (frzHp w.F H (w.φ k)) := frzHp_same hn
    have seen : Dp K mg (frzHp w.F H (w.φ k)) (.ref (w.α k)) (frz x) := q1.seen sF fun a ha o ho => by rw [frzHp_in w.F H ha]; exact ho
    refine ⟨⟨frzHp w.F H (w.φ k), w.α, fun j => if j = k then [] else w.φ j⟩, ⟨sF, by rw [frzM_length]; exact Nat.le_refl _, fun _ _ => rfl, fun _ _ q _ => q, fun j hj a ha => ?_, fun a q => ?_, fun _ q => q⟩, ⟨fun a o e => ?_, fun j t e => ?_, fun i j a hi hj h1 h2 => ?_⟩, ?_, rfl⟩
    · rw [frzM_length] at hj
      have ha : a ∈ (if j = k then [] else w.φ j) := ha
      split at ha
      · cases ha
      · exact .inr (.inl ⟨j, hj, ha⟩)
    · by_cases ha : a ∈ w.φ k
      · exact .inr (.inr (.inl ⟨k, hk, ha⟩))
      · exact .inl (by rw [← frzHp_out w.F H ha]; exact q)
    · by_cases ha : a ∈ w.φ k
      · rw [← frzHp_in w.F H ha]; exact e
      · exact m.sub a o (by rw [← frzHp_out w.F H ha]; exact e)
    · have e : (M.set k (.d (frz (M.getD k (.d .non)))))[j]? = some t := e
      by_cases hj : k = j
      · subst hj
        rw [List.getElem?_set_self hk, getD_of hx] at e
        cases e
        refine ⟨?_, by simp⟩
        show TR K mg _ H _ _ (if k = k then [] else w.φ k)
        rw [if_pos rfl]
        exact .d seen
      · rw [List.getElem?_set_ne hj] at e
        obtain ⟨z1, z2⟩ := m.obj j t e
        have hj' : j < M.length := (List.getElem?_eq_some_iff.mp e).1
        have ej : (if j = k then [] else w.φ j) = w.φ j := if_neg (Ne.symm hj)
        refine ⟨?_, by show (if j = k then [] else w.φ j).Nodup; rw [ej]; exact z2⟩
        show TR K mg _ H _ _ (if j = k then [] else w.φ j)
        rw [ej]
        refine z1.stay sF fun a ha => ⟨?_, fun _ z => z⟩
        rw [frzHp_out w.F H fun z => hj (m.dis j k a hj' hk ha z).symm]
        exact (z1.fp a ha).1
    · rw [frzM_length] at hi hj
      have h1 : a ∈ (if i = k then [] else w.φ i) := h1
      have h2 : a ∈ (if j = k then [] else w.φ j) := h2
      split at h1
      · cases h1
      · split at h2
        · cases h2
        · exact m.dis i j a hi hj h1 h2
    · show Dp K mg (frzHp w.F H (w.φ k)) _ (frz (M.getD k (.d .non)))
      rw [getD_of hx]
      exact seen
/-- what a result is worth now -/
theorem seen {v : V} {r : R} (m : MR K mg w H M) (h : RR K mg w H M v r fp) : Dp K mg H v (frzR M r) := by
  cases r with
  | t x => exact h.1.seen m.sub fun _ _ _ ho => ho
  | h k =>
    obtain ⟨hk, rfl, rfl⟩ := h
    obtain ⟨x, hx⟩ : ∃ x, M[k]? = some x := ⟨M[k], List.getElem?_eq_getElem hk⟩
    show Dp K mg H _ (frz (M.getD k (.d .non)))
    rw [getD_of hx]
    exact (m.obj k x hx).1.seen m.sub fun _ _ _ ho => ho
end
end DL

/-! DL2: what a reading says by data; names, constants, operators, tests, blocks -/
namespace DL
open PySem L2

def Out.bind {α β : Type} (o : Out α) (k : α → Mst → Out β) : Out β := match o with
  | .ok a M => k a M
  | .exc e M => .exc e M
  | .bad => .bad
abbrev Den := Ev → Mst → Out R
abbrev DenT := Ev → Mst → Out Bool
abbrev DenA := Ev → Mst → Out (List R)

def Post (X : Cx) (W : WX) (σ : St) (fs : List Addr) (w : Wd) (H : Hp) (M : Mst) {α : Type} (o : Out α) (C : Wd → Hp → Mst → α → Prop) : Prop :=
  match o with
  | .ok a M' => ∀ w' H', Ext fs w H M w' H' M' → MR X.K X.mg w' H' M' → C w' H' M' a
  | .exc e M' => ∀ w' H' cls d, Ext fs w H M w' H' M' → MR X.K X.mg w' H' M' → XR X.K X.mg w' H' cls d e → W cls d σ H'
  | .bad => False
def CE (X : Cx) (fs : List Addr) (w : Wd) (H : Hp) (M : Mst) (Q : VK) : Wd → Hp → Mst → R → Prop :=
  fun w' H' M' r => ∀ v fp, RR X.K X.mg w' H' M' v r fp → (∀ a ∈ fp, Pm fs w H M a) → Q v H'
def CA (X : Cx) (fs : List Addr) (w : Wd) (H : Hp) (M : Mst) (Q : List V → Hp → Prop) : Wd → Hp → Mst → List R → Prop :=
  fun w' H' M' rs => ∀ vs fp, RRL X.K X.mg w' H' M' vs rs fp → (∀ a ∈ fp, Pm fs w H M a) → Q vs H'
def rdE (X : Cx) (W : WX) (F : Den) : TE := fun σ H Q => ∃ w ρ M, MR X.K X.mg w H M ∧ ER X.K X.mg w M σ ρ ∧ Post X W σ [] w H M (F ρ M) (CE X [] w H M Q)
def rdT (X : Cx) (W : WX) (F : DenT) : TT := fun σ H Q => ∃ w ρ M, MR X.K X.mg w H M ∧ ER X.K X.mg w M σ ρ ∧ Post X W σ [] w H M (F ρ M) (fun _ H' _ b => Q b H')
def rdA (X : Cx) (W : WX) (F : DenA) : TA := fun σ H Q => ∃ w ρ M, MR X.K X.mg w H M ∧ ER X.K X.mg w M σ ρ ∧ Post X W σ [] w H M (F ρ M) (CA X [] w H M Q)
def DE (X : Cx) (W : WX) (e : Expr) (F : Den) : Prop := PE X e (rdE X W F)
def DT (X : Cx) (W : WX) (e : Expr) (F : DenT) : Prop := PT X e (rdT X W F)
def DW (X : Cx) (W : WX) (e : Expr) (F : DenT) : Prop := PW X e (rdT X W F)
def DA (X : Cx) (W : WX) (es : List Expr) (F : DenA) : Prop := PA X es (rdA X W F)

section
variable {X : Cx} {W : WX} {σ : St} {fs gs : List Addr} {w w2 : Wd} {H H2 : Hp} {M M2 : Mst} {α β : Type}
theorem Post.imp {o : Out α} {C C' : Wd → Hp → Mst → α → Prop} (h : Post X W σ fs w H M o C) (k : ∀ w' H' M' a, Ext fs w H M w' H' M' → MR X.K X.mg w' H' M' → C w' H' M' a → C' w' H' M' a) : Post X W σ fs w H M o C' := by
  cases o with
  | ok a M' => exact fun w' H' e m => k _ _ _ _ e m (h w' H' e m)
  | exc e M' => exact h
  | bad => exact h
theorem Post.from {o : Out α} {C : Wd → Hp → Mst → α → Prop} (h : Post X W σ fs w H M o C) (e : Ext fs w H M w2 H2 M2) (hg : ∀ a ∈ gs, Pm fs w H M a) : Post X W σ gs w2 H2 M2 o C := by
  cases o with
  | ok a M' => exact fun w' H' e' m => h w' H' (e.trans e' hg) m
  | exc x M' => exact fun w' H' c d e' m z => h w' H' c d (e.trans e' hg) m z
  | bad => exact h
theorem Post.bind {o : Out α} {k : α → Mst → Out β} {C : Wd → Hp → Mst → β → Prop} (h : Post X W σ fs w H M (o.bind k) C) :
    Post X W σ fs w H M o (fun w1 H1 M1 a => Post X W σ [] w1 H1 M1 (k a M1) C) := by
  cases o with
  | ok a M' => exact fun w1 H1 e1 _ => Post.from h e1 (fun _ z => nomatch z)
  | exc x M' => exact h
  | bad => exact h
/-- .. behind a: whatever is held there -/
theorem Post.bindF {o : Out α} {k : α → Mst → Out β} {C : Wd → Hp → Mst → β → Prop} (h : Post X W σ fs w H M (o.bind k) C) :
    Post X W σ [] w H M o (fun w1 H1 M1 a => Ext [] w H M w1 H1 M1 ∧ MR X.K X.mg w1 H1 M1 ∧ ∀ gs, (∀ b ∈ gs, Pm fs w H M b) → Post X W σ gs w1 H1 M1 (k a M1) C) := by
  cases o with
  | ok a M' => exact fun w1 H1 e1 m1 => ⟨e1, m1, fun gs hg => Post.from h (e1.mono fun _ z => nomatch z) hg⟩
  | exc x M' => exact fun w1 H1 c d e1 m1 z => h w1 H1 c d (e1.mono fun _ z => nomatch z) m1 z
  | bad => exact h
theorem Post.now {a : α} {C : Wd → Hp → Mst → α → Prop} (h : Post X W σ fs w H M (.ok a M) C) (m : MR X.K X.mg w H M) : C w H M a := h w H (Ext.refl m) m
/-- the end of a part is an end of the whole -/
theorem CE.from {Q : VK} {w' : Wd} {H' : Hp} {M' : Mst} {r : R} (h : CE X fs w H M Q w' H' M' r) (e : Ext fs w H M w2 H2 M2) (hg : ∀ a ∈ gs, Pm fs w H M a) : CE X gs w2 H2 M2 Q w' H' M' r :=
  fun v fp q hp => h v fp q fun a ha => e.pm hg (hp a ha)
theorem CA.from {Q : List V → Hp → Prop} {w' : Wd} {H' : Hp} {M' : Mst} {r : List R} (h : CA X fs w H M Q w' H' M' r) (e : Ext fs w H M w2 H2 M2) (hg : ∀ a ∈ gs, Pm fs w H M a) : CA X gs w2 H2 M2 Q w' H' M' r :=
  fun v fp q hp => h v fp q fun a ha => e.pm hg (hp a ha)
theorem PostE.from {o : Out R} {Q : VK} (h : Post X W σ fs w H M o (CE X fs w H M Q)) (e : Ext fs w H M w2 H2 M2) (hg : ∀ a ∈ gs, Pm fs w H M a) : Post X W σ gs w2 H2 M2 o (CE X gs w2 H2 M2 Q) :=
  (h.from e hg).imp fun _ _ _ _ _ _ q => q.from e hg

theorem _root_.L2.PE.mono {e : Expr} {t t' : TE} (h : PE X e t) (k : ∀ σ H Q, t' σ H Q → t σ H Q) : PE X e t' := ⟨fun pins s σ H Q I q => h.run pins s σ H Q I (k _ _ _ q)⟩
theorem _root_.L2.PT.mono {e : Expr} {t t' : TT} (h : PT X e t) (k : ∀ σ H Q, t' σ H Q → t σ H Q) : PT X e t' := ⟨fun pins s σ H Q I q => h.run pins s σ H Q I (k _ _ _ q)⟩
theorem _root_.L2.PW.mono {e : Expr} {t t' : TT} (h : PW X e t) (k : ∀ σ H Q, t' σ H Q → t σ H Q) : PW X e t' := ⟨fun whole pins s σ H Q I q => h.run whole pins s σ H Q I (k _ _ _ q)⟩
theorem _root_.L2.PA.mono {e : List Expr} {t t' : TA} (h : PA X e t) (k : ∀ σ H Q, t' σ H Q → t σ H Q) : PA X e t' := ⟨fun pos pins s σ H Q I q => h.run pos pins s σ H Q I (k _ _ _ q)⟩
theorem _root_.L2.PS.mono {e : Stmt} {t t' : TS} (h : PS X e t) (k : ∀ D σ H, t' D σ H → t D σ H) : PS X e t' := ⟨fun pins s σ H D I q => h.run pins s σ H D I (k _ _ _ q)⟩
theorem _root_.L2.PSs.mono {e : List Stmt} {t t' : TS} (h : PSs X e t) (k : ∀ D σ H, t' D σ H → t D σ H) : PSs X e t' := ⟨fun pins s σ H D I q => h.run pins s σ H D I (k _ _ _ q)⟩
theorem _root_.L2.PE.or {e : Expr} {t t' : TE} (h : PE X e t) (h' : PE X e t') : PE X e (fun σ H Q => t σ H Q ∨ t' σ H Q) := ⟨fun pins s σ H Q I q => q.elim (h.run pins s σ H Q I) (h'.run pins s σ H Q I)⟩

/-! ### names, constants -/
def eVar (i : Nat) : Den := fun ρ M => match ρ[i]? with
  | some (some (.d x)) => .ok (.t (.d x)) M
  | some (some (.h k)) => .ok (.h k) M
  | _ => .bad
def eC (x : D) : Den := fun _ M => .ok (.t (.d x)) M
variable {e a b c : Expr} {Fe Fa Fb Fc : Den} {pos : Pos}
theorem rr_d {K : PySem.W.Frag} {mg : Mg} {v : V} {x : D} (h : Dp K mg w.F v x) : RR K mg w H M v (.t (.d x)) [] := ⟨.d h, List.nodup_nil, fun _ z => nomatch z⟩
theorem de_const {v : V} {x : D} (h : PE X e (tC v)) (hd : ∀ F, Dp X.K X.mg F v x) : DE X W e (eC x) :=
  h.mono fun σ H Q ⟨w, ρ, M, m, er, p⟩ => (p.now m) v [] (rr_d (hd _)) fun _ z => nomatch z
theorem de_var (i : Nat) (h : PE X e (tVar i)) : DE X W e (eVar i) := h.mono fun σ H Q ⟨w, ρ, M, m, er, p⟩ => by
  unfold eVar at p
  split at p
  · rename_i x hx
    obtain ⟨v, h1, h2⟩ := er.at_ i _ hx
    exact ⟨v, h1, (p.now m) v [] (rr_d h2) fun _ z => nomatch z⟩
  · rename_i k hk
    obtain ⟨v, h1, h2⟩ := er.at_ i _ hk
    exact ⟨v, h1, (p.now m) v [] ⟨h2.1, h2.2, rfl⟩ fun _ z => nomatch z⟩
  · exact p.elim

/-! ### operators -/
def eSeq2 (g : R → R → Mst → Out R) (Fa Fb : Den) : Den := fun ρ M => (Fa ρ M).bind fun x M1 => (Fb ρ M1).bind fun y M2 => g x y M2
def Op2 (X : Cx) (g : R → R → Mst → Out R) (r : R2) : Prop := ∀ (W : WX) (σ : St) (w : Wd) (H : Hp) (M : Mst) (x y : V) (r1 r2 : R) (f1 f2 : List Addr) (Q : VK), MR X.K X.mg w H M →
  RR X.K X.mg w H M x r1 f1 → RR X.K X.mg w H M y r2 f2 → (∀ a ∈ f1, a ∉ f2) → Post X W σ (f1 ++ f2) w H M (g r1 r2 M) (CE X (f1 ++ f2) w H M Q) → r x y H Q
theorem pm_nil {a : Addr} (h : Pm [] w H M a) (gs : List Addr) : Pm gs w H M a := h.imp id (Or.imp id fun z => nomatch z)
/-- a new thing is not a held one -/
theorem RR.apart {v : V} {r : R} {f1 f2 : List Addr} (q1 : RR X.K X.mg w H M v r f1) (h2 : ∀ a ∈ f2, Pm [] w H M a) : ∀ a ∈ f1, a ∉ f2 := fun a ha hb => by
  obtain ⟨_, ⟨o, ho⟩, hn⟩ := q1.fpOk a ha
  rcases h2 a hb with z | ⟨j, hj, z⟩ | z
  · rw [ho] at z; cases z
  · exact hn j hj z
  · cases z
theorem rd_op {g : R → R → Mst → Out R} {r : R2} (hg : Op2 X g r) {Q : VK} (h : rdE X W (eSeq2 g Fa Fb) σ H Q) : tOp r (rdE X W Fa) (rdE X W Fb) σ H Q := by
  obtain ⟨w, ρ, M, m, er, p⟩ := h
  refine ⟨w, ρ, M, m, er, p.bindF.imp fun w1 H1 M1 x _ _ z => ?_⟩
  obtain ⟨e1, m1, p1⟩ := z
  intro v1 f1 q1 hf1
  refine ⟨w1, ρ, M1, m1, er.stay e1, (p1 f1 hf1).bindF.imp fun w2 H2 M2 y _ _ z => ?_⟩
  obtain ⟨e2, m2, p2⟩ := z
  intro v2 f2 q2 hf2
  have e12 : Ext [] w H M w2 H2 M2 := e1.trans0 e2
  have hp : ∀ a ∈ f1 ++ f2, Pm f1 w1 H1 M1 a := fun a ha => (List.mem_append.mp ha).elim (fun z => .inr (.inr z)) fun z => pm_nil (hf2 a z) _
  have hp' : ∀ a ∈ f1 ++ f2, Pm [] w H M a := fun a ha => (List.mem_append.mp ha).elim (hf1 a) fun z => e1.pm (gs := []) (fun _ z => nomatch z) (hf2 a z)
  exact hg W σ w2 H2 M2 v1 v2 x y f1 f2 Q m2 (q1.stay e2 fun _ _ z => nomatch z) q2 (q1.apart hf2) ((p2 _ hp).imp fun _ _ _ _ _ _ q => q.from e12 hp')
theorem de_op {op : Operator} {r : R2} {g : R → R → Mst → Out R} (hr : OpR X (binaryOp op) r) (hg : Op2 X g r) (ha : DE X W a Fa) (hb : DE X W b Fb) : DE X W (.BinOp a op b pos) (eSeq2 g Fa Fb) :=
  (pe_op hr ha hb).mono fun _ _ _ h => rd_op hg h
end
end DL

/-! DL3: operators by data, comparisons, tests, argument lists, displays -/
namespace DL
open PySem L2
section
variable {X : Cx} {W : WX} {σ : St} {fs gs : List Addr} {w w2 : Wd} {H H2 : Hp} {M M2 : Mst} {α β : Type}
variable {e a b c : Expr} {Fe Fa Fb Fc : Den} {pos : Pos}

/-- a plain answer -/
theorem CE.val {v : V} {x : D} {Q : VK} {C : Mst → R} (h : CE X fs w H M Q w H M (.t (.d x))) (hv : Dp X.K X.mg w.F v x) : Q v H := h v [] (rr_d hv) fun _ z => nomatch z
/-- a scalar operation of two values as they are worth now -/
def sc2 (h : D → D → Option D) : R → R → Mst → Out R := fun r1 r2 M => match h (frzR M r1) (frzR M r2) with
  | some x => .ok (.t (.d x)) M
  | none => .bad
theorem op2_sc {h : D → D → Option D} {r : R2} (hh : ∀ (F : Hp) (H : Hp) (x y : V) (d1 d2 d : D) (Q : VK), Dp X.K X.mg H x d1 → Dp X.K X.mg H y d2 → h d1 d2 = some d → (∀ v, Dp X.K X.mg F v d → Q v H) → r x y H Q) : Op2 X (sc2 h) r := by
  intro W σ w H M x y r1 r2 f1 f2 Q m q1 q2 _ p
  unfold sc2 at p
  split at p
  · rename_i d hd
    exact hh w.F H x y _ _ d Q (seen m q1) (seen m q2) hd fun v hv => (p.now m).val (C := fun _ => r1) hv
  · exact p.elim
theorem Op2.or {g : R → R → Mst → Out R} {r r' : R2} (h : Op2 X g r ∨ Op2 X g r') : Op2 X g (fun x y H Q => r x y H Q ∨ r' x y H Q) :=
  fun W σ w H M x y r1 r2 f1 f2 Q m q1 q2 d p => h.elim (fun z => .inl (z W σ w H M x y r1 r2 f1 f2 Q m q1 q2 d p)) fun z => .inr (z W σ w H M x y r1 r2 f1 f2 Q m q1 q2 d p)
/-- by the operands' data: g is g1 where it is told -/
def case2 (t : D → D → Bool) (g1 g2 : R → R → Mst → Out R) : R → R → Mst → Out R := fun r1 r2 M => if t (frzR M r1) (frzR M r2) = true then g1 r1 r2 M else g2 r1 r2 M
theorem Op2.case {t : D → D → Bool} {g1 g2 : R → R → Mst → Out R} {r r' : R2} (h : Op2 X g1 r) (h' : Op2 X g2 r') : Op2 X (case2 t g1 g2) (fun x y H Q => r x y H Q ∨ r' x y H Q) := by
  intro W σ w H M x y r1 r2 f1 f2 Q m q1 q2 d p
  unfold case2 at p
  split at p
  · exact .inl (h W σ w H M x y r1 r2 f1 f2 Q m q1 q2 d p)
  · exact .inr (h' W σ w H M x y r1 r2 f1 f2 Q m q1 q2 d p)

/-! ### ints and texts -/
def iOp (c : Int → Int → Bool) (g : Int → Int → Int) : D → D → Option D
  | .int i, .int j => if c i j = true then some (.int (g i j)) else none
  | _, _ => none
def iRel (g : Int → Int → Bool) : D → D → Option D
  | .int i, .int j => some (.bl (g i j))
  | _, _ => none
theorem op2_i {cc : Int → Int → Bool} {C : Int → Int → Prop} {g : Int → Int → Int} (hc : ∀ i j, cc i j = true → C i j) : Op2 X (sc2 (iOp cc g)) (rI C fun i j => .int (g i j)) := op2_sc fun F H x y d1 d2 d Q h1 h2 hd q => by
  unfold iOp at hd
  split at hd
  · split at hd
    · rename_i i j z
      cases h1; cases h2; cases hd
      exact ⟨i, j, rfl, rfl, hc _ _ z, q _ (.int _)⟩
    · cases hd
  · cases hd
theorem op2_i0 {g : Int → Int → Int} : Op2 X (sc2 (iOp (fun _ _ => true) g)) (rI0 fun i j => .int (g i j)) := op2_sc fun F H x y d1 d2 d Q h1 h2 hd q => by
  unfold iOp at hd
  split at hd
  · rename_i i j
    cases h1; cases h2; cases hd
    exact ⟨i, j, rfl, rfl, q _ (.int _)⟩
  · cases hd
theorem op2_rel {g : Int → Int → Bool} : Op2 X (sc2 (iRel g)) (rI0 fun i j => .bl (g i j)) := op2_sc fun F H x y d1 d2 d Q h1 h2 hd q => by
  unfold iRel at hd
  split at hd
  · rename_i i j
    cases h1; cases h2; cases hd
    exact ⟨i, j, rfl, rfl, q _ (.bl _)⟩
  · cases hd
def strCap : Nat := 1000000
theorem cap_le : strCap ≤ sizeLine := by rw [sizeLine_eq]; decide
def sCat : D → D → Option D
  | .str x, .str y => if x.length + y.length ≤ strCap then some (.str (x ++ y)) else none
  | _, _ => none
theorem op2_scat : Op2 X (sc2 sCat) (fun x y H Q => ∃ i j, x = .str i ∧ y = .str j ∧ i.length + j.length ≤ sizeLine ∧ Q (.str (i ++ j)) H) := op2_sc fun F H x y d1 d2 d Q h1 h2 hd q => by
  unfold sCat at hd
  split at hd
  · split at hd
    · rename_i i j z
      cases h1; cases h2; cases hd
      exact ⟨i, j, rfl, rfl, Nat.le_trans z cap_le, q _ (.str _)⟩
    · cases hd
  · cases hd

/-! ### a new object -/
theorem MR.new {p : Addr} {o : HO} (m : MR X.K X.mg w H M) (hp : H p = none) : MR X.K X.mg w (upd H p o) M := by
  have ne : ∀ q u, H q = some u → q ≠ p := fun q u e => ne_of_none e hp
  refine ⟨fun q u e => ?_, fun k t e => ?_, m.dis⟩
  · rw [upd_ne (ne q u (m.sub q u e))]; exact m.sub q u e
  · obtain ⟨h1, h2⟩ := m.obj k t e
    exact ⟨h1.stay (Same.refl _) fun q hq => ⟨(h1.fp q hq).1, fun u hu => by rw [upd_ne (ne q u hu)]; exact hu⟩, h2⟩
theorem Ext.new {p : Addr} {o : HO} (m : MR X.K X.mg w H M) (hp : H p = none) : Ext fs w H M w (upd H p o) M where
  F := Same.refl _
  len := Nat.le_refl _
  al := fun _ _ => rfl
  keep := fun q u e _ => by rw [upd_ne (ne_of_none e hp)]; exact e
  ph := fun k hk q hq => .inr (.inl ⟨k, hk, hq⟩)
  gr := fun _ h => .inl h
  there := fun q e => by
    by_cases z : q = p
    · rw [z]; exact hp
    · rw [upd_ne z] at e; exact e
/-- a new list of held trees -/
theorem RR.newL {p : Addr} {vs : List V} {ts : List T} {fp : List Addr} (m : MR X.K X.mg w H M) (hp : H p = none) (q : TRL X.K X.mg w.F H vs ts fp) (nd : fp.Nodup) (dj : ∀ a ∈ fp, ∀ k, k < M.length → a ∉ w.φ k) :
    RR X.K X.mg w (upd H p (.lst vs)) M (.ref p) (.t (.lst ts)) (p :: fp) := by
  have nf : w.F p = none := by
    cases z : w.F p with
    | none => rfl
    | some o => rw [m.sub p o z] at hp; cases hp
  have np : p ∉ fp := fun z => by obtain ⟨_, o, e⟩ := q.fp p z; rw [e] at hp; cases hp
  refine ⟨.lst upd_same nf (q.stay (Same.refl _) fun b hb => ⟨(q.fp b hb).1, fun o ho => by rw [upd_ne (ne_of_none ho hp)]; exact ho⟩), List.nodup_cons.mpr ⟨np, nd⟩, fun b hb k hk z => ?_⟩
  rcases List.mem_cons.mp hb with rfl | hb
  · obtain ⟨x, hx⟩ : ∃ x, M[k]? = some x := ⟨M[k], List.getElem?_eq_getElem hk⟩
    obtain ⟨_, o, e⟩ := (m.obj k x hx).1.fp _ z
    rw [e] at hp; cases hp
  · exact dj b hb k hk z
theorem RR.newT {p : Addr} {vs : List V} {ts : List T} {fp : List Addr} (m : MR X.K X.mg w H M) (hp : H p = none) (q : TRL X.K X.mg w.F H vs ts fp) (nd : fp.Nodup) (dj : ∀ a ∈ fp, ∀ k, k < M.length → a ∉ w.φ k) :
    RR X.K X.mg w (upd H p (.tup vs)) M (.ref p) (.t (.tup ts)) (p :: fp) := by
  have nf : w.F p = none := by
    cases z : w.F p with
    | none => rfl
    | some o => rw [m.sub p o z] at hp; cases hp
  have np : p ∉ fp := fun z => by obtain ⟨_, o, e⟩ := q.fp p z; rw [e] at hp; cases hp
  refine ⟨.tup upd_same nf (q.stay (Same.refl _) fun b hb => ⟨(q.fp b hb).1, fun o ho => by rw [upd_ne (ne_of_none ho hp)]; exact ho⟩), List.nodup_cons.mpr ⟨np, nd⟩, fun b hb k hk z => ?_⟩
  rcases List.mem_cons.mp hb with rfl | hb
  · obtain ⟨x, hx⟩ : ∃ x, M[k]? = some x := ⟨M[k], List.getElem?_eq_getElem hk⟩
    obtain ⟨_, o, e⟩ := (m.obj k x hx).1.fp _ z
    rw [e] at hp; cases hp
  · exact dj b hb k hk z
theorem DpL.trees {vs : List V} {ds : List D} (h : DpL X.K X.mg w.F vs ds) : TRL X.K X.mg w.F H vs (ds.map T.d) [] := by
  induction ds generalizing vs with
  | nil => cases h; exact .nil
  | cons x r ih =>
    cases h with
    | cons h1 h2 => exact .cons (f1 := []) (f2 := []) (.d h1) (ih h2)

/-! ### argument lists -/
def eNil : DenA := fun _ M => .ok [] M
def eCons (F : Den) (G : DenA) : DenA := fun ρ M => (F ρ M).bind fun r M1 => (G ρ M1).bind fun rs M2 => .ok (r :: rs) M2
theorem da_nil : DA X W [] eNil := pa_nil.mono fun σ H Q h => by
  obtain ⟨w, ρ, M, m, er, p⟩ := h
  exact p.now m [] [] .nil fun _ z => nomatch z
theorem rd_cons {Q : List V → Hp → Prop} {F : Den} {G : DenA} (h : rdA X W (eCons F G) σ H Q) : tCons (rdE X W F) (rdA X W G) σ H Q := by
  obtain ⟨w, ρ, M, m, er, p⟩ := h
  refine ⟨w, ρ, M, m, er, p.bindF.imp fun w1 H1 M1 x _ _ z => ?_⟩
  obtain ⟨e1, m1, p1⟩ := z
  intro v1 f1 q1 hf1
  refine ⟨w1, ρ, M1, m1, er.stay e1, (p1 f1 hf1).bindF.imp fun w2 H2 M2 y _ _ z => ?_⟩
  obtain ⟨e2, m2, p2⟩ := z
  intro v2 f2 q2 hf2
  have hp : ∀ a ∈ f1 ++ f2, Pm f1 w1 H1 M1 a := fun a ha => (List.mem_append.mp ha).elim (fun z => .inr (.inr z)) fun z => pm_nil (hf2 a z) _
  have hp' : ∀ a ∈ f1 ++ f2, Pm [] w H M a := fun a ha => (List.mem_append.mp ha).elim (hf1 a) fun z => e1.pm (gs := []) (fun _ z => nomatch z) (hf2 a z)
  exact (p2 _ hp).now m2 (v1 :: v2) (f1 ++ f2) (.cons (q1.stay e2 fun _ _ z => nomatch z) q2 (q1.apart hf2)) hp'
theorem da_cons {es : List Expr} {F : Den} {G : DenA} (ha : DE X W e F) (hr : DA X W es G) (hs : starEach (e :: es) X.env = (false, eval e X.env) :: starEach es X.env := by rfl) : DA X W (e :: es) (eCons F G) :=
  (pa_cons ha hr hs).mono fun _ _ _ h => rd_cons h

/-! ### displays -/
def treesM : List R → Mst → List T × Mst
  | [], M => ([], M)
  | .t x :: r, M => let (ts, M') := treesM r M; (x :: ts, M')
  | .h k :: r, M => let (ts, M') := treesM r (frzM M (.h k)); (.d (frzR M (.h k)) :: ts, M')
theorem trees_ok {rs : List R} : ∀ {vs : List V} {fp : List Addr} {w : Wd} {H : Hp} {M : Mst}, MR X.K X.mg w H M → RRL X.K X.mg w H M vs rs fp →
    ∃ w', Ext [] w H M w' H (treesM rs M).2 ∧ MR X.K X.mg w' H (treesM rs M).2 ∧ TRL X.K X.mg w'.F H vs (treesM rs M).1 fp ∧ fp.Nodup ∧ ∀ a ∈ fp, ∀ k, k < (treesM rs M).2.length → a ∉ w'.φ k := by
  induction rs with
  | nil =>
    intro vs fp w H M m h
    cases h
    exact ⟨w, Ext.refl m, m, .nil, List.nodup_nil, fun _ z => nomatch z⟩
  | cons r rs ih =>
    intro vs fp w H M m h
    cases h with
    | @cons v vs _ _ f1 f2 h1 h2 dj =>
      cases r with
      | t x =>
        obtain ⟨w', e, m', q, nd, na⟩ := ih m h2
        have h1' := h1.stay e fun _ _ z => nomatch z
        exact ⟨w', e, m', .cons h1'.1 q, List.nodup_append.mpr ⟨h1'.2.1, nd, fun a ha b hb z => dj a ha (z ▸ hb)⟩, fun a ha => (List.mem_append.mp ha).elim (h1'.2.2 a) (na a)⟩
      | h k =>
        obtain ⟨w1, e1, m1, d1, _⟩ := settle m h1
        have hk : f1 = [] := h1.2.2
        subst hk
        obtain ⟨w', e, m', q, nd, na⟩ := ih m1 (h2.stay e1 fun _ _ z => nomatch z)
        exact ⟨w', e1.trans0 e, m', .cons (.d (d1.mono e.F)) q, nd, na⟩
def eLst (G : DenA) : Den := fun ρ M => (G ρ M).bind fun rs M1 => if rs.length ≤ 1000000 then .ok (.t (.lst (treesM rs M1).1)) (treesM rs M1).2 else .bad
def eTup (G : DenA) : Den := fun ρ M => (G ρ M).bind fun rs M1 => if rs.length ≤ 1000000 then .ok (.t (.tup (treesM rs M1).1)) (treesM rs M1).2 else .bad
theorem big_le {n : Nat} (h : n ≤ 1000000) : n ≤ sizeLine := Nat.le_trans h cap_le
theorem de_lst {es : List Expr} {G : DenA} (h : DA X W es G) : DE X W (.List es pos) (eLst G) := (pe_lst h).mono fun σ H Q h => by
  obtain ⟨w, ρ, M, m, er, p⟩ := h
  refine ⟨w, ρ, M, m, er, p.bindF.imp fun w1 H1 M1 rs _ _ z => ?_⟩
  obtain ⟨e1, m1, p1⟩ := z
  intro vs fp q hf
  replace p1 := p1 fp hf
  split at p1
  · rename_i hl
    refine ⟨by rw [q.length]; exact big_le hl, fun a ha => ?_⟩
    obtain ⟨w2, e2, m2, q2, nd, na⟩ := trees_ok m1 q
    refine p1 w2 _ ((e2.mono fun _ z => nomatch z).trans0 (Ext.new m2 ha)) (m2.new ha) _ (a :: fp) (RR.newL m2 ha q2 nd na) fun b hb => ?_
    rcases List.mem_cons.mp hb with rfl | hb
    · exact .inl (e1.there _ ha)
    · exact hf b hb
  · exact p1.elim
theorem de_tup {es : List Expr} {G : DenA} {x1 : Nat} (h : DA X W es G) : DE X W (.Tuple es x1 pos) (eTup G) := (pe_tup h).mono fun σ H Q h => by
  obtain ⟨w, ρ, M, m, er, p⟩ := h
  refine ⟨w, ρ, M, m, er, p.bindF.imp fun w1 H1 M1 rs _ _ z => ?_⟩
  obtain ⟨e1, m1, p1⟩ := z
  intro vs fp q hf
  replace p1 := p1 fp hf
  split at p1
  · rename_i hl
    refine ⟨by rw [q.length]; exact big_le hl, fun a ha => ?_⟩
    obtain ⟨w2, e2, m2, q2, nd, na⟩ := trees_ok m1 q
    refine p1 w2 _ ((e2.mono fun _ z => nomatch z).trans0 (Ext.new m2 ha)) (m2.new ha) _ (a :: fp) (RR.newT m2 ha q2 nd na) fun b hb => ?_
    rcases List.mem_cons.mp hb with rfl | hb
    · exact .inl (e1.there _ ha)
    · exact hf b hb
  · exact p1.elim
end
end DL

/-! DL4: comparisons, tests, and or not, conditional expressions -/
namespace DL
open PySem L2
section
variable {X : Cx} {W : WX} {σ : St} {fs gs : List Addr} {w w2 : Wd} {H H2 : Hp} {M M2 : Mst} {α β : Type}
variable {e a b c : Expr} {Fe Fa Fb Fc : Den} {Ta Tb : DenT} {pos : Pos}

theorem rr_bl {K : PySem.W.Frag} {mg : Mg} {v : V} {k : Bool} {fp : List Addr} (h : RR K mg w H M v (.t (.d (.bl k))) fp) : v = .bl k := by
  obtain ⟨h, _⟩ := h
  cases h with
  | d h => cases h; rfl
def eTB (F : Den) : DenT := fun ρ M => (F ρ M).bind fun r M' => match r with
  | .t (.d (.bl b)) => .ok b M'
  | _ => .bad
theorem rd_tb {F : Den} {Q : Bool → Hp → Prop} (h : rdT X W (eTB F) σ H Q) : rdE X W F σ H (fun x H' => ∃ k, x = .bl k ∧ Q k H') := by
  obtain ⟨w, ρ, M, m, er, p⟩ := h
  refine ⟨w, ρ, M, m, er, p.bindF.imp fun w1 H1 M1 r _ _ z => ?_⟩
  obtain ⟨e1, m1, p1⟩ := z
  intro v fp q hf
  replace p1 := p1 [] (fun _ z => nomatch z)
  split at p1
  · exact ⟨_, rr_bl q, p1.now m1⟩
  · exact p1.elim
theorem de_cmp {op : CmpOp} {r : R2} {g : R → R → Mst → Out R} (hr : OpR X (compareOp op) r) (hg : Op2 X g r) (ha : DE X W a Fa) (hb : DE X W b Fb) (hm : behindInMarks op b = false) : DE X W (.Compare a [op] [b] pos) (eSeq2 g Fa Fb) :=
  (pe_cmpR hr ha hb hm).mono fun _ _ _ h => rd_op hg h
theorem dt_cmp {op : CmpOp} {r : R2} {g : R → R → Mst → Out R} (hr : OpR X (compareOp op) r) (hg : Op2 X g r) (ha : DE X W a Fa) (hb : DE X W b Fb) (hm : behindInMarks op b = false) : DT X W (.Compare a [op] [b] pos) (eTB (eSeq2 g Fa Fb)) :=
  (pt_cmpR hr ha hb hm).mono fun _ _ _ h => rd_op hg (rd_tb h)
theorem dt_val (h : DE X W e Fe) (he : ∀ whole, isTrue e X.env whole = (do let v ← whole; standAt e.pos; holding [v] (truthy v)) := by intro _; rfl) : DT X W e (eTB Fe) :=
  (pt_val h he).mono fun _ _ _ h => rd_tb h

/-! ### truth -/
def truth : D → Option Bool
  | .non => some false
  | .bl b => some b
  | .int i => some (i != 0)
  | .str x => if x.length ≤ strCap then some ((x.length : Int) != 0) else none
  | .lst ds => some (!ds.isEmpty)
  | .tupP _ ds => some (!ds.isEmpty)
  | _ => none
def eTru (F : Den) : DenT := fun ρ M => (F ρ M).bind fun r M' => match truth (frzR M' r) with
  | some b => .ok b M'
  | none => .bad
theorem DpL.empty {F : Hp} {K : PySem.W.Frag} {mg : Mg} {vs : List V} {ds : List D} (h : DpL K mg F vs ds) : ds.isEmpty = vs.isEmpty := by cases h <;> rfl
theorem dt_tru (h : DE X W e Fe) (he : ∀ whole, isTrue e X.env whole = (do let v ← whole; standAt e.pos; holding [v] (truthy v)) := by intro _; rfl) : DT X W e (eTru Fe) :=
  (pt_truth h he).mono fun σ H Q h => by
    obtain ⟨w, ρ, M, m, er, p⟩ := h
    refine ⟨w, ρ, M, m, er, p.bindF.imp fun w1 H1 M1 r _ _ z => ?_⟩
    obtain ⟨e1, m1, p1⟩ := z
    intro v fp q hf
    replace p1 := p1 [] (fun _ z => nomatch z)
    split at p1
    · rename_i k hk
      refine ⟨k, ?_, p1.now m1⟩
      have s := seen m1 q
      unfold truth at hk
      split at hk
      · rename_i z; rw [z] at s; cases s; cases hk; rfl
      · rename_i z; rw [z] at s; cases s; cases hk; rfl
      · rename_i z; rw [z] at s; cases s; cases hk; rfl
      · rename_i z
        rw [z] at s; cases s
        split at hk
        · rename_i hl
          cases hk
          exact ⟨Nat.le_trans hl cap_le, rfl⟩
        · cases hk
      · rename_i z
        rw [z] at s
        cases s with
        | lst h l => cases hk; exact .inl ⟨_, SqL.of h, by rw [l.empty]⟩
      · rename_i z
        rw [z] at s
        cases s with
        | tupP h l => cases hk; exact .inr (.inl ⟨_, h.1, by rw [l.empty]⟩)
      · cases hk
    · exact p1.elim

/-! ### and, or, not as tests -/
def tAndD (Fa Fb : DenT) : DenT := fun ρ M => (Fa ρ M).bind fun k M1 => if k = true then Fb ρ M1 else .ok false M1
def tOrD (Fa Fb : DenT) : DenT := fun ρ M => (Fa ρ M).bind fun k M1 => if k = true then .ok true M1 else Fb ρ M1
def tNotD (Fa : DenT) : DenT := fun ρ M => (Fa ρ M).bind fun k M1 => .ok (!k) M1
theorem DW.dt (h : DW X W e Ta) : DT X W e Ta := PW.pt h
theorem dw_and1 (ha : DT X W a Ta) : DW X W (.BoolOp .And [a] pos) Ta := pw_and1 ha
theorem dw_or1 (ha : DT X W a Ta) : DW X W (.BoolOp .Or [a] pos) Ta := pw_or1 ha
variable {rest : List Expr}
theorem dw_and (ha : DT X W a Ta) (hb : DW X W (.BoolOp .And (b :: rest) pos) Tb) : DW X W (.BoolOp .And (a :: b :: rest) pos) (tAndD Ta Tb) :=
  (pw_and ha hb).mono fun σ H Q h => by
    obtain ⟨w, ρ, M, m, er, p⟩ := h
    refine ⟨w, ρ, M, m, er, p.bindF.imp fun w1 H1 M1 k _ _ z => ?_⟩
    obtain ⟨e1, m1, p1⟩ := z
    replace p1 := p1 [] (fun _ z => nomatch z)
    cases k with
    | true => exact ⟨w1, ρ, M1, m1, er.stay e1, p1⟩
    | false => exact p1.now m1
theorem dw_or (ha : DT X W a Ta) (hb : DW X W (.BoolOp .Or (b :: rest) pos) Tb) : DW X W (.BoolOp .Or (a :: b :: rest) pos) (tOrD Ta Tb) :=
  (pw_or ha hb).mono fun σ H Q h => by
    obtain ⟨w, ρ, M, m, er, p⟩ := h
    refine ⟨w, ρ, M, m, er, p.bindF.imp fun w1 H1 M1 k _ _ z => ?_⟩
    obtain ⟨e1, m1, p1⟩ := z
    replace p1 := p1 [] (fun _ z => nomatch z)
    cases k with
    | true => exact p1.now m1
    | false => exact ⟨w1, ρ, M1, m1, er.stay e1, p1⟩
theorem dt_not (ha : DT X W a Ta) : DT X W (.UnaryOp .Not a pos) (tNotD Ta) :=
  (pt_not ha).mono fun σ H Q h => by
    obtain ⟨w, ρ, M, m, er, p⟩ := h
    refine ⟨w, ρ, M, m, er, p.bindF.imp fun w1 H1 M1 k _ _ z => ?_⟩
    obtain ⟨e1, m1, p1⟩ := z
    exact (p1 [] (fun _ z => nomatch z)).now m1
/-! ### .. as values -/
def eAnd (Fa Fb : Den) : Den := fun ρ M => (eTB Fa ρ M).bind fun k M1 => if k = true then Fb ρ M1 else .ok (.t (.d (.bl false))) M1
def eOr (Fa Fb : Den) : Den := fun ρ M => (eTB Fa ρ M).bind fun k M1 => if k = true then .ok (.t (.d (.bl true))) M1 else Fb ρ M1
def eNot (Fa : Den) : Den := fun ρ M => (eTB Fa ρ M).bind fun k M1 => .ok (.t (.d (.bl !k))) M1
theorem de_one {op : BoolOp} (h : DE X W a Fa) : DE X W (.BoolOp op [a] pos) Fa := pe_one h
theorem rd_tb' {F : Den} {Q : VK} {k : Bool → Mst → Out R} (h : rdE X W (fun ρ M => (eTB F ρ M).bind k) σ H Q) (kk : ∀ w1 ρ M1 H1 c, MR X.K X.mg w1 H1 M1 → ER X.K X.mg w1 M1 σ ρ → Post X W σ [] w1 H1 M1 (k c M1) (CE X [] w1 H1 M1 Q) → True) : True := trivial
theorem de_and (ha : DE X W a Fa) (hb : DE X W (.BoolOp .And (b :: rest) pos) Fb) : DE X W (.BoolOp .And (a :: b :: rest) pos) (eAnd Fa Fb) :=
  (pe_and ha hb).mono fun σ H Q h => by
    obtain ⟨w, ρ, M, m, er, p⟩ := h
    refine rd_tb (Q := fun c H1 => if c = true then rdE X W Fb σ H1 Q else Q (.bl false) H1) ⟨w, ρ, M, m, er, p.bindF.imp fun w1 H1 M1 k _ _ z => ?_⟩
    obtain ⟨e1, m1, p1⟩ := z
    replace p1 := p1 [] (fun _ z => nomatch z)
    cases k with
    | true =>
      rw [if_pos rfl]
      exact ⟨w1, ρ, M1, m1, er.stay e1, Post.imp p1 fun _ _ _ _ _ _ q => q.from e1 fun _ z => nomatch z⟩
    | false =>
      rw [if_neg Bool.false_ne_true]
      exact (p1.now m1) _ [] (rr_d (.bl _)) fun _ z => nomatch z
theorem de_or (ha : DE X W a Fa) (hb : DE X W (.BoolOp .Or (b :: rest) pos) Fb) : DE X W (.BoolOp .Or (a :: b :: rest) pos) (eOr Fa Fb) :=
  (pe_or ha hb).mono fun σ H Q h => by
    obtain ⟨w, ρ, M, m, er, p⟩ := h
    refine rd_tb (Q := fun c H1 => if c = true then Q (.bl true) H1 else rdE X W Fb σ H1 Q) ⟨w, ρ, M, m, er, p.bindF.imp fun w1 H1 M1 k _ _ z => ?_⟩
    obtain ⟨e1, m1, p1⟩ := z
    replace p1 := p1 [] (fun _ z => nomatch z)
    cases k with
    | true =>
      rw [if_pos rfl]
      exact (p1.now m1) _ [] (rr_d (.bl _)) fun _ z => nomatch z
    | false =>
      rw [if_neg Bool.false_ne_true]
      exact ⟨w1, ρ, M1, m1, er.stay e1, Post.imp p1 fun _ _ _ _ _ _ q => q.from e1 fun _ z => nomatch z⟩
theorem de_not (ha : DE X W a Fa) : DE X W (.UnaryOp .Not a pos) (eNot Fa) :=
  (pe_not ha).mono fun σ H Q h => by
    obtain ⟨w, ρ, M, m, er, p⟩ := h
    refine rd_tb (Q := fun c H1 => Q (.bl !c) H1) ⟨w, ρ, M, m, er, p.bindF.imp fun w1 H1 M1 k _ _ z => ?_⟩
    obtain ⟨e1, m1, p1⟩ := z
    exact ((p1 [] (fun _ z => nomatch z)).now m1) _ [] (rr_d (.bl _)) fun _ z => nomatch z
def eIf (T : DenT) (Fa Fb : Den) : Den := fun ρ M => (T ρ M).bind fun k M1 => if k = true then Fa ρ M1 else Fb ρ M1
theorem de_if (hc : DT X W c Ta) (ha : DE X W a Fa) (hb : DE X W b Fb) : DE X W (.IfExp c a b pos) (eIf Ta Fa Fb) :=
  (pe_ifExp hc ha hb).mono fun σ H Q h => by
    obtain ⟨w, ρ, M, m, er, p⟩ := h
    refine ⟨w, ρ, M, m, er, p.bindF.imp fun w1 H1 M1 k _ _ z => ?_⟩
    obtain ⟨e1, m1, p1⟩ := z
    replace p1 := p1 [] (fun _ z => nomatch z)
    cases k with
    | true => exact ⟨w1, ρ, M1, m1, er.stay e1, Post.imp p1 fun _ _ _ _ _ _ q => q.from e1 fun _ z => nomatch z⟩
    | false => exact ⟨w1, ρ, M1, m1, er.stay e1, Post.imp p1 fun _ _ _ _ _ _ q => q.from e1 fun _ z => nomatch z⟩

/-! ### a < b < c -/
def dat : R → Option D
  | .t (.d x) => some x
  | _ => none
def eChain (g g' : R → R → Mst → Out R) (Fa Fb Fc : Den) : Den := fun ρ M => (Fa ρ M).bind fun x M1 => (Fb ρ M1).bind fun y M2 => match dat x, dat y with
  | some x, some y => (g (.t (.d x)) (.t (.d y)) M2).bind fun z M3 => match dat z with
    | some (.bl k) => if k = true then (Fc ρ M3).bind fun u M4 => g' (.t (.d y)) u M4 else .ok (.t (.d (.bl false))) M3
    | _ => .bad
  | _, _ => .bad
theorem dat_eq {r : R} {x : D} (h : dat r = some x) : r = .t (.d x) := by
  unfold dat at h
  split at h
  · cases h; rfl
  · cases h
theorem rr_dat {K : PySem.W.Frag} {mg : Mg} {v : V} {x : D} {fp : List Addr} (h : RR K mg w H M v (.t (.d x)) fp) : Dp K mg w.F v x ∧ fp = [] := by
  obtain ⟨h, _⟩ := h
  cases h with
  | d h => exact ⟨h, rfl⟩
theorem rd_chain {g g' : R → R → Mst → Out R} {r r' : R2} (hg : Op2 X g r) (hg' : Op2 X g' r') {Q : VK} (h : rdE X W (eChain g g' Fa Fb Fc) σ H Q) : tChain r r' (rdE X W Fa) (rdE X W Fb) (rdE X W Fc) σ H Q := by
  obtain ⟨w, ρ, M, m, er, p⟩ := h
  refine ⟨w, ρ, M, m, er, p.bindF.imp fun w1 H1 M1 x _ _ z => ?_⟩
  obtain ⟨e1, m1, p1⟩ := z
  intro v1 f1 q1 hf1
  refine ⟨w1, ρ, M1, m1, er.stay e1, (p1 [] fun _ z => nomatch z).bindF.imp fun w2 H2 M2 y _ _ z => ?_⟩
  obtain ⟨e2, m2, p2⟩ := z
  intro v2 f2 q2 hf2
  replace p2 := p2 [] fun _ z => nomatch z
  split at p2
  · rename_i dx dy hx hy
    have hx := dat_eq hx; subst hx
    have hy := dat_eq hy; subst hy
    obtain ⟨a1, rfl⟩ := rr_dat q1
    obtain ⟨a2, rfl⟩ := rr_dat q2
    have e12 : Ext [] w H M w2 H2 M2 := e1.trans0 e2
    have er2 := er.stay e12
    refine hg W σ w2 H2 M2 v1 v2 _ _ [] [] _ m2 (rr_d (Dp.mono e2.F a1)) (rr_d a2) (fun _ z => nomatch z) (p2.bindF.imp fun w3 H3 M3 z _ _ q => ?_)
    obtain ⟨e3, m3, p3⟩ := q
    intro v3 f3 q3 hf3
    replace p3 := p3 [] fun _ z => nomatch z
    split at p3
    · rename_i k hk
      have hk := dat_eq hk; subst hk
      refine ⟨k, rr_bl q3, ?_⟩
      have e13 := e12.trans0 e3
      cases k with
      | true =>
        rw [if_pos rfl]
        refine ⟨w3, ρ, M3, m3, er2.stay e3, (Post.bindF p3).imp fun w4 H4 M4 u _ _ q => ?_⟩
        obtain ⟨e4, m4, p4⟩ := q
        intro v4 f4 q4 hf4
        refine hg' W σ w4 H4 M4 v2 v4 _ _ [] f4 _ m4 (rr_d (Dp.mono (e3.F.trans e4.F) a2)) q4 (fun _ z => nomatch z) ?_
        refine (p4 f4 hf4).imp fun _ _ _ _ _ _ q => q.from (e13.trans0 e4) fun a ha => e13.pm (gs := []) (fun _ z => nomatch z) (hf4 a ha)
      | false =>
        rw [if_neg Bool.false_ne_true]
        exact (p3.now m3) _ [] (rr_d (.bl _)) fun _ z => nomatch z
    · exact p3.elim
  · exact p2.elim
theorem de_chain {op op' : CmpOp} {g g' : R → R → Mst → Out R} {r r' : R2} (hr : OpR X (compareOp op) r) (hr' : OpR X (compareOp op') r') (hg : Op2 X g r) (hg' : Op2 X g' r') (ha : DE X W a Fa) (hb : DE X W b Fb) (hc : DE X W c Fc)
    (hm : lastMarks [op, op'] [b, c] = false := by with_unfolding_all rfl) : DE X W (.Compare a [op, op'] [b, c] pos) (eChain g g' Fa Fb Fc) := (pe_chain hr hr' ha hb hc hm).mono fun _ _ _ h => rd_chain hg hg' h
theorem dt_chain {op op' : CmpOp} {g g' : R → R → Mst → Out R} {r r' : R2} (hr : OpR X (compareOp op) r) (hr' : OpR X (compareOp op') r') (hg : Op2 X g r) (hg' : Op2 X g' r') (ha : DE X W a Fa) (hb : DE X W b Fb) (hc : DE X W c Fc)
    (hm : lastMarks [op, op'] [b, c] = false := by with_unfolding_all rfl) : DT X W (.Compare a [op, op'] [b, c] pos) (eTB (eChain g g' Fa Fb Fc)) := (pt_chain hr hr' ha hb hc hm).mono fun _ _ _ h => rd_chain hg hg' (rd_tb h)
/-! ### one operand -/
def eSeq1 (g : R → Mst → Out R) (F : Den) : Den := fun ρ M => (F ρ M).bind g
def Op1 (X : Cx) (g : R → Mst → Out R) (r : V → Hp → VK → Prop) : Prop := ∀ (W : WX) (σ : St) (w : Wd) (H : Hp) (M : Mst) (x : V) (r1 : R) (f1 : List Addr) (Q : VK), MR X.K X.mg w H M →
  RR X.K X.mg w H M x r1 f1 → Post X W σ f1 w H M (g r1 M) (CE X f1 w H M Q) → r x H Q
theorem rd_un {g : R → Mst → Out R} {r : V → Hp → VK → Prop} (hg : Op1 X g r) {Q : VK} (h : rdE X W (eSeq1 g Fa) σ H Q) : tUn r (rdE X W Fa) σ H Q := by
  obtain ⟨w, ρ, M, m, er, p⟩ := h
  refine ⟨w, ρ, M, m, er, p.bindF.imp fun w1 H1 M1 x _ _ z => ?_⟩
  obtain ⟨e1, m1, p1⟩ := z
  intro v1 f1 q1 hf1
  exact hg W σ w1 H1 M1 v1 x f1 Q m1 q1 ((p1 f1 hf1).imp fun _ _ _ _ _ _ q => q.from e1 hf1)
theorem de_un {op : UnaryOp} {r : V → Hp → VK → Prop} {g : R → Mst → Out R} (hr : UnR X (unaryOp op) r) (hg : Op1 X g r) (ha : DE X W a Fa) : DE X W (.UnaryOp op a pos) (eSeq1 g Fa) :=
  (pe_un hr ha).mono fun _ _ _ h => rd_un hg h
def sc1 (h : D → Option D) : R → Mst → Out R := fun r1 M => match h (frzR M r1) with
  | some x => .ok (.t (.d x)) M
  | none => .bad
theorem op1_sc {h : D → Option D} {r : V → Hp → VK → Prop} (hh : ∀ (F : Hp) (H : Hp) (x : V) (d1 d : D) (Q : VK), Dp X.K X.mg H x d1 → h d1 = some d → (∀ v, Dp X.K X.mg F v d → Q v H) → r x H Q) : Op1 X (sc1 h) r := by
  intro W σ w H M x r1 f1 Q m q1 p
  unfold sc1 at p
  split at p
  · rename_i d hd
    exact hh w.F H x _ d Q (seen m q1) hd fun v hv => (p.now m).val (C := fun _ => r1) hv
  · exact p.elim
def iNeg : D → Option D
  | .int i => some (.int (-i))
  | _ => none
theorem op1_neg : Op1 X (sc1 iNeg) (rU fun i => .int (-i)) := op1_sc fun F H x d1 d Q h hd q => by
  unfold iNeg at hd
  split at hd
  · cases h; cases hd; exact ⟨_, rfl, q _ (.int _)⟩
  · cases hd
end
end DL

/-! DL5: statements, targets -/
namespace DL
open PySem L2
inductive Fl where
  | nx (ρ : Ev) | rt (r : R) | bk (ρ : Ev) | ct (ρ : Ev) | xc (e : Exc) (ρ : Ev)
abbrev DenS := Ev → Mst → Option (Fl × Mst)
abbrev DenG := R → Ev → Mst → Option (Ev × Mst)
def bindS {α : Type} (o : Out α) (ρ : Ev) (k : α → Mst → Option (Fl × Mst)) : Option (Fl × Mst) := match o with
  | .ok a M => k a M
  | .exc e M => some (.xc e ρ, M)
  | .bad => none
def PostF (X : Cx) (W : WX) (fs : List Addr) (w : Wd) (H : Hp) (M : Mst) (Dn : Ends) : Fl → Mst → Prop
  | .nx ρ', M' => ∀ w' H' σ', Ext fs w H M w' H' M' → MR X.K X.mg w' H' M' → ER X.K X.mg w' M' σ' ρ' → Dn.nx σ' H'
  | .bk ρ', M' => ∀ w' H' σ', Ext fs w H M w' H' M' → MR X.K X.mg w' H' M' → ER X.K X.mg w' M' σ' ρ' → Dn.bk σ' H'
  | .ct ρ', M' => ∀ w' H' σ', Ext fs w H M w' H' M' → MR X.K X.mg w' H' M' → ER X.K X.mg w' M' σ' ρ' → Dn.ct σ' H'
  | .rt r, M' => ∀ w' H' v fp, Ext fs w H M w' H' M' → MR X.K X.mg w' H' M' → RR X.K X.mg w' H' M' v r fp → (∀ a ∈ fp, Pm fs w H M a) → Dn.rt v H'
  | .xc e ρ', M' => ∀ w' H' σ' cls d, Ext fs w H M w' H' M' → MR X.K X.mg w' H' M' → ER X.K X.mg w' M' σ' ρ' → XR X.K X.mg w' H' cls d e → W cls d σ' H'
def PostS (X : Cx) (W : WX) (fs : List Addr) (w : Wd) (H : Hp) (M : Mst) (o : Option (Fl × Mst)) (Dn : Ends) : Prop := match o with
  | some (f, M') => PostF X W fs w H M Dn f M'
  | none => False
def PostG (X : Cx) (fs : List Addr) (w : Wd) (H : Hp) (M : Mst) (o : Option (Ev × Mst)) (Q : St → Hp → Prop) : Prop := match o with
  | some (ρ', M') => ∀ w' H' σ', Ext fs w H M w' H' M' → MR X.K X.mg w' H' M' → ER X.K X.mg w' M' σ' ρ' → Q σ' H'
  | none => False
def rdS (X : Cx) (W : WX) (F : DenS) : TS := fun Dn σ H => ∃ w ρ M, MR X.K X.mg w H M ∧ ER X.K X.mg w M σ ρ ∧ PostS X W [] w H M (F ρ M) Dn
def rdG (X : Cx) (W : WX) (G : DenG) : TG := fun v σ H Q => ∃ w ρ M r fp, MR X.K X.mg w H M ∧ ER X.K X.mg w M σ ρ ∧ RR X.K X.mg w H M v r fp ∧
  PostG X fp w H M (G r ρ M) Q
def DS (X : Cx) (W : WX) (st : Stmt) (F : DenS) : Prop := PS X st (rdS X W F)
def DB (X : Cx) (W : WX) (st : List Stmt) (F : DenS) : Prop := PSs X st (rdS X W F)
def DG (X : Cx) (W : WX) (tg : Expr) (G : DenG) : Prop := PG X tg (rdG X W G)
section
variable {X : Cx} {W : WX} {σ : St} {fs gs : List Addr} {w w2 : Wd} {H H2 : Hp} {M M2 : Mst} {α β : Type}
variable {e a b c : Expr} {Fe Fa Fb Fc : Den} {Ta Tb : DenT} {pos : Pos} {st : Stmt} {rest sa sb : List Stmt} {F G : DenS} {Dn : Ends}
theorem PostF.from {f : Fl} {M' : Mst} (h : PostF X W fs w H M Dn f M') (e : Ext fs w H M w2 H2 M2) (hg : ∀ a ∈ gs, Pm fs w H M a) : PostF X W gs w2 H2 M2 Dn f M' := by
  cases f with
  | nx ρ => exact fun w' H' σ' e' m er => h w' H' σ' (e.trans e' hg) m er
  | bk ρ => exact fun w' H' σ' e' m er => h w' H' σ' (e.trans e' hg) m er
  | ct ρ => exact fun w' H' σ' e' m er => h w' H' σ' (e.trans e' hg) m er
  | rt r => exact fun w' H' v fp e' m q hp => h w' H' v fp (e.trans e' hg) m q fun a ha => e.pm hg (hp a ha)
  | xc x ρ => exact fun w' H' σ' c d e' m er z => h w' H' σ' c d (e.trans e' hg) m er z
theorem PostS.from {o : Option (Fl × Mst)} (h : PostS X W fs w H M o Dn) (e : Ext fs w H M w2 H2 M2) (hg : ∀ a ∈ gs, Pm fs w H M a) : PostS X W gs w2 H2 M2 o Dn := by
  cases o with
  | none => exact h
  | some p => obtain ⟨f, M'⟩ := p; exact PostF.from h e hg
theorem PostS.bindF {o : Out α} {ρ : Ev} {k : α → Mst → Option (Fl × Mst)} (h : PostS X W fs w H M (bindS o ρ k) Dn) (er : ER X.K X.mg w M σ ρ) :
    Post X W σ [] w H M o (fun w1 H1 M1 a => Ext [] w H M w1 H1 M1 ∧ MR X.K X.mg w1 H1 M1 ∧ ∀ gs, (∀ b ∈ gs, Pm fs w H M b) → PostS X W gs w1 H1 M1 (k a M1) Dn) := by
  cases o with
  | ok a M' => exact fun w1 H1 e1 m1 => ⟨e1, m1, fun gs hg => PostS.from h (e1.mono fun _ z => nomatch z) hg⟩
  | exc x M' => exact fun w1 H1 c d e1 m1 z => h w1 H1 σ c d (e1.mono fun _ z => nomatch z) m1 (er.stay e1) z
  | bad => exact h
theorem PostS.nx {ρ' : Ev} {σ' : St} (h : PostS X W fs w H M (some (.nx ρ', M)) Dn) (m : MR X.K X.mg w H M) (er : ER X.K X.mg w M σ' ρ') : Dn.nx σ' H := h w H σ' (Ext.refl m) m er

theorem PostG.from {o : Option (Ev × Mst)} {Q : St → Hp → Prop} (h : PostG X fs w H M o Q) (e : Ext fs w H M w2 H2 M2) (hg : ∀ a ∈ gs, Pm fs w H M a) : PostG X gs w2 H2 M2 o Q := by
  cases o with
  | none => exact h
  | some p => exact fun w' H' σ' e' m er => h w' H' σ' (e.trans e' hg) m er
/-! ### blocks -/
def sNil : DenS := fun ρ M => some (.nx ρ, M)
def sBad : DenS := fun _ _ => none
def sSeq (F G : DenS) : DenS := fun ρ M => match F ρ M with
  | some (.nx ρ', M') => G ρ' M'
  | o => o
theorem rd_seq (h : rdS X W (sSeq F G) Dn σ H) : tSeq (rdS X W F) (rdS X W G) Dn σ H := by
  obtain ⟨w, ρ, M, m, er, p⟩ := h
  refine ⟨w, ρ, M, m, er, ?_⟩
  unfold sSeq at p
  cases z : F ρ M with
  | none => rw [z] at p; exact p
  | some q =>
    obtain ⟨f, M'⟩ := q
    rw [z] at p
    cases f with
    | nx ρ' => exact fun w' H' σ' e' m' er' => ⟨w', ρ', M', m', er', PostS.from p e' fun _ z => nomatch z⟩
    | bk ρ' => exact p
    | ct ρ' => exact p
    | rt r => exact p
    | xc x ρ' => exact p
theorem db_nil : DB X W [] sNil := pss_nil.mono fun Dn σ H h => by
  obtain ⟨w, ρ, M, m, er, p⟩ := h
  exact p.nx m er
theorem db_cons (h1 : DS X W st F) (h2 : DB X W rest G) : DB X W (st :: rest) (sSeq F G) := (pss_cons h1 h2).mono fun _ _ _ h => rd_seq h
theorem db_one (h1 : DS X W st F) : DB X W [st] F := pss_one h1
theorem ds_never : DS X W st sBad := ps_never.mono fun Dn σ H h => by
  obtain ⟨w, ρ, M, m, er, p⟩ := h
  exact p
theorem db_never : DB X W rest sBad := pss_never.mono fun Dn σ H h => by
  obtain ⟨w, ρ, M, m, er, p⟩ := h
  exact p
theorem ds_pass : DS X W (.Pass pos) sNil := ps_pass.mono fun Dn σ H h => by
  obtain ⟨w, ρ, M, m, er, p⟩ := h
  exact p.nx m er
def sBreak : DenS := fun ρ M => some (.bk ρ, M)
def sCont : DenS := fun ρ M => some (.ct ρ, M)
theorem ds_break : DS X W (.Break pos) sBreak := ps_break.mono fun Dn σ H h => by
  obtain ⟨w, ρ, M, m, er, p⟩ := h
  exact p w H σ (Ext.refl m) m er
theorem ds_cont : DS X W (.Continue pos) sCont := ps_continue.mono fun Dn σ H h => by
  obtain ⟨w, ρ, M, m, er, p⟩ := h
  exact p w H σ (Ext.refl m) m er
def sExpr (F : Den) : DenS := fun ρ M => bindS (F ρ M) ρ fun _ M1 => some (.nx ρ, M1)
theorem ds_expr (h : DE X W e Fe) (hs : swapsWith e none pos.line X.env = pure false := by rfl) : DS X W (.Expr e pos) (sExpr Fe) := (ps_expr h hs).mono fun Dn σ H h => by
  obtain ⟨w, ρ, M, m, er, p⟩ := h
  refine ⟨w, ρ, M, m, er, (p.bindF er).imp fun w1 H1 M1 r _ _ z => ?_⟩
  obtain ⟨e1, m1, p1⟩ := z
  intro v fp q hf
  exact (p1 [] fun _ z => nomatch z).nx m1 (er.stay e1)
def sRet (F : Den) : DenS := fun ρ M => bindS (F ρ M) ρ fun r M1 => some (.rt r, M1)
theorem ds_ret (h : DE X W e Fe) : DS X W (.Return (some e) pos) (sRet Fe) := (ps_ret h).mono fun Dn σ H h => by
  obtain ⟨w, ρ, M, m, er, p⟩ := h
  refine ⟨w, ρ, M, m, er, (p.bindF er).imp fun w1 H1 M1 r _ _ z => ?_⟩
  obtain ⟨e1, m1, p1⟩ := z
  intro v fp q hf
  exact p1 fp hf w1 H1 v fp (Ext.refl m1) m1 q fun a ha => .inr (.inr ha)
def sRetN : DenS := fun _ M => some (.rt (.t (.d .non)), M)
theorem ds_retN : DS X W (.Return none pos) sRetN := ps_retN.mono fun Dn σ H h => by
  obtain ⟨w, ρ, M, m, er, p⟩ := h
  exact p w H .non [] (Ext.refl m) m (rr_d .non) fun _ z => nomatch z
def sIf (T : DenT) (F G : DenS) : DenS := fun ρ M => bindS (T ρ M) ρ fun k M1 => if k = true then F ρ M1 else G ρ M1
theorem ds_if (hc : DT X W c Ta) (ha : DB X W sa F) (hb : DB X W sb G) : DS X W (.If c sa sb pos) (sIf Ta F G) := (ps_if hc ha hb).mono fun Dn σ H h => by
  obtain ⟨w, ρ, M, m, er, p⟩ := h
  refine ⟨w, ρ, M, m, er, (p.bindF er).imp fun w1 H1 M1 k _ _ z => ?_⟩
  obtain ⟨e1, m1, p1⟩ := z
  replace p1 := p1 [] fun _ z => nomatch z
  cases k with
  | true => exact ⟨w1, ρ, M1, m1, er.stay e1, p1⟩
  | false => exact ⟨w1, ρ, M1, m1, er.stay e1, p1⟩

/-! ### targets -/
def svR : R → SV
  | .h k => .h k
  | .t x => .d (frz x)
theorem settleV {v : V} {r : R} {fp : List Addr} (m : MR X.K X.mg w H M) (h : RR X.K X.mg w H M v r fp) :
    ∃ w', Ext fp w H M w' H M ∧ MR X.K X.mg w' H M ∧ VR X.K X.mg w' M v (svR r) ∧ w'.α = w.α := by
  cases r with
  | h k => exact ⟨w, Ext.refl m, m, ⟨h.1, h.2.1⟩, rfl⟩
  | t x => exact settle m h
def gSet (i : Nat) : DenG := fun r ρ M => some (ρ.set i (some (svR r)), M)
theorem rd_set {i : Nat} {v : V} {Q : St → Hp → Prop} (h : rdG X W (gSet i) v σ H Q) : gName i v σ H Q := by
  obtain ⟨w, ρ, M, r, fp, m, er, q, p⟩ := h
  obtain ⟨w', e, m', hv, _⟩ := settleV m q
  exact p w' H _ e m' ((er.stay e).set hv)
/-- a mutable object of one's own -/
def gSetM (i : Nat) : DenG := fun r ρ M => match r with
  | .h k => some (ρ.set i (some (.h k)), M)
  | .t (.d x) => some (ρ.set i (some (.d x)), M)
  | .t x => some (ρ.set i (some (.h M.length)), M ++ [x])
theorem keepM {v : V} {x : T} {fp : List Addr} (m : MR X.K X.mg w H M) (h : RR X.K X.mg w H M v (.t x) fp) {p : Addr} (hv : v = .ref p) :
    ∃ w', Ext fp w H M w' H (M ++ [x]) ∧ MR X.K X.mg w' H (M ++ [x]) ∧ VR X.K X.mg w' (M ++ [x]) v (.h M.length) := by
  obtain ⟨h1, h2, h3⟩ := h
  subst hv
  refine ⟨⟨w.F, fun k => if k = M.length then p else w.α k, fun k => if k = M.length then fp else w.φ k⟩, ⟨Same.refl _, by simp, fun k hk => if_neg (Nat.ne_of_lt hk), fun _ _ q _ => q, fun k hk a ha => ?_, fun a z => .inl z, fun _ z => z⟩, ⟨m.sub, fun k t e => ?_, fun j k a hj hk h1' h2' => ?_⟩, ?_⟩
  · have ha : a ∈ (if k = M.length then fp else w.φ k) := ha
    split at ha
    · exact .inr (.inr ha)
    · exact .inr (.inl ⟨k, by simp at hk; omega, ha⟩)
  · by_cases hk : k = M.length
    · subst hk
      rw [List.getElem?_append_right (Nat.le_refl _)] at e
      simp at e
      subst e
      show TR X.K X.mg w.F H (.ref (if M.length = M.length then p else _)) _ (if M.length = M.length then fp else _) ∧ (if M.length = M.length then fp else _).Nodup
      rw [if_pos rfl, if_pos rfl]
      exact ⟨h1, h2⟩
    · have hl : k < M.length := by
        have := (List.getElem?_eq_some_iff.mp e).1
        simp at this; omega
      rw [List.getElem?_append_left hl] at e
      show TR X.K X.mg w.F H (.ref (if k = M.length then p else _)) _ (if k = M.length then fp else _) ∧ (if k = M.length then fp else _).Nodup
      rw [if_neg hk, if_neg hk]
      exact m.obj k t e
  · have h1' : a ∈ (if j = M.length then fp else w.φ j) := h1'
    have h2' : a ∈ (if k = M.length then fp else w.φ k) := h2'
    simp at hj hk
    split at h1'
    · split at h2'
      · omega
      · exact absurd h2' (h3 a h1' k (by omega))
    · split at h2'
      · exact absurd h1' (h3 a h2' j (by omega))
      · exact m.dis j k a (by omega) (by omega) h1' h2'
  · refine ⟨by simp, ?_⟩
    show V.ref p = .ref (if M.length = M.length then p else _)
    rw [if_pos rfl]
theorem rd_setM {i : Nat} {v : V} {Q : St → Hp → Prop} (h : rdG X W (gSetM i) v σ H Q) : gName i v σ H Q := by
  obtain ⟨w, ρ, M, r, fp, m, er, q, p⟩ := h
  have go : ∀ x : T, r = .t x → (∃ p, v = .ref p) → PostG X fp w H M (some (ρ.set i (some (.h M.length)), M ++ [x])) Q → gName i v σ H Q := fun x hr ⟨a, hv⟩ p' => by
    subst hr
    obtain ⟨w', e, m', hv⟩ := keepM m q hv
    exact p' w' H _ e m' ((er.stay e).set hv)
  cases r with
  | h k => exact p w H _ (Ext.refl m) m (er.set (x := .h k) ⟨q.1, q.2.1⟩)
  | t x =>
    cases x with
    | d x =>
      obtain ⟨q, _⟩ := q
      cases q with
      | d q => exact p w H _ (Ext.refl m) m (er.set (x := .d x) q)
    | lst ts => exact go _ rfl (by cases q.1; exact ⟨_, rfl⟩) p
    | tup ts => exact go _ rfl (by cases q.1; exact ⟨_, rfl⟩) p
    | ins c ts => exact go _ rfl (by cases q.1; exact ⟨_, rfl⟩) p
    | dic _ => exact go _ rfl (by cases q.1; exact ⟨_, rfl⟩) p
theorem dg_name {x : Str} (i : Nat) (h : PG X (.Name x pos) (gName i)) : DG X W (.Name x pos) (gSet i) := ⟨fun pins s σ H v u Q I r q => h.run pins s σ H v u Q I r (rd_set q)⟩
theorem dg_nameM {x : Str} (i : Nat) (h : PG X (.Name x pos) (gName i)) : DG X W (.Name x pos) (gSetM i) := ⟨fun pins s σ H v u Q I r q => h.run pins s σ H v u Q I r (rd_setM q)⟩
def sAsg (F : Den) (G : DenG) : DenS := fun ρ M => bindS (F ρ M) ρ fun r M1 => match G r ρ M1 with
  | some (ρ', M2) => some (.nx ρ', M2)
  | none => none
theorem rd_asg {g : TG} {Gd : DenG} (hg : ∀ v σ H Q, rdG X W Gd v σ H Q → g v σ H Q) (h : rdS X W (sAsg Fe Gd) Dn σ H) : tAsg (rdE X W Fe) g Dn σ H := by
  obtain ⟨w, ρ, M, m, er, p⟩ := h
  refine ⟨w, ρ, M, m, er, (p.bindF er).imp fun w1 H1 M1 r _ _ z => ?_⟩
  obtain ⟨e1, m1, p1⟩ := z
  intro v fp q hf
  refine hg _ _ _ _ ⟨w1, ρ, M1, r, fp, m1, er.stay e1, q, ?_⟩
  have p2 := p1 fp hf
  cases z : Gd r ρ M1 with
  | some q => rw [z] at p2; exact p2
  | none => rw [z] at p2; exact p2
theorem ds_set {i : Nat} {x : Str} {pos' : Pos} (hN : X.N.Nodup) (hi : X.N[i]? = some x) (hx : Loc X.env.scope x) (he : DE X W e Fe) (hs : swapsWith e (some (.Name x pos')) pos.line X.env = pure false := by rfl) (hf : X.fn x = true ∨ X.env.scope.names.lookup x = some .local := by first | exact .inl rfl | exact .inr rfl | assumption) :
    DS X W (.Assign [.Name x pos'] e pos) (sAsg Fe (gSet i)) := (ps_set hN hi hx he hs hf).mono fun _ _ _ h => rd_asg (fun _ _ _ _ => rd_set) h
theorem ds_setM {i : Nat} {x : Str} {pos' : Pos} (hN : X.N.Nodup) (hi : X.N[i]? = some x) (hx : Loc X.env.scope x) (he : DE X W e Fe) (hs : swapsWith e (some (.Name x pos')) pos.line X.env = pure false := by rfl) (hf : X.fn x = true ∨ X.env.scope.names.lookup x = some .local := by first | exact .inl rfl | exact .inr rfl | assumption) :
    DS X W (.Assign [.Name x pos'] e pos) (sAsg Fe (gSetM i)) := (ps_set hN hi hx he hs hf).mono fun _ _ _ h => rd_asg (fun _ _ _ _ => rd_setM) h
theorem ds_asg {tg : Expr} {Gd : DenG} (he : DE X W e Fe) (hg : DG X W tg Gd) (hs : swapsWithSole [tg] e pos.line X.env = pure false := by rfl) (hw : swappedStores [tg] e X.env = pure none := by rfl)
    (h1 : (assignEach [tg] X.env).map (·.2) = [assign tg X.env] := by rfl) : DS X W (.Assign [tg] e pos) (sAsg Fe Gd) := (ps_asg he hg hs hw h1).mono fun _ _ _ h => rd_asg (fun _ _ _ _ q => q) h

/-! ### a, b, .. = a tuple -/
abbrev DenGs := List T → Ev → Mst → Option (Ev × Mst)
def rdGs (X : Cx) (W : WX) (G : DenGs) : TGs := fun vs σ H Q => ∃ w ρ M ts fp, MR X.K X.mg w H M ∧ ER X.K X.mg w M σ ρ ∧ TRL X.K X.mg w.F H vs ts fp ∧ fp.Nodup ∧ (∀ a ∈ fp, ∀ k, k < M.length → a ∉ w.φ k) ∧
  PostG X fp w H M (G ts ρ M) Q
def DGs (X : Cx) (W : WX) (tg : List Expr) (G : DenGs) : Prop := PGs X tg (rdGs X W G)
def gNilD : DenGs := fun ts ρ M => if ts.isEmpty then some (ρ, M) else none
def gConsD (G : DenG) (Gs : DenGs) : DenGs := fun ts ρ M => match ts with
  | t :: r => (match G (.t t) ρ M with
    | some (ρ', M') => Gs r ρ' M'
    | none => none)
  | [] => none
theorem _root_.L2.PGs.mono {es : List Expr} {t t' : TGs} (h : PGs X es t) (k : ∀ vs σ H Q, t' vs σ H Q → t vs σ H Q) : PGs X es t' := ⟨fun pins s σ H vs us Q I r q => h.run pins s σ H vs us Q I r (k _ _ _ _ q)⟩
theorem _root_.L2.PG.mono {es : Expr} {t t' : TG} (h : PG X es t) (k : ∀ vs σ H Q, t' vs σ H Q → t vs σ H Q) : PG X es t' := ⟨fun pins s σ H vs us Q I r q => h.run pins s σ H vs us Q I r (k _ _ _ _ q)⟩
theorem dgs_nil : DGs X W [] gNilD := pgs_nil.mono fun vs σ H Q h => by
  obtain ⟨w, ρ, M, ts, fp, m, er, q, nd, na, p⟩ := h
  unfold gNilD at p
  cases ts with
  | nil => cases q; exact ⟨rfl, p w H _ (Ext.refl m) m er⟩
  | cons t r => exact p.elim
/-- a target only writes the state that it is given -/
theorem dgs_cons {tg : Expr} {es : List Expr} {G : DenG} {Gs : DenGs} (h1 : DG X W tg G) (h2 : DGs X W es Gs)
    (hs : (assignEach (tg :: es) X.env).map (·.2) = assign tg X.env :: (assignEach es X.env).map (·.2) := by rfl) : DGs X W (tg :: es) (gConsD G Gs) := (pgs_cons h1 h2 hs).mono fun vs σ H Q h => by
  obtain ⟨w, ρ, M, ts, fp, m, er, q, nd, na, p⟩ := h
  cases q with
  | nil => exact p.elim
  | @cons v vs t ts f1 f2 q1 q2 =>
    obtain ⟨nd1, nd2, dj⟩ := List.nodup_append.mp nd
    have dj' : ∀ a ∈ f2, a ∉ f1 := fun a ha hb => dj a hb a ha rfl
    refine ⟨v, vs, rfl, w, ρ, M, .t t, f1, m, er, ⟨q1, nd1, fun a ha => na a (List.mem_append_left _ ha)⟩, ?_⟩
    have p : PostG X (f1 ++ f2) w H M (match G (.t t) ρ M with
      | some (ρ', M') => Gs ts ρ' M'
      | none => none) Q := p
    cases z : G (.t t) ρ M with
    | none => rw [z] at p; exact p
    | some q =>
      obtain ⟨ρ', M'⟩ := q
      rw [z] at p
      intro w' H' σ' e' m' er'
      have s2 : TRL X.K X.mg w'.F H' vs ts f2 ∧ ∀ a ∈ f2, ∀ k, k < M'.length → a ∉ w'.φ k := by
        have np : ∀ a ∈ f2, ¬ Pm f1 w H M a := fun a ha z => by
          obtain ⟨h1, o, h2⟩ := q2.fp a ha
          rcases z with z | ⟨j, hj, z⟩ | z
          · rw [h2] at z; cases z
          · exact na a (List.mem_append_right _ ha) j hj z
          · exact dj' a ha z
        refine ⟨q2.stay e'.F fun a ha => ⟨?_, fun o ho => e'.keep a o ho (np a ha)⟩, fun a ha k hk z => np a ha (e'.ph k hk a z)⟩
        cases q : w'.F a with
        | none => rfl
        | some o =>
          rcases e'.gr a (by rw [q]; exact fun z => nomatch z) with z | z
          · exact absurd (q2.fp a ha).1 z
          · exact absurd z (np a ha)
      refine ⟨w', ρ', M', ts, f2, m', er', s2.1, nd2, s2.2, ?_⟩
      have e2 : Ext (f1 ++ f2) w H M w' H' M' := e'.mono fun a ha => List.mem_append_left _ ha
      have p : PostG X (f1 ++ f2) w H M (Gs ts ρ' M') Q := p
      cases z3 : Gs ts ρ' M' with
      | none => rw [z3] at p; exact p
      | some q => rw [z3] at p; exact fun w3 H3 σ3 e3 m3 er3 => p w3 H3 σ3 (e2.trans e3 fun a ha => .inr (.inr (List.mem_append_right _ ha))) m3 er3
/-- the items of a tuple -/
def tupItems : R → Option (List T)
  | .t (.tup ts) => some ts
  | .t (.d (.tupP _ ds)) => some (ds.map T.d)
  | _ => none
def gTupD (n : Nat) (G : DenGs) : DenG := fun r ρ M => match tupItems r with
  | some ts => if ts.length = n then G ts ρ M else none
  | none => none
theorem dg_tup {es : List Expr} {k n : Nat} {G : DenGs} (hc : X.calm = true) (h : DGs X W es G) (hn : (assignEach es X.env).length = n := by rfl) (hst : (assignEach es X.env).findIdx? (·.1) = none := by rfl) : DG X W (.Tuple es k pos) (gTupD n G) :=
  (pg_tup hc h hn hst).mono fun v σ H Q h => by
    obtain ⟨w, ρ, M, r, fp, m, er, q, p⟩ := h
    unfold gTupD at p
    split at p
    · rename_i ts hts
      split at p
      · rename_i hl
        unfold tupItems at hts
        split at hts
        · cases hts
          obtain ⟨q1, nd, na⟩ := q
          cases q1 with
          | @tup a vs _ fp h n l =>
            exact ⟨a, vs, rfl, SqT.of h, by rw [l.length]; exact hl, w, ρ, M, _, fp, m, er, l, (List.nodup_cons.mp nd).2, fun b hb => na b (List.mem_cons_of_mem _ hb), p.from (Ext.refl m) fun b hb => .inr (.inr (List.mem_cons_of_mem _ hb))⟩
        · cases hts
          obtain ⟨q1, rfl⟩ := rr_dat q
          cases q1 with
          | @tupP _ a vs _ h l =>
            exact ⟨a, vs, rfl, Same.seqT m.sub h.1, by rw [l.length]; simpa using hl, w, ρ, M, _, [], m, er, l.trees, List.nodup_nil, (fun _ z => nomatch z), p⟩
        · cases hts
      · exact p.elim
    · exact p.elim
end
end DL

/-! DL6: defs and their calls, new instances, methods -/
namespace DL
open PySem L2 PySem.Spec PyProof.Rows
abbrev Fn := List SV → Mst → Out R
def retR (n : Nat) (M : Mst) : R → R
  | .h k => if k < n then .h k else .t (M.getD k (.d .non))
  | .t x => .t x
def outOf (n : Nat) (o : Option (Fl × Mst)) : Out R := match o with
  | some (.nx _, M) => .ok (.t (.d .non)) (M.take n)
  | some (.rt r, M) => .ok (retR n M r) (M.take n)
  | some (.xc e _, M) => .exc e (M.take n)
  | _ => .bad
def env0 (N : Nat) (xs : List SV) : Ev := xs.map some ++ List.replicate (N - xs.length) none
def body (N : Nat) (b : DenS) : Fn := fun xs M => outOf M.length (b (env0 N xs) M)
def PostC (K : PySem.W.Frag) (mg : Mg) (E : XK) (w : Wd) (H : Hp) (M : Mst) (o : Out R) (Q : VK) : Prop := match o with
  | .ok r M' => ∀ w' H' v fp, Ext [] w H M w' H' M' → MR K mg w' H' M' → RR K mg w' H' M' v r fp → (∀ a ∈ fp, Pm [] w H M a) → Q v H'
  | .exc e M' => ∀ w' H' cls d, Ext [] w H M w' H' M' → MR K mg w' H' M' → XR K mg w' H' cls d e → E cls d H'
  | .bad => False
def spD (K : PySem.W.Frag) (mg : Mg) (n : Nat) (G : Fn) : Sp := fun vs H Q E => ∃ w xs M, MR K mg w H M ∧ VRL K mg w M vs xs ∧ vs.length = n ∧ PostC K mg E w H M (G xs M) Q
/-- the def at f keeps the promise «it does as G tells», by at most k calls one in another -/
def FOk (P : Program) (w : World) (K : PySem.W.Frag) (mg : Mg) (base : Heap) (k : Nat) (f : Addr) (ps : List Str) (G : Fn) : Prop :=
  ∃ fd, FnOk P w K mg base (L2.CX P w) k f fd ps (spD K mg ps.length G) ∧ Binds K fd ps []

section
variable {K : PySem.W.Frag} {mg : Mg} {w w' : Wd} {H H' : Hp} {M M' : Mst} {fs fp : List Addr}
theorem MR.take (m : MR K mg w H M) (n : Nat) : MR K mg w H (M.take n) := by
  refine ⟨m.sub, fun k t e => ?_, fun j k a hj hk => m.dis j k a (by rw [List.length_take] at hj; omega) (by rw [List.length_take] at hk; omega)⟩
  rw [List.getElem?_take] at e
  split at e
  · exact m.obj k t e
  · cases e
theorem Ext.take (e : Ext fs w H M w' H' M') : Ext fs w H M w' H' (M'.take M.length) :=
  ⟨e.F, by rw [List.length_take]; exact Nat.le_min.mpr ⟨Nat.le_refl _, e.len⟩, e.al, e.keep, fun k hk => e.ph k (by rw [List.length_take] at hk; omega), e.gr, e.there⟩
theorem RR.ret {v : V} {r : R} {n : Nat} (hn : n ≤ M.length) (m : MR K mg w H M) (h : RR K mg w H M v r fp) : ∃ fp', RR K mg w H (M.take n) v (retR n M r) fp' ∧ ∀ a ∈ fp', a ∈ fp ∨ ∃ k, k < M.length ∧ a ∈ w.φ k := by
  cases r with
  | t x =>
    obtain ⟨h1, h2, h3⟩ := h
    exact ⟨fp, ⟨h1, h2, fun a ha k hk => h3 a ha k (by rw [List.length_take] at hk; omega)⟩, fun a ha => .inl ha⟩
  | h k =>
    obtain ⟨h1, h2, h3⟩ := h
    by_cases hk : k < n
    · rw [show retR n M (.h k) = .h k from if_pos hk]
      exact ⟨[], ⟨by rw [List.length_take]; omega, h2, rfl⟩, fun _ z => nomatch z⟩
    · rw [show retR n M (.h k) = .t (M.getD k (.d .non)) from if_neg hk]
      obtain ⟨x, hx⟩ : ∃ x, M[k]? = some x := ⟨M[k], List.getElem?_eq_getElem h1⟩
      obtain ⟨q1, q2⟩ := m.obj k x hx
      rw [getD_of hx]
      refine ⟨w.φ k, ⟨h2 ▸ q1, q2, fun a ha j hj z => ?_⟩, fun a ha => .inr ⟨k, h1, ha⟩⟩
      rw [List.length_take] at hj
      exact absurd (m.dis k j a h1 (by omega) ha z) (by omega)
theorem settleL {X : Cx} {rs : List R} : ∀ {vs : List V} {fp : List Addr} {w : Wd} {H : Hp} {M : Mst}, MR X.K X.mg w H M → RRL X.K X.mg w H M vs rs fp → ∃ w', Ext fp w H M w' H M ∧ MR X.K X.mg w' H M ∧ VRL X.K X.mg w' M vs (rs.map svR) := by
  induction rs with
  | nil => intro vs fp w H M m h; cases h; exact ⟨w, Ext.refl m, m, .nil⟩
  | cons r rs ih =>
    intro vs fp w H M m h
    cases h with
    | @cons v vs _ _ f1 f2 h1 h2 dj =>
      obtain ⟨w1, e1, m1, v1, _⟩ := settleV m h1
      obtain ⟨w2, e2, m2, v2⟩ := ih m1 (h2.stay e1 fun a ha hb => dj a hb ha)
      exact ⟨w2, (e1.mono fun a ha => List.mem_append_left _ ha).trans e2 fun a ha => .inr (.inr (List.mem_append_right _ ha)), m2, .cons (v1.stay e2) v2⟩
end

/-- THE RULE for a def: what its body does by data -/
theorem fn_okF {P : Program} {w : World} {K : PySem.W.Frag} {mg : Mg} {base : Heap} {x qual : Str} {st : Stmt} {f : Addr} {fd : FuncData} {N ps : List Str} {k : Nat} {b : DenS} (F : Fun K x qual st f fd) (S : FnScope N ps (defScope st))
    (h : ∀ (cdv : Value) (A : Around) (outer : List Env) (s : Shared) (H : Hp) (E : XK), Room k (A.deeper (envOfC qual (defScope st) s.heap.objs.size f cdv)) → Takes (cxOf (L2.CX P w) P w K mg base N qual (defScope st) f cdv A outer s H E) (fun cls d _ H => E cls d H) →
      PassesOwn (model P w) (A.deeper (envOfC qual (defScope st) s.heap.objs.size f cdv)) (cxOf (L2.CX P w) P w K mg base N qual (defScope st) f cdv A outer s H E).env (cxOf (L2.CX P w) P w K mg base N qual (defScope st) f cdv A outer s H E).xe →
      DB (cxOf (L2.CX P w) P w K mg base N qual (defScope st) f cdv A outer s H E) (fun cls d _ H => E cls d H) (defBody st) b) : FnOk P w K mg base (L2.CX P w) (k + 1) f fd ps (spD K mg ps.length (body N.length b)) := by
  refine F.okX S (fun vs H Q E h => ?_) (fun cdv A outer s H vs Q E hr hq => ⟨_, h cdv A outer s H E hr (takes_of rfl rfl rfl rfl) (passes_of rfl), ?_⟩)
  · obtain ⟨_, _, _, _, _, hl, _⟩ := h
    exact hl
  · obtain ⟨wd, xs, M, m, vr, hl, p⟩ := hq
    have er : ER K mg wd M (L2.start N vs) (env0 N.length xs) := by
      have hxs := vr.length
      refine ⟨by unfold L2.start env0; simp [hxs], fun i y q => ?_⟩
      unfold env0 at q
      by_cases hi : i < xs.length
      · rw [List.getElem?_append_left (by simpa using hi), List.getElem?_map] at q
        cases z : xs[i]? with
        | none => rw [z] at q; cases q
        | some y' =>
          rw [z] at q
          have e : y' = y := Option.some.inj (Option.some.inj q)
          subst e
          obtain ⟨v, h1, h2⟩ := vr.get z
          refine ⟨v, ?_, h2⟩
          unfold L2.start
          rw [List.getElem?_append_left (by simpa [hxs] using hi), List.getElem?_map, h1]
          rfl
      · rw [List.getElem?_append_right (by simpa using hi), List.getElem?_replicate] at q
        split at q <;> cases q
    refine ⟨wd, _, M, m, er, ?_⟩
    unfold body at p
    show PostS _ _ [] wd H M _ _
    cases z : b (env0 N.length xs) M with
    | none => rw [z] at p; exact p
    | some q =>
      obtain ⟨fl, M'⟩ := q
      rw [z] at p
      cases fl with
      | nx ρ => exact fun w' H' σ' e m' _ => p w' H' .non [] e.take (m'.take _) (rr_d .non) fun _ z => nomatch z
      | rt r =>
        intro w' H' v fp e m' q hf
        obtain ⟨fp', q', hf'⟩ := q.ret e.len m'
        refine p w' H' v fp' e.take (m'.take _) q' fun a ha => ?_
        rcases hf' a ha with z | ⟨k, hk, z⟩
        · exact hf a z
        · exact e.ph k hk a z
      | bk ρ => exact p.elim
      | ct ρ => exact p.elim
      | xc e ρ => exact fun w' H' σ' cls d ex m' _ xr => p w' H' cls d ex.take (m'.take _) xr
theorem FOk.of {P : Program} {w : World} {K : PySem.W.Frag} {mg : Mg} {base : Heap} {k : Nat} {f : Addr} {fd : FuncData} {ps : List Str} {G : Fn} (F : FnOk P w K mg base (L2.CX P w) k f fd ps (spD K mg ps.length G)) (hb : Binds K fd ps []) : FOk P w K mg base k f ps G := ⟨fd, F, hb⟩
theorem FOk.mono {P : Program} {w : World} {K : PySem.W.Frag} {mg : Mg} {base : Heap} {j k : Nat} {f : Addr} {ps : List Str} {G : Fn} (F : FOk P w K mg base j f ps G) (h : j ≤ k) : FOk P w K mg base k f ps G :=
  let ⟨fd, h1, h2⟩ := F; ⟨fd, h1.mono h, h2⟩
theorem FOk.imp {P : Program} {w : World} {K : PySem.W.Frag} {mg : Mg} {base : Heap} {k : Nat} {f : Addr} {ps : List Str} {G G' : Fn} (F : FOk P w K mg base k f ps G) (h : ∀ xs M, xs.length = ps.length → G' xs M = .bad ∨ G' xs M = G xs M) : FOk P w K mg base k f ps G' := by
  obtain ⟨fd, h1, h2⟩ := F
  refine ⟨fd, h1.imp fun vs H Q E ⟨w, xs, M, m, vr, hl, p⟩ => ⟨w, xs, M, m, vr, hl, ?_⟩, h2⟩
  rcases h xs M (by rw [← vr.length]; exact hl) with z | z
  · rw [z] at p; exact p.elim
  · rw [z] at p; exact p

section
variable {X : Cx} {W : WX} {σ : L2.St} {fs gs : List Addr} {w w2 : Wd} {H H2 : Hp} {M M2 : Mst}
variable {e o : Expr} {es : List Expr} {Fe Fa : Den} {A : DenA} {pos p apos : Pos} {x m : Str} {k : Nat} {f C : Addr} {ps : List Str} {G : Fn}
def eCall (G : Fn) (A : DenA) : Den := fun ρ M => (A ρ M).bind fun rs M1 => G (rs.map svR) M1
theorem PostC.of {w0 : Wd} {H0 : Hp} {M0 : Mst} {Q : VK} {o : Out R} {fp : List Addr} (p : Post X W σ fp w H M o (CE X [] w0 H0 M0 Q)) (e0 : Ext [] w0 H0 M0 w H M) (hf : ∀ a ∈ fp, Pm [] w0 H0 M0 a) (e : Ext fp w H M w2 H2 M2) : PostC X.K X.mg (WE W σ) w2 H2 M2 o Q := by
  cases o with
  | bad => exact p
  | exc x M' => exact fun w' H' c d e' m' xr => p w' H' c d (e.trans0 e') m' xr
  | ok r M' => exact fun w' H' v fp' e' m' q hq => p w' H' (e.trans0 e') m' v fp' q fun a ha => e0.pm hf (e.pm (gs := []) (fun _ z => nomatch z) (hq a ha))
theorem FOk.run (F : FOk X.prog X.w X.K X.mg X.base k f ps G) (hr : Room k X.A) (tk : Takes X W) {pins : List (Addr × Obj)} {s : Shared} {Q : VK} {us : List Value} {vs : List V} (I : Inv X pins σ H s) (r : Vals vs us)
    (h : spD X.K X.mg ps.length G vs H Q (WE W σ)) : wpAny (model X.prog X.w) X.A (call (.ref f) us) (EP X pins σ Q) X.xe s := by
  obtain ⟨fd, F, hb⟩ := F
  exact run_fnS (E := fun σ => WE W σ) F hr hb (passAt tk σ) I r h
def eArity (n : Nat) (A : DenA) : DenA := fun ρ M => (A ρ M).bind fun rs M1 => if rs.length = n then .ok rs M1 else .bad
theorem rd_call' {n : Nat} {Q : VK} (h : rdE X W (eCall G (eArity n A)) σ H Q) : rdA X W A σ H fun vs H1 => spD X.K X.mg n G vs H1 Q (WE W σ) := by
  obtain ⟨w, ρ, M, m, er, p⟩ := h
  have p : Post X W σ [] w H M ((eArity n A ρ M).bind fun rs M1 => G (rs.map svR) M1) (CE X [] w H M Q) := p
  refine ⟨w, ρ, M, m, er, ?_⟩
  have p : Post X W σ [] w H M ((A ρ M).bind fun rs M1 => if rs.length = n then G (rs.map svR) M1 else .bad) (CE X [] w H M Q) := by
    unfold eArity at p
    cases z : A ρ M with
    | bad => rw [z] at p; exact p
    | exc x M' => rw [z] at p; exact p
    | ok rs M' =>
      rw [z] at p
      show Post X W σ [] w H M (if rs.length = n then _ else _) _
      have p : Post X W σ [] w H M ((if rs.length = n then Out.ok rs M' else .bad).bind fun rs M1 => G (rs.map svR) M1) (CE X [] w H M Q) := p
      split at p
      · rename_i hl; rw [if_pos hl]; exact p
      · rename_i hl; rw [if_neg hl]; exact p
  refine p.bindF.imp fun w1 H1 M1 rs _ _ z => ?_
  obtain ⟨e1, m1, p1⟩ := z
  intro vs fp q hf
  replace p1 := p1 fp hf
  split at p1
  · rename_i hl
    obtain ⟨w2, e2, m2, v2⟩ := settleL m1 q
    exact ⟨w2, _, M1, m2, v2, by rw [q.length]; exact hl, PostC.of p1 e1 hf e2⟩
  · exact p1.elim
/-- f(e, ..) -/
theorem de_call (F : FOk X.prog X.w X.K X.mg X.base k f ps G) (hr : Room k X.A) (tk : Takes X W) (hg : Gl X x) (hm : X.mg x = some (.ref f)) (hk : PySem.W.keepIn X.K (.ref f) = true) (ha : DA X W (e :: es) A)
    (hdb : (x == ("__debug__" : Str)) = false := by decide) (he : starEach (e :: es) X.env = (false, eval e X.env) :: starEach es X.env := by rfl) (hpl : (backTo pos (starEach es X.env)).any (·.1) = false := by rfl) :
    DE X W (.Call (.Name x p) (e :: es) [] pos) (eCall G (eArity ps.length A)) := by
  obtain ⟨fd, F, hb⟩ := F
  exact (pe_callS (E := fun σ => WE W σ) F hr hg hm hk hb (fun σ => passAt tk σ) ha hdb he hpl).mono fun _ _ _ h => rd_call' h
theorem de_call0 (F : FOk X.prog X.w X.K X.mg X.base k f ps G) (hr : Room k X.A) (tk : Takes X W) (hg : Gl X x) (hm : X.mg x = some (.ref f)) (hk : PySem.W.keepIn X.K (.ref f) = true)
    (hdb : (x == ("__debug__" : Str)) = false := by decide) : DE X W (.Call (.Name x p) [] [] pos) (eCall G (eArity ps.length eNil)) := by
  refine ⟨fun pins s σ H Q I h => ?_⟩
  refine wpAny_Call_Name_kw (ld_glob I hg hm ?_ hdb)
  have h := rd_call' h
  obtain ⟨w, ρ, M, m, er, p⟩ := h
  exact PySem.W.callWith_K0 I.kIn hk (F.run hr tk I (us := []) .nil (p.now m [] [] .nil fun _ z => nomatch z))
end
end DL

/-! DL7: what is walked; for, while, comprehensions -/
namespace DL
open PySem L2
/-- a loop's target: a name, or names in a tuple -/
inductive Tg where
  | one (i : Nat) | many (is : List Nat)
def gNames : List Nat → TGs
  | [] => gNil
  | i :: r => gCons (gName i) (gNames r)
def tgR (K : PySem.W.Frag) : Tg → TG
  | .one i => gName i
  | .many is => gTup K is.length (gNames is)
def DTg (X : Cx) (tg : Expr) (g : Tg) : Prop := PG X tg (tgR X.K g)
def setAll : List Nat → List D → Ev → Ev
  | i :: is, d :: ds, ρ => setAll is ds (ρ.set i (some (.d d)))
  | _, _, ρ => ρ
def setT : Tg → D → Ev → Option Ev
  | .one i, d, ρ => some (ρ.set i (some (.d d)))
  | .many is, .tupP _ ds, ρ => if ds.length = is.length then some (setAll is ds ρ) else none
  | .many _, _, _ => none
def setAllV : List Nat → List V → L2.St → L2.St
  | i :: is, d :: ds, ρ => setAllV is ds (ρ.set i (some d))
  | _, _, ρ => ρ
def Tg.slots : Tg → List Nat
  | .one i => [i]
  | .many is => is
section
variable {X : Cx} {W : WX} {σ : L2.St} {fs gs : List Addr} {w w2 : Wd} {H H2 : Hp} {M M2 : Mst}
theorem gNames_run {Q : L2.St → Hp → Prop} : ∀ (is : List Nat) (vs : List V) (σ : L2.St), vs.length = is.length → Q (setAllV is vs σ) H → gNames is vs σ H Q
  | [], [], σ, _, q => ⟨rfl, q⟩
  | i :: is, v :: vs, σ, h, q => ⟨v, vs, rfl, gNames_run is vs _ (by simpa using h) q⟩
  | [], v :: vs, σ, h, _ => by simp at h
  | i :: is, [], σ, h, _ => by simp at h
theorem er_all : ∀ (is : List Nat) {vs : List V} {ds : List D} {σ : L2.St} {ρ : Ev}, DpL X.K X.mg w.F vs ds → ER X.K X.mg w M σ ρ → ER X.K X.mg w M (setAllV is vs σ) (setAll is ds ρ)
  | [], _, _, _, _, _, er => by unfold setAllV setAll; exact er
  | i :: is, _, _, _, _, .nil, er => by unfold setAllV setAll; exact er
  | i :: is, _, _, _, _, .cons h r, er => er_all is r (er.set (x := .d _) h)
theorem wipe_set {i : Nat} {v : Option V} {σ : L2.St} : ∀ {vs : List Nat}, i ∈ vs → L2.wipe (σ.set i v) vs = L2.wipe σ vs
  | j :: vs, h => by
    unfold L2.wipe
    by_cases e : i = j
    · subst e
      by_cases hm : i ∈ vs
      · rw [wipe_set hm]
      · have : ∀ (vs : List Nat) (σ : L2.St), L2.wipe (σ.set i v) vs = (L2.wipe σ vs).set i v ∨ L2.wipe (σ.set i v) vs = L2.wipe σ vs := by
          intro vs
          induction vs with
          | nil => intro σ; exact .inl rfl
          | cons k ks ih =>
            intro σ
            unfold L2.wipe
            rcases ih σ with z | z
            · rw [z]
              by_cases e : i = k
              · subst e; right; rw [List.set_set]
              · left; rw [List.set_comm _ _ e]
            · right; rw [z]
        rcases this vs σ with z | z
        · rw [z, List.set_set]
        · rw [z]
    · have hm : i ∈ vs := by
        rcases List.mem_cons.mp h with z | z
        · exact absurd z e
        · exact z
      rw [wipe_set hm]
theorem wipe_all : ∀ (is : List Nat) (ws : List V) {σ : L2.St} {vs : List Nat}, (∀ i ∈ is, i ∈ vs) → L2.wipe (setAllV is ws σ) vs = L2.wipe σ vs
  | [], _, _, _, _ => by unfold setAllV; rfl
  | _ :: _, [], _, _, _ => by unfold setAllV; rfl
  | i :: is, v :: ws, σ, vs, h => by
    unfold setAllV
    rw [wipe_all is ws fun j hj => h j (List.mem_cons_of_mem _ hj)]
    exact wipe_set (h i List.mem_cons_self)
/-- a target takes its item -/
theorem tg_run {g : Tg} {d : D} {ρ ρ' : Ev} {v : V} {Q : L2.St → Hp → Prop} (m : MR X.K X.mg w H M) (er : ER X.K X.mg w M σ ρ) (hv : Dp X.K X.mg w.F v d) (h : setT g d ρ = some ρ')
    (k : ∀ σ', ER X.K X.mg w M σ' ρ' → (∀ vs : List Nat, (∀ i ∈ g.slots, i ∈ vs) → L2.wipe σ' vs = L2.wipe σ vs) → Q σ' H) : tgR X.K g v σ H Q := by
  cases g with
  | one i =>
    cases h
    exact k _ (er.set (x := .d _) hv) fun vs hi => wipe_set (hi i (by simp [Tg.slots]))
  | many is =>
    unfold setT at h
    split at h
    · rename_i e; cases e
    · rename_i is' ds e
      cases e
      split at h
      · rename_i hl
        cases h
        cases hv with
        | @tupP _ a vs _ h l => exact ⟨a, vs, rfl, Same.seqT m.sub h.1, by rw [l.length]; exact hl, gNames_run is vs σ (by rw [l.length]; exact hl) (k _ (er_all is l er) fun us hi => wipe_all is vs hi)⟩
      · cases h
    · cases h
end

/-- an iterator that hands out the items -/
structure ItOk (K : PySem.W.Frag) (mg : Mg) (F : Hp) (J : It) (items : List D) : Prop where
  go : ∀ (i : Nat) (w : Wd) (H : Hp) (M : Mst) (d : D), MR K mg w H M → Same F w.F → items[i]? = some d → J.go i H ∧ ∀ x H', J.yld i H x H' → ∃ w', Ext [] w H M w' H' M ∧ MR K mg w' H' M ∧ Dp K mg w'.F x d
  stop : ∀ (i : Nat) (w : Wd) (H : Hp) (M : Mst), MR K mg w H M → Same F w.F → items.length ≤ i → J.stop i H
abbrev DenI := Ev → Mst → Out (List D)
def rdI (X : Cx) (W : WX) (G : DenI) : TI := fun σ H R => ∃ w ρ M, MR X.K X.mg w H M ∧ ER X.K X.mg w M σ ρ ∧ Post X W σ [] w H M (G ρ M) (fun w' H' M' items => ∀ J, ItOk X.K X.mg w'.F J items → R J H')
def DI (X : Cx) (W : WX) (tg iter : Expr) (G : DenI) : Prop := PI X tg iter (rdI X W G)
theorem _root_.L2.PI.mono {X : Cx} {tg e : Expr} {t t' : TI} (h : PI X tg e t) (k : ∀ σ H Q, t' σ H Q → t σ H Q) : PI X tg e t' := ⟨fun pins s σ H Q I q => h.run pins s σ H Q I (k _ _ _ q)⟩
theorem _root_.L2.PI.or {X : Cx} {tg e : Expr} {t t' : TI} (h : PI X tg e t) (h' : PI X tg e t') : PI X tg e (fun σ H Q => t σ H Q ∨ t' σ H Q) := ⟨fun pins s σ H Q I q => q.elim (h.run pins s σ H Q I) (h'.run pins s σ H Q I)⟩

/-! ### for -/
def forS (g : Tg) (b : DenS) : List D → Ev → Mst → Option (Fl × Mst)
  | [], ρ, M => some (.nx ρ, M)
  | d :: ds, ρ, M => match setT g d ρ with
    | none => none
    | some ρ1 => match b ρ1 M with
      | some (.nx ρ2, M2) => forS g b ds ρ2 M2
      | some (.ct ρ2, M2) => forS g b ds ρ2 M2
      | some (.bk ρ2, M2) => some (.nx ρ2, M2)
      | o => o
def sFor (G : DenI) (g : Tg) (b : DenS) : DenS := fun ρ M => bindS (G ρ M) ρ fun items M1 => forS g b items ρ M1
section
variable {X : Cx} {W : WX} {σ : L2.St} {fs gs : List Addr} {w w2 : Wd} {H H2 : Hp} {M M2 : Mst} {Dn : Ends}
variable {tg iter e : Expr} {G : DenI} {g : Tg} {b : DenS} {pos : Pos} {bd : List Stmt}
theorem ds_for (hp : PassesOwn (model X.prog X.w) X.A X.env X.xe) (hc : X.calm = true) (hi : DI X W tg iter G) (hg : DTg X tg g) (hb : DB X W bd b) (hs : ∀ x, foldedSetIterable iter X.env x = pure x := by intro _; rfl) :
    DS X W (.For tg iter bd [] pos) (sFor G g b) := (ps_for hp hc hi hg hb hs).mono fun Dn σ H h => by
  obtain ⟨w, ρ, M, m, er, p⟩ := h
  refine ⟨w, ρ, M, m, er, (p.bindF er).imp fun w1 H1 M1 items _ _ z => ?_⟩
  obtain ⟨e1, m1, p1⟩ := z
  intro J ok
  replace p1 := p1 [] fun _ z => nomatch z
  refine ⟨fun i mm σ H => i ≤ items.length ∧ mm = items.length - i ∧ ∃ w ρ M, MR X.K X.mg w H M ∧ ER X.K X.mg w M σ ρ ∧ Same w1.F w.F ∧ PostS X W [] w H M (forS g b (items.drop i) ρ M) Dn,
    ⟨_, Nat.zero_le _, rfl, w1, ρ, M1, m1, er.stay e1, Same.refl _, p1⟩, ?_⟩
  rintro i mm σ H ⟨hi, rfl, w, ρ, M, m, er, sF, p⟩
  by_cases hl : i < items.length
  · obtain ⟨d, hd⟩ : ∃ d, items[i]? = some d := ⟨items[i], List.getElem?_eq_getElem hl⟩
    obtain ⟨g1, g2⟩ := ok.go i w H M d m sF hd
    have ed : items.drop i = d :: items.drop (i + 1) := by
      rw [List.drop_eq_getElem_cons hl]
      rw [List.getElem?_eq_getElem hl] at hd
      rw [Option.some.inj hd]
    rw [ed] at p
    refine .inr ⟨g1, _, fun σ' H' q => q, fun x H' y => ?_⟩
    · obtain ⟨w', e', m', hx⟩ := g2 x H' y
      unfold forS at p
      cases z : setT g d ρ with
      | none => rw [z] at p; exact p.elim
      | some ρ1 =>
        rw [z] at p
        refine tg_run m' (er.stay e') hx z fun σ2 er2 _ => ⟨w', ρ1, M, m', er2, ?_⟩
        have p : PostS X W [] w' H' M (match b ρ1 M with
          | some (.nx ρ2, M2) => forS g b (items.drop (i + 1)) ρ2 M2
          | some (.ct ρ2, M2) => forS g b (items.drop (i + 1)) ρ2 M2
          | some (.bk ρ2, M2) => some (.nx ρ2, M2)
          | o => o) Dn := PostS.from p e' fun _ z => nomatch z
        cases z2 : b ρ1 M with
        | none => rw [z2] at p; exact p
        | some q =>
          obtain ⟨f, M2⟩ := q
          rw [z2] at p
          cases f with
          | nx ρ2 => exact fun w3 H3 σ3 e3 m3 er3 => ⟨_, by omega, hl, rfl, w3, ρ2, M2, m3, er3, (sF.trans e'.F).trans e3.F, PostS.from p e3 fun _ z => nomatch z⟩
          | ct ρ2 => exact fun w3 H3 σ3 e3 m3 er3 => ⟨_, by omega, hl, rfl, w3, ρ2, M2, m3, er3, (sF.trans e'.F).trans e3.F, PostS.from p e3 fun _ z => nomatch z⟩
          | bk ρ2 => exact fun w3 H3 σ3 e3 m3 er3 => p w3 H3 σ3 e3 m3 er3
          | rt r => exact p
          | xc x ρ2 => exact p
  · have e : i = items.length := by omega
    subst e
    rw [List.drop_length] at p
    exact .inl ⟨ok.stop _ w H M m sF (Nat.le_refl _), p.nx m er⟩

/-! ### while -/
def whileS (c : DenT) (b : DenS) : Nat → Ev → Mst → Option (Fl × Mst)
  | 0, _, _ => none
  | n + 1, ρ, M => bindS (c ρ M) ρ fun k M1 => if k = true then (match b ρ M1 with
      | some (.nx ρ2, M2) => whileS c b n ρ2 M2
      | some (.ct ρ2, M2) => whileS c b n ρ2 M2
      | some (.bk ρ2, M2) => some (.nx ρ2, M2)
      | o => o) else some (.nx ρ, M1)
def sWhile (n : Nat) (c : DenT) (b : DenS) : DenS := fun ρ M => whileS c b n ρ M
theorem ds_while (n : Nat) {ce : Expr} {c : DenT} (hp : PassesOwn (model X.prog X.w) X.A X.env X.xe) (hc : DT X W ce c) (hb : DB X W bd b) : DS X W (.While ce bd [] pos) (sWhile n c b) := (ps_while hp hc hb).mono fun Dn σ H h => by
  obtain ⟨w, ρ, M, m, er, p⟩ := h
  refine ⟨fun n σ H => ∃ w ρ M, MR X.K X.mg w H M ∧ ER X.K X.mg w M σ ρ ∧ PostS X W [] w H M (whileS c b n ρ M) Dn, ⟨n, w, ρ, M, m, er, p⟩, ?_⟩
  rintro n σ H ⟨w, ρ, M, m, er, p⟩
  cases n with
  | zero => exact p.elim
  | succ n =>
    refine ⟨w, ρ, M, m, er, (PostS.bindF p er).imp fun w1 H1 M1 k _ _ z => ?_⟩
    obtain ⟨e1, m1, p1⟩ := z
    replace p1 := p1 [] fun _ z => nomatch z
    cases k with
    | false => rw [if_neg Bool.false_ne_true] at p1 ⊢; exact p1.nx m1 (er.stay e1)
    | true =>
      rw [if_pos rfl] at p1 ⊢
      refine ⟨_, fun σ' H' q => q, ?_⟩
      · refine ⟨w1, ρ, M1, m1, er.stay e1, ?_⟩
        cases z2 : b ρ M1 with
        | none => rw [z2] at p1; exact p1
        | some q =>
          obtain ⟨f, M2⟩ := q
          rw [z2] at p1
          cases f with
          | nx ρ2 => exact fun w3 H3 σ3 e3 m3 er3 => ⟨n, Nat.lt_succ_self _, w3, ρ2, M2, m3, er3, PostS.from p1 e3 fun _ z => nomatch z⟩
          | ct ρ2 => exact fun w3 H3 σ3 e3 m3 er3 => ⟨n, Nat.lt_succ_self _, w3, ρ2, M2, m3, er3, PostS.from p1 e3 fun _ z => nomatch z⟩
          | bk ρ2 => exact fun w3 H3 σ3 e3 m3 er3 => p1 w3 H3 σ3 e3 m3 er3
          | rt r => exact p1
          | xc x ρ2 => exact p1
end
end DL

/-! DL8: comprehensions -/
namespace DL
open PySem L2
def noX {α : Type} : Out α → Out α
  | .ok a M => .ok a M
  | _ => .bad
def treeT (M : Mst) : R → T
  | .t x => x
  | .h k => .d (frz (M.getD k (.d .non)))
def lcL (g : Tg) (own : List Nat) (c : DenT) (f : Den) (ρ : Ev) : List D → List T → Mst → Out (List T)
  | [], acc, M => .ok acc M
  | d :: ds, acc, M => match setT g d (wipeE ρ own) with
    | none => .bad
    | some ρ1 => (noX (c ρ1 M)).bind fun k M2 => if k = true then (noX (f ρ1 M2)).bind fun r M3 => if acc.length < 1000000 then lcL g own c f ρ ds (acc ++ [treeT M3 r]) (frzM M3 r) else .bad
      else lcL g own c f ρ ds acc M2
def lcL2 (g : Tg) (own : List Nat) (c : DenT) (G1 : DenI) (g1 : Tg) (own1 : List Nat) (c1 : DenT) (f : Den) (ρ : Ev) : List D → List T → Mst → Out (List T)
  | [], acc, M => .ok acc M
  | d :: ds, acc, M => match setT g d (wipeE ρ own) with
    | none => .bad
    | some ρ1 => (noX (c ρ1 M)).bind fun k M2 => if k = true then (noX (G1 ρ1 M2)).bind fun items M3 => (lcL g1 own1 c1 f ρ1 items acc M3).bind fun acc' M4 => lcL2 g own c G1 g1 own1 c1 f ρ ds acc' M4
      else lcL2 g own c G1 g1 own1 c1 f ρ ds acc M2
def eLc (G : DenI) (g : Tg) (own : List Nat) (c : DenT) (f : Den) : Den := fun ρ M => (G ρ M).bind fun items M1 => (lcL g own c f ρ items [] M1).bind fun ts M2 => .ok (.t (.lst ts)) M2
def eLc2 (G : DenI) (g : Tg) (own : List Nat) (c : DenT) (G1 : DenI) (g1 : Tg) (own1 : List Nat) (c1 : DenT) (f : Den) : Den := fun ρ M => (G ρ M).bind fun items M1 => (lcL2 g own c G1 g1 own1 c1 f ρ items [] M1).bind fun ts M2 => .ok (.t (.lst ts)) M2
abbrev W0 : WX := fun _ _ _ _ => False
def tYesD : DenT := fun _ M => .ok true M
theorem Out.bind_assoc {α β γ : Type} (o : Out α) (k : α → Mst → Out β) (l : β → Mst → Out γ) : (o.bind k).bind l = o.bind fun a M => (k a M).bind l := by cases o <;> rfl
section
variable {X : Cx} {W : WX} {σ : L2.St} {fs gs : List Addr} {w w2 : Wd} {H H2 : Hp} {M M2 : Mst} {α β : Type}
/-- the list so far, at L, and what is left to do -/
def LcS (X : Cx) (W : WX) (w0 : Wd) (H0 : Hp) (M0 : Mst) (σ : L2.St) (ρ : Ev) (F1 : Hp) (L : Addr) (C : Wd → Hp → Mst → R → Prop) (kont : Mst → Out R) (acc : List T) (H : Hp) : Prop :=
  ∃ w M vs fp, MR X.K X.mg w H M ∧ ER X.K X.mg w M σ ρ ∧ Same F1 w.F ∧ H L = some (.lst vs) ∧ w.F L = none ∧ (∀ k, k < M.length → L ∉ w.φ k) ∧ TRL X.K X.mg w.F H vs acc fp ∧ (L :: fp).Nodup ∧ (∀ a ∈ fp, ∀ k, k < M.length → a ∉ w.φ k) ∧ Ext [] w0 H0 M0 w H M ∧ (∀ a ∈ L :: fp, Pm [] w0 H0 M0 a) ∧ Post X W σ (L :: fp) w H M (kont M) C
theorem MR.put {a : Addr} {o : HO} (m : MR X.K X.mg w H M) (hF : w.F a = none) (hn : ∀ k, k < M.length → a ∉ w.φ k) : MR X.K X.mg w (upd H a o) M := by
  refine ⟨fun q u e => ?_, fun k t e => ?_, m.dis⟩
  · have hq : q ≠ a := fun z => by rw [z, hF] at e; cases e
    rw [upd_ne hq]; exact m.sub q u e
  · obtain ⟨h1, h2⟩ := m.obj k t e
    have hk : k < M.length := (List.getElem?_eq_some_iff.mp e).1
    exact ⟨h1.stay (Same.refl _) fun q hq => ⟨(h1.fp q hq).1, fun u hu => by
      have ne : q ≠ a := fun z => hn k hk (by rw [← z]; exact hq)
      rw [upd_ne ne]; exact hu⟩, h2⟩
theorem Ext.put {a : Addr} {o : HO} (h : a ∈ fs) : Ext fs w H M w (upd H a o) M where
  F := Same.refl _
  len := Nat.le_refl _
  al := fun _ _ => rfl
  keep := fun q u e n => by
    have ne : q ≠ a := fun z => n (.inr (.inr (by rw [z]; exact h)))
    rw [upd_ne ne]; exact e
  ph := fun k hk q hq => .inr (.inl ⟨k, hk, hq⟩)
  gr := fun _ h => .inl h
  there := fun q e => by
    by_cases z : q = a
    · rw [z, upd_same] at e; cases e
    · rw [upd_ne z] at e; exact e
/-- a held list stays -/
theorem held {L : Addr} {vs : List V} {acc : List T} {fp : List Addr} {w' : Wd} {H' : Hp} {M' : Mst} (e : Ext [] w H M w' H' M') (hL : H L = some (.lst vs)) (hF : w.F L = none) (hn : ∀ k, k < M.length → L ∉ w.φ k) (q : TRL X.K X.mg w.F H vs acc fp) (dj : ∀ a ∈ fp, ∀ k, k < M.length → a ∉ w.φ k) :
    H' L = some (.lst vs) ∧ w'.F L = none ∧ (∀ k, k < M'.length → L ∉ w'.φ k) ∧ TRL X.K X.mg w'.F H' vs acc fp ∧ ∀ a ∈ fp, ∀ k, k < M'.length → a ∉ w'.φ k := by
  have np : ∀ a o, H a = some o → w.F a = none → (∀ k, k < M.length → a ∉ w.φ k) → ¬ Pm [] w H M a := fun a o h1 _ h2 z => by
    rcases z with z | ⟨j, hj, z⟩ | z
    · rw [h1] at z; cases z
    · exact h2 j hj z
    · cases z
  have nf : ∀ a o, H a = some o → w.F a = none → (∀ k, k < M.length → a ∉ w.φ k) → w'.F a = none := fun a o h1 h0 h2 => by
    cases z : w'.F a with
    | none => rfl
    | some u =>
      rcases e.gr a (by rw [z]; exact fun z => nomatch z) with z | z
      · exact absurd h0 z
      · exact absurd z (np a o h1 h0 h2)
  refine ⟨e.keep L _ hL (np L _ hL hF hn), nf L _ hL hF hn, fun k hk z => np L _ hL hF hn (e.ph k hk L z), q.stay e.F fun a ha => ?_, fun a ha k hk z => ?_⟩
  · obtain ⟨h1, o, h2⟩ := q.fp a ha
    exact ⟨nf a o h2 h1 (dj a ha), fun u hu => e.keep a u hu (np a u hu h1 (dj a ha))⟩
  · obtain ⟨h1, o, h2⟩ := q.fp a ha
    exact np a o h2 h1 (dj a ha) (e.ph k hk a z)
theorem Post.unX {o : Out α} {C : Wd → Hp → Mst → α → Prop} {σ' : L2.St} {W' : WX} (h : Post X W σ fs w H M (noX o) C) : Post X W' σ' fs w H M o C := by
  cases o with
  | ok a M' => exact h
  | exc x M' => exact h.elim
  | bad => exact h
theorem Post.sig {o : Out α} {C : Wd → Hp → Mst → α → Prop} {σ' : L2.St} {W' : WX} (h : Post X W σ fs w H M (noX o) C) : Post X W' σ' fs w H M (noX o) C := by
  cases o with
  | ok a M' => exact h
  | exc x M' => exact h.elim
  | bad => exact h
theorem trl_app : ∀ {vs ws : List V} {ts us : List T} {f1 f2 : List Addr} {F : Hp}, TRL X.K X.mg F H vs ts f1 → TRL X.K X.mg F H ws us f2 → TRL X.K X.mg F H (vs ++ ws) (ts ++ us) (f1 ++ f2)
  | _, _, _, _, _, _, _, .nil, s => s
  | _, _, _, _, _, _, _, .cons h r, s => by rw [List.append_assoc]; exact .cons h (trl_app r s)
theorem treeT_ok {v : V} {r : R} {fp : List Addr} (m : MR X.K X.mg w H M) (h : RR X.K X.mg w H M v r fp) : ∃ w', Ext [] w H M w' H (frzM M r) ∧ MR X.K X.mg w' H (frzM M r) ∧ TR X.K X.mg w'.F H v (treeT M r) fp ∧ fp.Nodup ∧ ∀ a ∈ fp, ∀ k, k < (frzM M r).length → a ∉ w'.φ k := by
  cases r with
  | t x => exact ⟨w, Ext.refl m, m, h.1, h.2.1, h.2.2⟩
  | h k =>
    obtain ⟨w', e, m', d, _⟩ := settle m h
    obtain ⟨_, _, rfl⟩ := h
    exact ⟨w', e, m', .d d, List.nodup_nil, fun _ z => nomatch z⟩
theorem wipe_get (σ : L2.St) : ∀ (vs : List Nat) (i : Nat), (L2.wipe σ vs)[i]? = if i ∈ vs then (σ[i]?).map (fun _ => none) else σ[i]?
  | [], i => by simp [L2.wipe]
  | v :: vs, i => by
    unfold L2.wipe
    rw [List.getElem?_set, wipe_get σ vs i]
    have hl : (L2.wipe σ vs).length = σ.length := L2.wipe_length σ vs
    by_cases e : v = i
    · subst e
      rw [if_pos rfl, if_pos List.mem_cons_self, hl]
      by_cases h : v < σ.length
      · rw [if_pos h, List.getElem?_eq_getElem h]; rfl
      · rw [if_neg h, List.getElem?_eq_none (by omega)]; rfl
    · rw [if_neg e]
      by_cases h : i ∈ vs
      · rw [if_pos h, if_pos (List.mem_cons_of_mem _ h)]
      · rw [if_neg h, if_neg (fun z => (List.mem_cons.mp z).elim (fun q => e q.symm) h)]
theorem wipe_wipe (σ : L2.St) (vs : List Nat) : L2.wipe (L2.wipe σ vs) vs = L2.wipe σ vs := by
  apply List.ext_getElem?
  intro i
  rw [wipe_get, wipe_get]
  split
  · cases σ[i]? <;> rfl
  · rfl
/-- THE LOOP of a comprehension over an iterator -/
theorem lc_loop {J : It} {items : List D} {F1 : Hp} {L : Addr} {C : Wd → Hp → Mst → R → Prop} {g : Tg} {own : List Nat} {c : DenT} {f : Den} {ρ : Ev} {acc : List T} {w0 : Wd} {H0 Hs : Hp} {M0 : Mst} {kont : List T → Mst → Out R} (hsl : ∀ i ∈ g.slots, i ∈ own) (ok : ItOk X.K X.mg F1 J items)
    (st : LcS X W w0 H0 M0 σ ρ F1 L C (fun M => (lcL g own c f ρ items acc M).bind kont) acc Hs) {Fin : Hp → Prop} (hF : ∀ acc' H, LcS X W w0 H0 M0 σ ρ F1 L C (kont acc') acc' H → Fin H) :
    ∃ Wf : Nat → Nat → Hp → Prop, (∃ m, Wf 0 m Hs) ∧ ∀ i m H, Wf i m H → (J.stop i H ∧ Fin H) ∨ (J.go i H ∧ ∃ Nx : Hp → Prop, (∀ H', Nx H' → ∃ m', m' < m ∧ Wf (i + 1) m' H') ∧
      ∀ x H', J.yld i H x H' → tgR X.K g x (L2.wipe σ own) H' fun σ2 H2 => L2.wipe σ2 own = L2.wipe σ own ∧ rdT X W0 c σ2 H2 fun b H3 => if b = true then rdE X W0 f σ2 H3 fun y H4 => ∃ a, H4 L = some (.lst a) ∧ a.length < sizeLine ∧ Nx (upd H4 L (.lst (a ++ [y]))) else Nx H3) := by
  refine ⟨fun i m H => i ≤ items.length ∧ m = items.length - i ∧ ∃ acc, LcS X W w0 H0 M0 σ ρ F1 L C (fun M => (lcL g own c f ρ (items.drop i) acc M).bind kont) acc H, ⟨_, Nat.zero_le _, rfl, acc, st⟩, ?_⟩
  rintro i mm H ⟨hi, rfl, acc, w, M, vs, fp, m, er, sF, hL, hFL, hnL, q, nd, dj, e0, hp0, p⟩
  by_cases hl : i < items.length
  · obtain ⟨d, hd⟩ : ∃ d, items[i]? = some d := ⟨items[i], List.getElem?_eq_getElem hl⟩
    obtain ⟨g1, g2⟩ := ok.go i w H M d m sF hd
    have ed : items.drop i = d :: items.drop (i + 1) := by
      rw [List.drop_eq_getElem_cons hl]
      rw [List.getElem?_eq_getElem hl] at hd
      rw [Option.some.inj hd]
    rw [ed] at p
    refine .inr ⟨g1, _, fun H' q => q, fun x H' y => ?_⟩
    obtain ⟨w', e', m', hx⟩ := g2 x H' y
    obtain ⟨hL', hFL', hnL', q', dj'⟩ := held e' hL hFL hnL q dj
    unfold lcL at p
    cases z : setT g d (wipeE ρ own) with
    | none => rw [z] at p; exact p.elim
    | some ρ1 =>
      rw [z] at p
      refine tg_run m' ((er.stay e').wipe own) hx z fun σ2 er2 hw => ⟨(hw own hsl).trans (wipe_wipe σ own), w', ρ1, M, m', er2, ?_⟩
      have p : Post X W σ (L :: fp) w' H' M (((noX (c ρ1 M)).bind fun k M2 => if k = true then (noX (f ρ1 M2)).bind fun r M3 => if acc.length < 1000000 then lcL g own c f ρ (items.drop (i + 1)) (acc ++ [treeT M3 r]) (frzM M3 r) else .bad
        else lcL g own c f ρ (items.drop (i + 1)) acc M2).bind kont) C := Post.from p (e'.mono fun _ z => nomatch z) fun a ha => .inr (.inr ha)
      rw [Out.bind_assoc] at p
      refine Post.unX (p.bindF.imp fun w2 H2 M2 k _ _ z => ?_)
      obtain ⟨e2, m2, p2⟩ := z
      obtain ⟨hL2, hFL2, hnL2, q2, dj2⟩ := held e2 hL' hFL' hnL' q' dj'
      cases k with
      | false =>
        rw [if_neg Bool.false_ne_true]
        refine ⟨_, by omega, hl, rfl, acc, w2, M2, vs, fp, m2, (er.stay e').stay e2, (sF.trans e'.F).trans e2.F, hL2, hFL2, hnL2, q2, nd, dj2, (e0.trans0 e').trans0 e2, hp0, ?_⟩
        have := p2 (L :: fp) fun a ha => .inr (.inr ha)
        rw [if_neg Bool.false_ne_true] at this
        exact this
      | true =>
        rw [if_pos rfl]
        have p3 := p2 (L :: fp) fun a ha => .inr (.inr ha)
        rw [if_pos rfl, Out.bind_assoc] at p3
        refine ⟨w2, ρ1, M2, m2, er2.stay e2, Post.unX (p3.bindF.imp fun w3 H3 M3 r _ _ z => ?_)⟩
        obtain ⟨e3, m3, p4⟩ := z
        intro v f3 q3 hf3
        obtain ⟨hL3, hFL3, hnL3, q3', dj3⟩ := held e3 hL2 hFL2 hnL2 q2 dj2
        have dv : ∀ a ∈ f3, a ∉ L :: fp := fun a ha hb => by
          have : H2 a ≠ none ∧ ∀ k, k < M2.length → a ∉ w2.φ k := by
            rcases List.mem_cons.mp hb with rfl | hb
            · exact ⟨by rw [hL2]; exact (fun z => nomatch z), hnL2⟩
            · obtain ⟨_, o, h2⟩ := q2.fp a hb
              exact ⟨by rw [h2]; exact (fun z => nomatch z), dj2 a hb⟩
          rcases hf3 a ha with z | ⟨j, hj, z⟩ | z
          · exact this.1 z
          · exact this.2 j hj z
          · cases z
        have p5 := p4 (L :: (fp ++ f3)) fun a ha => by
          rcases List.mem_cons.mp ha with rfl | ha
          · exact .inr (.inr List.mem_cons_self)
          · rcases List.mem_append.mp ha with ha | ha
            · exact .inr (.inr (List.mem_cons_of_mem _ ha))
            · exact pm_nil (hf3 a ha) _
        split at p5
        · rename_i hacc
          have hlen := q3'.length
          refine ⟨vs, hL3, by rw [hlen]; exact Nat.lt_of_lt_of_le hacc cap_le, ?_⟩
          obtain ⟨w4, e4, m4, t4, nd4, dj4⟩ := treeT_ok m3 q3
          obtain ⟨hL4, hFL4, hnL4, q4, dj4'⟩ := held e4 hL3 hFL3 hnL3 q3' dj3
          have ndfp := (List.nodup_cons.mp nd)
          have hu : ∀ a ∈ fp ++ f3, a ≠ L := fun a ha z => by
            subst z
            rcases List.mem_append.mp ha with ha | ha
            · exact ndfp.1 ha
            · exact dv _ ha List.mem_cons_self
          have tall := trl_app q4 (.cons t4 .nil : TRL X.K X.mg w4.F H3 [v] [treeT M3 r] (f3 ++ []))
          rw [List.append_nil] at tall
          refine ⟨_, by omega, hl, rfl, acc ++ [treeT M3 r], w4, frzM M3 r, vs ++ [v], fp ++ f3, m4.put hFL4 hnL4, (((er.stay e').stay e2).stay e3).stay e4, (((sF.trans e'.F).trans e2.F).trans e3.F).trans e4.F, upd_same, hFL4, hnL4, ?_, ?_, ?_, ?_, ?_, ?_⟩
          · exact tall.stay (Same.refl _) fun a ha => ⟨(tall.fp a ha).1, fun o ho => by rw [upd_ne (hu a ha)]; exact ho⟩
          · refine List.nodup_cons.mpr ⟨fun z => hu L z rfl, List.nodup_append.mpr ⟨ndfp.2, nd4, fun a ha b hb z => ?_⟩⟩
            subst z
            exact dv a hb (List.mem_cons_of_mem _ ha)
          · intro a ha
            rcases List.mem_append.mp ha with ha | ha
            · exact dj4' a ha
            · exact dj4 a ha
          · exact ((((e0.trans0 e').trans0 e2).trans0 e3).trans0 e4).trans (Ext.put (fs := [L]) List.mem_cons_self) fun a ha => by rw [List.mem_singleton.mp ha]; exact hp0 L List.mem_cons_self
          · intro a ha
            rcases List.mem_cons.mp ha with rfl | ha
            · exact hp0 _ List.mem_cons_self
            · rcases List.mem_append.mp ha with ha | ha
              · exact hp0 a (List.mem_cons_of_mem _ ha)
              · exact ((e0.trans0 e').trans0 e2).pm (gs := []) (fun _ z => nomatch z) (hf3 a ha)
          · exact Post.from p5 ((e4.mono fun _ z => nomatch z).trans (Ext.put (fs := [L]) List.mem_cons_self) fun a ha => .inr (.inr (by rw [List.mem_singleton.mp ha]; exact List.mem_cons_self))) fun a ha => .inr (.inr ha)
        · exact p5.elim
  · have e : i = items.length := by omega
    subst e
    rw [List.drop_length] at p
    exact .inl ⟨ok.stop _ w H M m sF (Nat.le_refl _), hF acc H ⟨w, M, vs, fp, m, er, sF, hL, hFL, hnL, q, nd, dj, e0, hp0, p⟩⟩
/-- the start -/
theorem LcS.new {ρ : Ev} {L : Addr} {C : Wd → Hp → Mst → R → Prop} {kont : Mst → Out R} (m : MR X.K X.mg w H M) (er : ER X.K X.mg w M σ ρ) (hL : H L = none) (p : Post X W σ [] w H M (kont M) C) : LcS X W w H M σ ρ w.F L C kont [] (upd H L (.lst [])) := by
  have nf : w.F L = none := by
    cases z : w.F L with
    | none => rfl
    | some o => rw [m.sub L o z] at hL; cases hL
  refine ⟨w, M, [], [], m.new hL, er, Same.refl _, upd_same, nf, fun k hk z => ?_, .nil, by simp, (fun _ z => nomatch z), Ext.new m hL, fun a ha => .inl (by rw [List.mem_singleton.mp ha]; exact hL), Post.from p (Ext.new m hL) fun a ha => .inl (by rw [List.mem_singleton.mp ha]; exact hL)⟩
  obtain ⟨x, hx⟩ : ∃ x, M[k]? = some x := ⟨M[k], List.getElem?_eq_getElem hk⟩
  obtain ⟨_, o, e⟩ := (m.obj k x hx).1.fp _ z
  rw [e] at hL; cases hL
/-- the end -/
theorem LcS.done {ρ : Ev} {F1 : Hp} {L : Addr} {w0 w1 : Wd} {H0 H1 : Hp} {M0 M1 : Mst} {Q : VK} {acc : List T} (e1 : Ext [] w0 H0 M0 w1 H1 M1) (h : LcS X W w1 H1 M1 σ ρ F1 L (CE X [] w0 H0 M0 Q) (fun M => .ok (.t (.lst acc)) M) acc H) : Q (.ref L) H := by
  obtain ⟨w, M, vs, fp, m, er, sF, hL, hFL, hnL, q, nd, dj, e0, hp0, p⟩ := h
  refine (p.now m) (.ref L) (L :: fp) ⟨.lst hL hFL q, nd, fun a ha k hk => ?_⟩ fun a ha => e1.pm (gs := []) (fun _ z => nomatch z) (hp0 a ha)
  rcases List.mem_cons.mp ha with rfl | ha
  · exact hnL k hk
  · exact dj a ha k hk
variable {G G1 : DenI} {g g1 : Tg} {own own1 : List Nat} {c c1 : DenT} {f : Den}
theorem rd_lc {Q : VK} (hsl : ∀ i ∈ g.slots, i ∈ own) (h : rdE X W (eLc G g own c f) σ H Q) : tLc (rdI X W G) (tgR X.K g) (rdT X W0 c) (rdE X W0 f) own σ H Q := by
  obtain ⟨w, ρ, M, m, er, p⟩ := h
  refine ⟨w, ρ, M, m, er, p.bindF.imp fun w1 H1 M1 items _ _ z => ?_⟩
  obtain ⟨e1, m1, p1⟩ := z
  intro J ok L hL
  have p2 := p1 [] fun _ z => nomatch z
  have st := LcS.new (kont := fun M => (lcL g own c f ρ items [] M).bind fun ts M2 => .ok (.t (.lst ts)) M2) m1 (er.stay e1) hL p2
  exact lc_loop hsl ok st fun acc' H h => LcS.done e1 h
theorem Post.resig {o : Out α} {C : Wd → Hp → Mst → α → Prop} {σ' : L2.St} {W' : WX} (h : Post X W σ fs w H M o C) (hn : ∀ e M', o ≠ .exc e M') : Post X W' σ' fs w H M o C := by
  cases o with
  | ok a M' => exact h
  | exc x M' => exact absurd rfl (hn x M')
  | bad => exact h
theorem noX_noexc (o : Out α) : ∀ e M', noX o ≠ .exc e M' := fun e M' z => by cases o <;> cases z
theorem bind_noexc {o : Out α} {k : α → Mst → Out β} (h : ∀ e M', o ≠ .exc e M') (hk : ∀ a M e M', k a M ≠ .exc e M') : ∀ e M', o.bind k ≠ .exc e M' := fun e M' z => by
  cases o with
  | ok a M => exact hk a M e M' z
  | exc x M => exact h x M rfl
  | bad => cases z
theorem lcL_noexc {ρ : Ev} : ∀ (items : List D) (acc : List T) (M : Mst) (e : Exc) (M' : Mst), lcL g own c f ρ items acc M ≠ .exc e M'
  | [], acc, M, e, M' => fun z => by unfold lcL at z; cases z
  | d :: ds, acc, M, e, M' => by
    unfold lcL
    split
    · exact fun z => nomatch z
    · refine bind_noexc (noX_noexc _) (fun k M2 e M' => ?_) e M'
      split
      · refine bind_noexc (noX_noexc _) (fun r M3 e M' => ?_) e M'
        split
        · exact lcL_noexc ds _ _ e M'
        · exact fun z => nomatch z
      · exact lcL_noexc ds _ _ e M'
theorem lcL2_noexc' {ρ : Ev} : ∀ (items : List D) (acc : List T) (M : Mst) (e : Exc) (M' : Mst), lcL2 g own c G1 g1 own1 c1 f ρ items acc M ≠ .exc e M'
  | [], acc, M, e, M' => fun z => by unfold lcL2 at z; cases z
  | d :: ds, acc, M, e, M' => by
    unfold lcL2
    split
    · exact fun z => nomatch z
    · refine bind_noexc (noX_noexc _) (fun k M2 e M' => ?_) e M'
      split
      · refine bind_noexc (noX_noexc _) (fun r M3 e M' => ?_) e M'
        exact bind_noexc (lcL_noexc _ _ _) (fun acc' M4 e M' => lcL2_noexc' ds _ _ e M') e M'
      · exact lcL2_noexc' ds _ _ e M'
theorem lcL2_noexc {ρ : Ev} (items : List D) (acc : List T) (M : Mst) : ∀ (e : Exc) (M' : Mst), ((lcL2 g own c G1 g1 own1 c1 f ρ items acc M).bind fun ts M2 => Out.ok (R.t (.lst ts)) M2) ≠ .exc e M' :=
  bind_noexc (lcL2_noexc' items acc M) fun _ _ _ _ z => nomatch z
theorem rd_lc2 {Q : VK} (hsl : ∀ i ∈ g.slots, i ∈ own) (hsl1 : ∀ i ∈ g1.slots, i ∈ own1) (h : rdE X W (eLc2 G g own c G1 g1 own1 c1 f) σ H Q) :
    tLc2 (rdI X W G) (tgR X.K g) (rdT X W0 c) (rdI X W0 G1) (tgR X.K g1) (rdT X W0 c1) (rdE X W0 f) own own1 σ H Q := by
  obtain ⟨w, ρ, M, m, er, p⟩ := h
  refine ⟨w, ρ, M, m, er, p.bindF.imp fun w1 H1 M1 items _ _ z => ?_⟩
  obtain ⟨e1, m1, p1⟩ := z
  intro J ok L hL
  have er1 := er.stay e1
  have p2 := p1 [] fun _ z => nomatch z
  have st := LcS.new (kont := fun M => (lcL2 g own c G1 g1 own1 c1 f ρ items [] M).bind fun ts M2 => .ok (.t (.lst ts)) M2) m1 (er.stay e1) hL p2
  refine ⟨fun i m H => i ≤ items.length ∧ m = items.length - i ∧ ∃ acc, LcS X W w1 H1 M1 σ ρ w1.F L (CE X [] w _ M Q) (fun M => (lcL2 g own c G1 g1 own1 c1 f ρ (items.drop i) acc M).bind fun ts M2 => .ok (.t (.lst ts)) M2) acc H, ⟨_, Nat.zero_le _, rfl, [], st⟩, ?_⟩
  rintro i mm H ⟨hi, rfl, acc, w, M, vs, fp, m, er, sF, hL, hFL, hnL, q, nd, dj, e0, hp0, p⟩
  by_cases hl : i < items.length
  · obtain ⟨d, hd⟩ : ∃ d, items[i]? = some d := ⟨items[i], List.getElem?_eq_getElem hl⟩
    obtain ⟨go1, go2⟩ := ok.go i w H M d m sF hd
    have ed : items.drop i = d :: items.drop (i + 1) := by
      rw [List.drop_eq_getElem_cons hl]
      rw [List.getElem?_eq_getElem hl] at hd
      rw [Option.some.inj hd]
    rw [ed] at p
    refine .inr ⟨go1, _, fun H' q => q, fun x H' y => ?_⟩
    obtain ⟨w', e', m', hx⟩ := go2 x H' y
    obtain ⟨hL', hFL', hnL', q', dj'⟩ := held e' hL hFL hnL q dj
    unfold lcL2 at p
    cases z : setT g d (wipeE ρ own) with
    | none => rw [z] at p; exact p.elim
    | some ρ1 =>
      rw [z] at p
      refine tg_run m' ((er.stay e').wipe own) hx z fun σ2 er2 hw => ⟨(hw own hsl).trans (wipe_wipe σ own), w', ρ1, M, m', er2, ?_⟩
      have p : Post X W σ (L :: fp) w' H' M (((noX (c ρ1 M)).bind fun k M2 => if k = true then (noX (G1 ρ1 M2)).bind fun items1 M3 => (lcL g1 own1 c1 f ρ1 items1 acc M3).bind fun acc' M4 => lcL2 g own c G1 g1 own1 c1 f ρ (items.drop (i + 1)) acc' M4
        else lcL2 g own c G1 g1 own1 c1 f ρ (items.drop (i + 1)) acc M2).bind fun ts M2 => Out.ok (R.t (.lst ts)) M2) _ := Post.from p (e'.mono fun _ z => nomatch z) fun a ha => .inr (.inr ha)
      rw [Out.bind_assoc] at p
      refine Post.unX (p.bindF.imp fun w2 H2 M2 k _ _ z => ?_)
      obtain ⟨e2, m2, p2⟩ := z
      obtain ⟨hL2, hFL2, hnL2, q2, dj2⟩ := held e2 hL' hFL' hnL' q' dj'
      cases k with
      | false =>
        rw [if_neg Bool.false_ne_true]
        refine ⟨_, by omega, hl, rfl, acc, w2, M2, vs, fp, m2, (er.stay e').stay e2, (sF.trans e'.F).trans e2.F, hL2, hFL2, hnL2, q2, nd, dj2, (e0.trans0 e').trans0 e2, hp0, ?_⟩
        have := p2 (L :: fp) fun a ha => .inr (.inr ha)
        rw [if_neg Bool.false_ne_true] at this
        exact this
      | true =>
        rw [if_pos rfl]
        have p3 := p2 (L :: fp) fun a ha => .inr (.inr ha)
        rw [if_pos rfl, Out.bind_assoc] at p3
        refine ⟨w2, ρ1, M2, m2, er2.stay e2, Post.unX (p3.bindF.imp fun w3 H3 M3 items1 _ _ z => ?_)⟩
        obtain ⟨e3, m3, p4⟩ := z
        intro J1 ok1
        obtain ⟨hL3, hFL3, hnL3, q3', dj3⟩ := held e3 hL2 hFL2 hnL2 q2 dj2
        have p5 := p4 (L :: fp) fun a ha => .inr (.inr ha)
        rw [Out.bind_assoc] at p5
        have er3 : ER X.K X.mg w3 M3 σ2 ρ1 := (er2.stay e2).stay e3
        have e03 := ((e0.trans0 e').trans0 e2).trans0 e3
        refine lc_loop (W := W) (w0 := w1) (H0 := H1) (M0 := M1) (σ := σ2) (ρ := ρ1) (L := L) (acc := acc) (kont := fun acc' M4 => (lcL2 g own c G1 g1 own1 c1 f ρ (items.drop (i + 1)) acc' M4).bind fun ts M2 => .ok (.t (.lst ts)) M2) hsl1 ok1
          ⟨w3, M3, vs, fp, m3, er3, Same.refl _, hL3, hFL3, hnL3, q3', nd, dj3, e03, hp0, Post.resig p5 (bind_noexc (lcL_noexc _ _ _) fun a M => lcL2_noexc _ a M)⟩ fun acc' H h => ?_
        obtain ⟨w, M, vs, fp, m, er, sF, hL, hFL, hnL, q, nd, dj, e0, hp0, p⟩ := h
        exact ⟨_, by omega, hl, rfl, acc', w, M, vs, fp, m, er1.stay e0, e0.F, hL, hFL, hnL, q, nd, dj, e0, hp0, Post.resig p (lcL2_noexc _ _ _)⟩
  · have e : i = items.length := by omega
    subst e
    rw [List.drop_length] at p
    exact .inl ⟨ok.stop _ w H M m sF (Nat.le_refl _), LcS.done e1 ⟨w, M, vs, fp, m, er, sF, hL, hFL, hnL, q, nd, dj, e0, hp0, p⟩⟩
end
end DL

/-! DL9: the rules of comprehensions; what is walked -/
namespace DL
open PySem L2 PySem.Spec PyProof.Rows
open RZ (ItzT pi_zipA)
def DTs (X : Cx) (W : WX) (ifs : List Expr) (c : DenT) : Prop := PTs X ifs (rdT X W c)
theorem _root_.L2.PTs.mono {X : Cx} {e : List Expr} {t t' : TT} (h : PTs X e t) (k : ∀ σ H Q, t' σ H Q → t σ H Q) : PTs X e t' := ⟨fun pins s σ H Q I q => h.run pins s σ H Q I (k _ _ _ q)⟩
section
variable {X : Cx} {W : WX} {σ : L2.St} {fs gs : List Addr} {w w2 : Wd} {H H2 : Hp} {M M2 : Mst}
variable {elt tg iter tg1 iter1 e e2 : Expr} {ifs ifs1 : List Expr} {scope : Scope} {own : List (Str × Nat)} {pos p : Pos} {G G1 : DenI} {g g1 : Tg} {c c1 : DenT} {f F Fa Fb : Den} {own2 own1 : List Nat}
theorem dts_nil : DTs X W [] tYesD := pts_nil.mono fun σ H Q h => by
  obtain ⟨w, ρ, M, m, er, p⟩ := h
  exact p.now m
theorem dts_one {c : Expr} {T : DenT} (h : DT X W c T) : DTs X W [c] T := pts_one h
/-- a block's context -/
abbrev Blk (X : Cx) (scope : Scope) (s : Shared) (H : Hp) (C : Addr) (cl : List (Str × Addr)) (fp : List Addr) : Cx := X.blk s H scope (compEnvC scope cl C X.env) fp
theorem de_lc (hc : X.calm = true) (hN : X.N.Nodup) (hi : DI X W tg iter G) (ok : BlkOk X.N X.env.scope scope own)
    (hg : ∀ (s : Shared) (H : Hp) (C : Addr) (cl : List (Str × Addr)) (fp : List Addr), DTg (Blk X scope s H C cl fp) tg g) (ht : ∀ (s : Shared) (H : Hp) (C : Addr) (cl : List (Str × Addr)) (fp : List Addr), DTs (Blk X scope s H C cl fp) W0 ifs c)
    (he : ∀ (s : Shared) (H : Hp) (C : Addr) (cl : List (Str × Addr)) (fp : List Addr), DE (Blk X scope s H C cl fp) W0 elt f) (ho : own.map (·.2) = own2 := by rfl) (hsl : ∀ i ∈ g.slots, i ∈ own2 := by decide) (hs : ∀ x, foldedSetIterable iter X.env x = pure x := by intro _; rfl) :
    DE X W (.ListComp elt [⟨tg, iter, ifs, 0⟩] scope pos) (eLc G g own2 c f) := by
  subst ho
  exact (pe_lc (wi := rdI X W G) (g := tgR X.K g) (tt := rdT X W0 c) (te := rdE X W0 f) hc hN hi ok hg ht he hs).mono fun _ _ _ h => rd_lc hsl h
theorem de_lc2 (hc : X.calm = true) (hN : X.N.Nodup) (hi : DI X W tg iter G) (ok : BlkOk X.N X.env.scope scope own) (hv : ∀ i ∈ own1, i ∈ own.map (·.2))
    (hg : ∀ (s : Shared) (H : Hp) (C : Addr) (cl : List (Str × Addr)) (fp : List Addr), DTg (Blk X scope s H C cl fp) tg g) (ht : ∀ (s : Shared) (H : Hp) (C : Addr) (cl : List (Str × Addr)) (fp : List Addr), DTs (Blk X scope s H C cl fp) W0 ifs c)
    (hi1 : ∀ (s : Shared) (H : Hp) (C : Addr) (cl : List (Str × Addr)) (fp : List Addr), DI (Blk X scope s H C cl fp) W0 tg1 iter1 G1)
    (hg1 : ∀ (s : Shared) (H : Hp) (C : Addr) (cl : List (Str × Addr)) (fp : List Addr), DTg (Blk X scope s H C cl fp) tg1 g1) (ht1 : ∀ (s : Shared) (H : Hp) (C : Addr) (cl : List (Str × Addr)) (fp : List Addr), DTs (Blk X scope s H C cl fp) W0 ifs1 c1)
    (he : ∀ (s : Shared) (H : Hp) (C : Addr) (cl : List (Str × Addr)) (fp : List Addr), DE (Blk X scope s H C cl fp) W0 elt f) (ho : own.map (·.2) = own2 := by rfl) (hsl : ∀ i ∈ g.slots, i ∈ own2 := by decide) (hsl1 : ∀ i ∈ g1.slots, i ∈ own1 := by decide)
    (hs : ∀ x, foldedSetIterable iter X.env x = pure x := by intro _; rfl) (hs1 : ∀ env x, foldedSetIterable iter1 env x = pure x := by intro _ _; rfl) :
    DE X W (.ListComp elt [⟨tg, iter, ifs, 0⟩, ⟨tg1, iter1, ifs1, 0⟩] scope pos) (eLc2 G g own2 c G1 g1 own1 c1 f) := by
  subst ho
  exact (pe_lc2 (wi := rdI X W G) (g := tgR X.K g) (tt := rdT X W0 c) (wi1 := rdI X W0 G1) (g1 := tgR X.K g1) (tt1 := rdT X W0 c1) (te := rdE X W0 f) hc hN hi ok hv hg ht hi1 hg1 ht1 he hs hs1).mono fun _ _ _ h => rd_lc2 hsl hsl1 h
variable {i : Nat} {y : Str} {py spos : Pos}
theorem rd_asg2 {g : TG} {Gd : DenG} {Dn : Ends} {t : TE} {Fe : Den} (ht : ∀ σ H Q, rdE X W Fe σ H Q → t σ H Q) (hg : ∀ v σ H Q, rdG X W Gd v σ H Q → g v σ H Q) (h : rdS X W (sAsg Fe Gd) Dn σ H) : tAsg t g Dn σ H := ht _ _ _ (rd_asg hg h)
/-- y = [..] on one line; Gd: gSet, or gSetM where the list is changed later -/
theorem ds_lc {Gd : DenG} (hGd : ∀ v σ H Q, rdG X W Gd v σ H Q → gName i v σ H Q) (hc : X.calm = true) (hN : X.N.Nodup) (hy : X.N[i]? = some y) (hyl : X.env.scope.names.lookup y = some .local)
    (hsw : swapsWith (.ListComp elt [⟨tg, iter, ifs, 0⟩] scope pos) (some (.Name y py)) spos.line X.env = pure true) (hi : DI X W tg iter G) (ok : BlkOk X.N X.env.scope scope own)
    (hg : ∀ (s : Shared) (H : Hp) (C : Addr) (cl : List (Str × Addr)) (fp : List Addr), DTg (Blk X scope s H C cl fp) tg g) (ht : ∀ (s : Shared) (H : Hp) (C : Addr) (cl : List (Str × Addr)) (fp : List Addr), DTs (Blk X scope s H C cl fp) W0 ifs c)
    (he : ∀ (s : Shared) (H : Hp) (C : Addr) (cl : List (Str × Addr)) (fp : List Addr), DE (Blk X scope s H C cl fp) W0 elt f) (ho : own.map (·.2) = own2 := by rfl) (hsl : ∀ i ∈ g.slots, i ∈ own2 := by decide) (hs : ∀ x, foldedSetIterable iter X.env x = pure x := by intro _; rfl) :
    DS X W (.Assign [.Name y py] (.ListComp elt [⟨tg, iter, ifs, 0⟩] scope pos) spos) (sAsg (eLc G g own2 c f) Gd) := by
  subst ho
  exact (ps_setLc (wi := rdI X W G) (g := tgR X.K g) (tt := rdT X W0 c) (te := rdE X W0 f) hc hN hy hyl hsw hi ok hg ht he hs).mono fun _ _ _ h => rd_asg2 (fun _ _ _ h => rd_lc hsl h) hGd h
theorem ds_lc2 {Gd : DenG} (hGd : ∀ v σ H Q, rdG X W Gd v σ H Q → gName i v σ H Q) (hc : X.calm = true) (hN : X.N.Nodup) (hy : X.N[i]? = some y) (hyl : X.env.scope.names.lookup y = some .local)
    (hsw : swapsWith (.ListComp elt [⟨tg, iter, ifs, 0⟩, ⟨tg1, iter1, ifs1, 0⟩] scope pos) (some (.Name y py)) spos.line X.env = pure true) (hi : DI X W tg iter G) (ok : BlkOk X.N X.env.scope scope own) (hv : ∀ i ∈ own1, i ∈ own.map (·.2))
    (hg : ∀ (s : Shared) (H : Hp) (C : Addr) (cl : List (Str × Addr)) (fp : List Addr), DTg (Blk X scope s H C cl fp) tg g) (ht : ∀ (s : Shared) (H : Hp) (C : Addr) (cl : List (Str × Addr)) (fp : List Addr), DTs (Blk X scope s H C cl fp) W0 ifs c)
    (hi1 : ∀ (s : Shared) (H : Hp) (C : Addr) (cl : List (Str × Addr)) (fp : List Addr), DI (Blk X scope s H C cl fp) W0 tg1 iter1 G1)
    (hg1 : ∀ (s : Shared) (H : Hp) (C : Addr) (cl : List (Str × Addr)) (fp : List Addr), DTg (Blk X scope s H C cl fp) tg1 g1) (ht1 : ∀ (s : Shared) (H : Hp) (C : Addr) (cl : List (Str × Addr)) (fp : List Addr), DTs (Blk X scope s H C cl fp) W0 ifs1 c1)
    (he : ∀ (s : Shared) (H : Hp) (C : Addr) (cl : List (Str × Addr)) (fp : List Addr), DE (Blk X scope s H C cl fp) W0 elt f) (ho : own.map (·.2) = own2 := by rfl) (hsl : ∀ i ∈ g.slots, i ∈ own2 := by decide) (hsl1 : ∀ i ∈ g1.slots, i ∈ own1 := by decide)
    (hs : ∀ x, foldedSetIterable iter X.env x = pure x := by intro _; rfl) (hs1 : ∀ env x, foldedSetIterable iter1 env x = pure x := by intro _ _; rfl) :
    DS X W (.Assign [.Name y py] (.ListComp elt [⟨tg, iter, ifs, 0⟩, ⟨tg1, iter1, ifs1, 0⟩] scope pos) spos) (sAsg (eLc2 G g own2 c G1 g1 own1 c1 f) Gd) := by
  subst ho
  exact (ps_setLc2 (wi := rdI X W G) (g := tgR X.K g) (tt := rdT X W0 c) (wi1 := rdI X W0 G1) (g1 := tgR X.K g1) (tt1 := rdT X W0 c1) (te := rdE X W0 f) hc hN hy hyl hsw hi ok hv hg ht hi1 hg1 ht1 he hs hs1).mono fun _ _ _ h => rd_asg2 (fun _ _ _ h => rd_lc2 hsl hsl1 h) hGd h

/-! ### what is walked: data -/
def chars (x : Str) : List D := x.cps.toList.map fun c => .str ⟨#[c]⟩
def items : D → Option (List D)
  | .lst ds => some ds
  | .tupP _ ds => some ds
  | .ro ds => some ds
  | .str x => some (chars x)
  | _ => none
def iOf (F : Den) : DenI := fun ρ M => (F ρ M).bind fun r M1 => match items (frzR M1 r) with
  | some ds => .ok ds (frzM M1 r)
  | none => .bad
theorem ItOk.list {F1 : Hp} {a : Addr} {vs : List V} {ds : List D} (h : SqL X.K F1 a vs) (l : DpL X.K X.mg F1 vs ds) : ItOk X.K X.mg F1 (Itl X.K a) ds where
  go := fun i w H M d m sF hd => by
    obtain ⟨v, h1, h2⟩ := l.get hd
    have hq : SqL X.K H a vs := (sF.trans m.sub).seq h
    exact ⟨⟨vs, v, hq, h1⟩, fun x H' ⟨e, y⟩ => by
      subst e
      have := y vs hq
      rw [h1] at this
      cases this
      exact ⟨w, Ext.refl m, m, h2.mono sF⟩⟩
  stop := fun i w H M m sF hi => ⟨vs, (sF.trans m.sub).seq h, by rw [l.length]; exact hi⟩
theorem ItOk.tup {F1 : Hp} {a : Addr} {vs : List V} {ds : List D} (h : SqT X.K F1 a vs) (l : DpL X.K X.mg F1 vs ds) : ItOk X.K X.mg F1 (Itt X.K a) ds where
  go := fun i w H M d m sF hd => by
    obtain ⟨v, h1, h2⟩ := l.get hd
    have hq : SqT X.K H a vs := Same.seqT (sF.trans m.sub) h
    exact ⟨⟨vs, v, hq, h1⟩, fun x H' ⟨e, y⟩ => by
      subst e
      have := y vs hq
      rw [h1] at this
      cases this
      exact ⟨w, Ext.refl m, m, h2.mono sF⟩⟩
  stop := fun i w H M m sF hi => ⟨vs, Same.seqT (sF.trans m.sub) h, by rw [l.length]; exact hi⟩
theorem ItOk.text {F1 : Hp} {x : Str} : ItOk X.K X.mg F1 (Its x) (chars x) where
  go := fun i w H M d m sF hd => by
    unfold chars at hd
    rw [List.getElem?_map] at hd
    cases z : x.cps.toList[i]? with
    | none => rw [z] at hd; cases hd
    | some c =>
      rw [z] at hd
      cases hd
      have hi : x.cps[i]? = some c := by simpa using z
      have hl : i < x.cps.size := (Array.getElem?_eq_some_iff.mp hi).1
      exact ⟨hl, fun v H' ⟨e, c', hc', ev⟩ => by
        subst e ev
        rw [hi] at hc'
        cases hc'
        exact ⟨w, Ext.refl m, m, .str _⟩⟩
  stop := fun i w H M m sF hi => by
    show x.cps.size ≤ i
    simpa [chars] using hi
theorem di_data (h : DE X W e F) : DI X W tg e (iOf F) := (PI.or (pi_list h) (PI.or (pi_tup h) (pi_str h))).mono fun σ H Q hq => by
  obtain ⟨w, ρ, M, m, er, p⟩ := hq
  have p : Post X W σ [] w H M ((F ρ M).bind fun r M1 => match items (frzR M1 r) with
    | some ds => .ok ds (frzM M1 r)
    | none => .bad) _ := p
  have key : ∀ (Q' : V → Hp → Prop), (∀ w1 H1 M1 r v fp w2 ds, F ρ M = .ok r M1 → items (frzR M1 r) = some ds → MR X.K X.mg w2 H1 (frzM M1 r) → Dp X.K X.mg w2.F v (frzR M1 r) → (∀ J, ItOk X.K X.mg w2.F J ds → Q J H1) → Q' v H1) → rdE X W F σ H Q' := fun Q' k => by
    refine ⟨w, ρ, M, m, er, ?_⟩
    cases z : F ρ M with
    | bad => rw [z] at p; exact p
    | exc x M' => rw [z] at p; exact p
    | ok r M1 =>
      rw [z] at p
      intro w1 H1 e1 m1 v fp q hf
      obtain ⟨w2, e2, m2, d2, _⟩ := settle m1 q
      have p : Post X W σ [] w H M (match items (frzR M1 r) with
        | some ds => .ok ds (frzM M1 r)
        | none => .bad) (fun w' H' M' items => ∀ J, ItOk X.K X.mg w'.F J items → Q J H') := p
      cases z2 : items (frzR M1 r) with
      | none => rw [z2] at p; exact p.elim
      | some ds =>
        rw [z2] at p
        exact k w1 H1 M1 r v fp w2 ds z z2 m2 d2 fun J hJ => p w2 H1 (e1.trans e2 hf) m2 J hJ
  cases z : F ρ M with
  | bad => rw [z] at p; exact p.elim
  | exc x M' => exact .inl (key _ fun w1 H1 M1 r v fp w2 ds hz => by rw [z] at hz; cases hz)
  | ok r0 M0 =>
    have zz : ∀ {r M1}, F ρ M = .ok r M1 → r = r0 ∧ M1 = M0 := fun h => by rw [z] at h; cases h; exact ⟨rfl, rfl⟩
    cases z2 : frzR M0 r0 with
    | lst ds0 =>
      refine .inl (key _ fun w1 H1 M1 r v fp w2 ds hz hi m2 d2 k => ?_)
      obtain ⟨rfl, rfl⟩ := zz hz
      rw [z2] at d2 hi; cases hi
      cases d2 with
      | lst h l => exact ⟨_, rfl, ⟨_, SqL.of (m2.sub _ _ h)⟩, k _ (ItOk.list (SqL.of h) l)⟩
    | ro ds0 =>
      refine .inl (key _ fun w1 H1 M1 r v fp w2 ds hz hi m2 d2 k => ?_)
      obtain ⟨rfl, rfl⟩ := zz hz
      rw [z2] at d2 hi; cases hi
      cases d2 with
      | ro h l => exact ⟨_, rfl, ⟨_, m2.sub.seq h⟩, k _ (ItOk.list h l)⟩
    | tupP p0 ds0 =>
      refine .inr (.inl (key _ fun w1 H1 M1 r v fp w2 ds hz hi m2 d2 k => ?_))
      obtain ⟨rfl, rfl⟩ := zz hz
      rw [z2] at d2 hi; cases hi
      cases d2 with
      | tupP h l => exact ⟨_, rfl, ⟨_, Same.seqT m2.sub h.1⟩, k _ (ItOk.tup h.1 l)⟩
    | str x =>
      refine .inr (.inr (key _ fun w1 H1 M1 r v fp w2 ds hz hi m2 d2 k => ?_))
      obtain ⟨rfl, rfl⟩ := zz hz
      rw [z2] at d2 hi; cases hi
      cases d2
      exact ⟨x, rfl, k _ ItOk.text⟩
    | non => exact .inl (key _ fun w1 H1 M1 r v fp w2 ds hz hi => by obtain ⟨rfl, rfl⟩ := zz hz; rw [z2] at hi; cases hi)
    | bl _ => exact .inl (key _ fun w1 H1 M1 r v fp w2 ds hz hi => by obtain ⟨rfl, rfl⟩ := zz hz; rw [z2] at hi; cases hi)
    | int _ => exact .inl (key _ fun w1 H1 M1 r v fp w2 ds hz hi => by obtain ⟨rfl, rfl⟩ := zz hz; rw [z2] at hi; cases hi)
    | ins _ _ => exact .inl (key _ fun w1 H1 M1 r v fp w2 ds hz hi => by obtain ⟨rfl, rfl⟩ := zz hz; rw [z2] at hi; cases hi)
    | glo _ => exact .inl (key _ fun w1 H1 M1 r v fp w2 ds hz hi => by obtain ⟨rfl, rfl⟩ := zz hz; rw [z2] at hi; cases hi)
    | ty _ => exact .inl (key _ fun w1 H1 M1 r v fp w2 ds hz hi => by obtain ⟨rfl, rfl⟩ := zz hz; rw [z2] at hi; cases hi)
    | dic _ => exact .inl (key _ fun w1 H1 M1 r v fp w2 ds hz hi => by obtain ⟨rfl, rfl⟩ := zz hz; rw [z2] at hi; cases hi)
    | junk => exact .inl (key _ fun w1 H1 M1 r v fp w2 ds hz hi => by obtain ⟨rfl, rfl⟩ := zz hz; rw [z2] at hi; cases hi)

/-! ### ranges -/
def rangeD (lo : Int) (n : Nat) : List D := (List.range n).map fun i => .int (lo + (i : Nat))
theorem ItOk.range {F1 : Hp} {lo : Int} {n : Nat} : ItOk X.K X.mg F1 (Itr lo n) (rangeD lo n) where
  go := fun i w H M d m sF hd => by
    unfold rangeD at hd
    rw [List.getElem?_map] at hd
    by_cases hi : i < n
    · rw [List.getElem?_eq_getElem (by simpa using hi)] at hd
      simp at hd
      subst hd
      exact ⟨hi, fun x H' ⟨e, y⟩ => by subst e y; exact ⟨w, Ext.refl m, m, .int _⟩⟩
    · rw [List.getElem?_eq_none (by simpa using hi)] at hd; cases hd
  stop := fun i w H M m sF hi => by
    show n ≤ i
    simpa [rangeD] using hi
def iRange1 (A : DenA) : DenI := fun ρ M => (A ρ M).bind fun rs M1 => match rs.map (frzR M1) with
  | [.int j] => if j < 1000000000 ∧ -1000000000 < j then .ok (rangeD 0 j.toNat) M1 else .bad
  | _ => .bad
def iRange2 (A : DenA) : DenI := fun ρ M => (A ρ M).bind fun rs M1 => match rs.map (frzR M1) with
  | [.int i, .int j] => if (j < 1000000000 ∧ -1000000000 < j) ∧ (i < 1000000000 ∧ -1000000000 < i) then .ok (rangeD i (j - i).toNat) M1 else .bad
  | _ => .bad
theorem seenL {rs : List R} {vs : List V} {fp : List Addr} (m : MR X.K X.mg w H M) (h : RRL X.K X.mg w H M vs rs fp) : DpL X.K X.mg H vs (rs.map (frzR M)) := by
  induction h with
  | nil => exact .nil
  | cons h r _ ih => exact .cons (seen m h) ih
theorem di_range1 {A : DenA} (hg : Gl X "range") (hm : X.mg "range" = none) (ha : DA X W [e] A) (hs : starEach [e] X.env = [(false, eval e X.env)] := by rfl) : DI X W tg (.Call (.Name "range" p) [e] [] pos) (iRange1 A) :=
  (pi_range1 hg hm ha hs).mono fun σ H R h => by
    obtain ⟨w, ρ, M, m, er, p⟩ := h
    refine ⟨w, ρ, M, m, er, p.bindF.imp fun w1 H1 M1 rs _ _ z => ?_⟩
    obtain ⟨e1, m1, p1⟩ := z
    intro vs fp q hf
    replace p1 := p1 [] fun _ z => nomatch z
    have s := seenL m1 q
    split at p1
    · rename_i j hj
      split at p1
      · rename_i hb
        rw [hj] at s
        cases s with
        | cons s1 s2 => cases s1; cases s2; exact ⟨j, rfl, by omega, by omega, p1.now m1 _ ItOk.range⟩
      · exact p1.elim
    · exact p1.elim
theorem di_range2 {A : DenA} (hg : Gl X "range") (hm : X.mg "range" = none) (ha : DA X W [e, e2] A) (hs : starEach [e, e2] X.env = [(false, eval e X.env), (false, eval e2 X.env)] := by rfl) (hs2 : starEach [e2] X.env = [(false, eval e2 X.env)] := by rfl) : DI X W tg (.Call (.Name "range" p) [e, e2] [] pos) (iRange2 A) :=
  (pi_range2 hg hm ha hs hs2).mono fun σ H R h => by
    obtain ⟨w, ρ, M, m, er, p⟩ := h
    refine ⟨w, ρ, M, m, er, p.bindF.imp fun w1 H1 M1 rs _ _ z => ?_⟩
    obtain ⟨e1, m1, p1⟩ := z
    intro vs fp q hf
    replace p1 := p1 [] fun _ z => nomatch z
    have s := seenL m1 q
    split at p1
    · rename_i i j hj
      split at p1
      · rename_i hb
        rw [hj] at s
        cases s with
        | cons s1 s2 =>
          cases s2 with
          | cons s2 s3 => cases s1; cases s2; cases s3; exact ⟨i, j, rfl, by omega, p1.now m1 _ ItOk.range⟩
      · exact p1.elim
    · exact p1.elim
/-! ### pairs -/
/-- a new frozen tuple -/
theorem new_tup {tp : Addr} {vs : List V} {ds : List D} (m : MR X.K X.mg w H M) (hT : H tp = none) (h : DpL X.K X.mg w.F vs ds) : ∃ w', Ext [] w H M w' (upd H tp (.tup vs)) M ∧ MR X.K X.mg w' (upd H tp (.tup vs)) M ∧ Dp X.K X.mg w'.F (.ref tp) (.tup ds) := by
  have q := RR.newT (fp := []) m hT h.trees List.nodup_nil fun _ z => nomatch z
  obtain ⟨w', e', m', d, _⟩ := settle (m.new (o := .tup vs) hT) q
  refine ⟨w', (Ext.new m hT).trans e' fun a ha => .inl (by rw [List.mem_singleton.mp ha]; exact hT), m', ?_⟩
  have : frzR M (.t (.tup (ds.map T.d))) = .tup ds := by show D.tup (frzL (ds.map T.d)) = _; rw [frzL_d]
  rw [this] at d
  exact d
def enumD (ds : List D) : List D := (List.range ds.length).zipWith (fun i d => .tup [.int (i : Nat), d]) ds
def pairD (as bs : List D) : List D := as.zipWith (fun a b => .tup [a, b]) bs
theorem ItOk.enum {F1 : Hp} {a : Addr} {vs : List V} {ds : List D} (h : SqL X.K F1 a vs) (l : DpL X.K X.mg F1 vs ds) : ItOk X.K X.mg F1 (Ite X.K a) (enumD ds) where
  go := fun i w H M d m sF hd => by
    unfold enumD at hd
    rw [List.getElem?_zipWith] at hd
    cases z : ds[i]? with
    | none => rw [z] at hd; split at hd <;> simp_all
    | some d' =>
      have hi : i < ds.length := (List.getElem?_eq_some_iff.mp z).1
      rw [z, List.getElem?_eq_getElem (by simpa using hi)] at hd
      simp at hd
      subst hd
      obtain ⟨v, h1, h2⟩ := l.get z
      have hq : SqL X.K H a vs := (sF.trans m.sub).seq h
      exact ⟨⟨vs, v, hq, h1⟩, fun x H' ⟨T, y, ex, hT, eH, k⟩ => by
        subst ex eH
        have := k vs hq
        rw [h1] at this
        cases this
        exact new_tup m hT (.cons (.int _) (.cons (h2.mono sF) .nil))⟩
  stop := fun i w H M m sF hi => ⟨vs, (sF.trans m.sub).seq h, by rw [l.length]; simpa [enumD] using hi⟩
theorem ItOk.zip {F1 : Hp} {a b : Addr} {vs us : List V} {ds es : List D} (h : SqL X.K F1 a vs) (l : DpL X.K X.mg F1 vs ds) (h' : SqL X.K F1 b us) (l' : DpL X.K X.mg F1 us es) : ItOk X.K X.mg F1 (Itz X.K a b) (pairD ds es) where
  go := fun i w H M d m sF hd => by
    unfold pairD at hd
    rw [List.getElem?_zipWith] at hd
    split at hd
    · rename_i d1 d2 z1 z2
      cases hd
      obtain ⟨v, h1, h2⟩ := l.get z1
      obtain ⟨u, h3, h4⟩ := l'.get z2
      have hq : SqL X.K H a vs := (sF.trans m.sub).seq h
      have hq' : SqL X.K H b us := (sF.trans m.sub).seq h'
      exact ⟨⟨vs, us, v, u, hq, hq', h1, h3⟩, fun x H' ⟨T, y, y', ex, hT, eH, k, k'⟩ => by
        subst ex eH
        have e1 := k vs hq
        have e2 := k' us hq'
        rw [h1] at e1; rw [h3] at e2
        cases e1; cases e2
        exact new_tup m hT (.cons (h2.mono sF) (.cons (h4.mono sF) .nil))⟩
    · cases hd
  stop := fun i w H M m sF hi => ⟨vs, us, (sF.trans m.sub).seq h, (sF.trans m.sub).seq h', by rw [l.length, l'.length]; simp [pairD] at hi; omega⟩
theorem ItOk.zipT {F1 : Hp} {a b : Addr} {vs us : List V} {ds es : List D} (h : SqT X.K F1 a vs) (l : DpL X.K X.mg F1 vs ds) (h' : SqT X.K F1 b us) (l' : DpL X.K X.mg F1 us es) : ItOk X.K X.mg F1 (ItzT X.K a b) (pairD ds es) where
  go := fun i w H M d m sF hd => by
    unfold pairD at hd
    rw [List.getElem?_zipWith] at hd
    split at hd
    · rename_i d1 d2 z1 z2
      cases hd
      obtain ⟨v, h1, h2⟩ := l.get z1
      obtain ⟨u, h3, h4⟩ := l'.get z2
      have hq : SqT X.K H a vs := Same.seqT (sF.trans m.sub) h
      have hq' : SqT X.K H b us := Same.seqT (sF.trans m.sub) h'
      exact ⟨⟨vs, us, v, u, hq, hq', h1, h3⟩, fun x H' ⟨T, y, y', ex, hT, eH, k, k'⟩ => by
        subst ex eH
        have e1 := k vs hq
        have e2 := k' us hq'
        rw [h1] at e1; rw [h3] at e2
        cases e1; cases e2
        exact new_tup m hT (.cons (h2.mono sF) (.cons (h4.mono sF) .nil))⟩
    · cases hd
  stop := fun i w H M m sF hi => ⟨vs, us, Same.seqT (sF.trans m.sub) h, Same.seqT (sF.trans m.sub) h', by rw [l.length, l'.length]; simp [pairD] at hi; omega⟩
/-- all results become data -/
def frzMs : List R → Mst → Mst
  | [], M => M
  | r :: rs, M => frzMs rs (frzM M r)
def frzRs : List R → Mst → List D
  | [], _ => []
  | r :: rs, M => frzR M r :: frzRs rs (frzM M r)
theorem settleAll {rs : List R} : ∀ {vs : List V} {fp : List Addr} {w : Wd} {H : Hp} {M : Mst}, MR X.K X.mg w H M → RRL X.K X.mg w H M vs rs fp → ∃ w', Ext fp w H M w' H (frzMs rs M) ∧ MR X.K X.mg w' H (frzMs rs M) ∧ DpL X.K X.mg w'.F vs (frzRs rs M) := by
  induction rs with
  | nil => intro vs fp w H M m h; cases h; exact ⟨w, Ext.refl m, m, .nil⟩
  | cons r rs ih =>
    intro vs fp w H M m h
    cases h with
    | @cons v vs _ _ f1 f2 h1 h2 dj =>
      obtain ⟨w1, e1, m1, v1, _⟩ := settle m h1
      obtain ⟨w2, e2, m2, v2⟩ := ih m1 (h2.stay e1 fun a ha hb => dj a hb ha)
      exact ⟨w2, (e1.mono fun a ha => List.mem_append_left _ ha).trans e2 fun a ha => .inr (.inr (List.mem_append_right _ ha)), m2, .cons (v1.mono e2.F) v2⟩
def iEnumD (A : DenA) : DenI := fun ρ M => (A ρ M).bind fun rs M1 => match frzRs rs M1 with
  | [.lst ds] => .ok (enumD ds) (frzMs rs M1)
  | _ => .bad
def iZipD (A : DenA) : DenI := fun ρ M => (A ρ M).bind fun rs M1 => match frzRs rs M1 with
  | [.lst ds, .lst es] => .ok (pairD ds es) (frzMs rs M1)
  | [.tupP _ ds, .tupP _ es] => .ok (pairD ds es) (frzMs rs M1)
  | _ => .bad
theorem di_enum {elts : List Expr} {kk : Nat} {tpos : Pos} {A : DenA} (hg : Gl X "enumerate") (hm : X.mg "enumerate" = none) (ha : DA X W [e] A) (hs : starEach [e] X.env = [(false, eval e X.env)] := by rfl) :
    DI X W (.Tuple elts kk tpos) (.Call (.Name "enumerate" p) [e] [] pos) (iEnumD A) := (pi_enum hg hm ha hs).mono fun σ H R h => by
  obtain ⟨w, ρ, M, m, er, p⟩ := h
  refine ⟨w, ρ, M, m, er, p.bindF.imp fun w1 H1 M1 rs _ _ z => ?_⟩
  obtain ⟨e1, m1, p1⟩ := z
  intro vs fp q hf
  replace p1 := p1 fp hf
  obtain ⟨w2, e2, m2, d⟩ := settleAll m1 q
  split at p1
  · rename_i ds hd
    rw [hd] at d
    cases d with
    | cons d1 d2 =>
      cases d2
      cases d1 with
      | lst h l => exact ⟨_, _, rfl, SqL.of (m2.sub _ _ h), p1 w2 H1 e2 m2 _ (ItOk.enum (SqL.of h) l)⟩
  · exact p1.elim
theorem di_zip {elts : List Expr} {kk : Nat} {tpos : Pos} {A : DenA} (hg : Gl X "zip") (hm : X.mg "zip" = none) (ha : DA X W [e, e2] A)
    (hs : starEach [e, e2] X.env = (false, eval e X.env) :: starEach [e2] X.env := by rfl) (hpl : (backTo pos (starEach [e2] X.env)).any (·.1) = false := by rfl) :
    DI X W (.Tuple elts kk tpos) (.Call (.Name "zip" p) [e, e2] [] pos) (iZipD A) := (pi_zipA hg hm ha hs hpl).mono fun σ H R h => by
  obtain ⟨w, ρ, M, m, er, p⟩ := h
  refine ⟨w, ρ, M, m, er, p.bindF.imp fun w1 H1 M1 rs _ _ z => ?_⟩
  obtain ⟨e1, m1, p1⟩ := z
  intro vs fp q hf
  replace p1 := p1 fp hf
  obtain ⟨w2, e2, m2, d⟩ := settleAll m1 q
  split at p1
  · rename_i ds es hd
    rw [hd] at d
    cases d with
    | cons d1 d2 =>
      cases d2 with
      | cons d2 d3 =>
        cases d3
        cases d1 with
        | lst h l =>
          cases d2 with
          | lst h' l' => exact ⟨_, _, _, _, rfl, .inl ⟨SqL.of (m2.sub _ _ h), SqL.of (m2.sub _ _ h'), p1 w2 H1 e2 m2 _ (ItOk.zip (SqL.of h) l (SqL.of h') l')⟩⟩
  · rename_i ds es hd
    rw [hd] at d
    cases d with
    | cons d1 d2 =>
      cases d2 with
      | cons d2 d3 =>
        cases d3
        cases d1 with
        | tupP h l =>
          cases d2 with
          | tupP h' l' => exact ⟨_, _, _, _, rfl, .inr ⟨Same.seqT m2.sub h.1, Same.seqT m2.sub h'.1, p1 w2 H1 e2 m2 _ (ItOk.zipT h.1 l h'.1 l')⟩⟩
  · exact p1.elim
end
end DL

/-! DL10: sequences: copies, slices, items, sums; == and in -/
namespace DL
open PySem L2 PySem.Spec PyProof.Rows
/-- what a sequence is, by its items -/
inductive Sq where
  | l (ds : List D) | t (ds : List D) | ro (ds : List D) | s (x : Str)
def Sq.ds : Sq → List D
  | .l ds => ds
  | .t ds => ds
  | .ro ds => ds
  | .s x => chars x
def allD : List T → Option (List D)
  | [] => some []
  | .d x :: r => (allD r).map (x :: ·)
  | _ => none
theorem allD_map (ds : List D) : allD (ds.map T.d) = some ds := by
  induction ds with
  | nil => rfl
  | cons x r ih => simp [allD, ih]
def sqD : D → Option Sq
  | .lst ds => some (.l ds)
  | .tupP _ ds => some (.t ds)
  | .ro ds => some (.ro ds)
  | .str x => some (.s x)
  | _ => none
def peek (M : Mst) : R → Option (List D)
  | .h k => match M.getD k (.d .non) with
    | .lst ts => allD ts
    | _ => none
  | .t _ => none
def src (M : Mst) (r : R) : Option (Sq × Mst) := match peek M r with
  | some ds => some (.l ds, M)
  | none => match sqD (frzR M r) with
    | some q => some (q, frzM M r)
    | none => none
section
variable {X : Cx} {W : WX} {σ : L2.St} {fs gs : List Addr} {w w2 : Wd} {H H2 : Hp} {M M2 : Mst}
variable {e o a b c : Expr} {es : List Expr} {F Fa Fb Fc : Den} {A : DenA} {pos p apos cpos p2 : Pos} {x m : Str}
/-- how a sequence lies -/
def SqAt (X : Cx) (F H : Hp) (v : V) : Sq → Prop
  | .l ds => ∃ a vs, v = .ref a ∧ H a = some (.lst vs) ∧ DpL X.K X.mg F vs ds
  | .t ds => ∃ a vs, v = .ref a ∧ SqT X.K F a vs ∧ DpL X.K X.mg F vs ds
  | .ro ds => ∃ a vs, v = .ref a ∧ SqL X.K F a vs ∧ DpL X.K X.mg F vs ds
  | .s x => v = .str x
theorem allD_at {vs : List V} {ts : List T} {fp : List Addr} {ds : List D} (h : TRL X.K X.mg w.F H vs ts fp) (e : allD ts = some ds) : DpL X.K X.mg w.F vs ds := by
  induction ts generalizing vs fp ds with
  | nil => cases h; cases e; exact .nil
  | cons t r ih =>
    cases h with
    | cons h1 h2 =>
      cases t with
      | d x =>
        unfold allD at e
        cases z : allD r with
        | none => rw [z] at e; cases e
        | some ds' =>
          rw [z] at e
          cases e
          cases h1 with
          | d h1 => exact .cons h1 (ih h2 z)
      | lst _ => cases e
      | tup _ => cases e
      | ins _ _ => cases e
      | dic _ => cases e
theorem src_ok {v : V} {r : R} {fp : List Addr} {q : Sq} {M' : Mst} (m : MR X.K X.mg w H M) (h : RR X.K X.mg w H M v r fp) (e : src M r = some (q, M')) : ∃ w', Ext fp w H M w' H M' ∧ MR X.K X.mg w' H M' ∧ SqAt X w'.F H v q := by
  unfold src at e
  cases z : peek M r with
  | some ds =>
    rw [z] at e
    cases e
    refine ⟨w, Ext.refl m, m, ?_⟩
    cases r with
    | t x => cases z
    | h k =>
      obtain ⟨hk, rfl, rfl⟩ := h
      unfold peek at z
      obtain ⟨x, hx⟩ : ∃ x, M[k]? = some x := ⟨M[k], List.getElem?_eq_getElem hk⟩
      have q := (m.obj k x hx).1
      dsimp only at z
      rw [getD_of hx] at z
      cases x with
      | lst ts =>
        generalize w.φ k = fp at q
        generalize hv : V.ref (w.α k) = v at q
        cases q with
        | lst h1 h2 h3 => cases hv; exact ⟨_, _, rfl, h1, allD_at h3 z⟩
      | d _ => cases z
      | tup _ => cases z
      | ins _ _ => cases z
      | dic _ => cases z
  | none =>
    rw [z] at e
    obtain ⟨w', e', m', d, _⟩ := settle m h
    cases z2 : frzR M r with
    | lst ds => rw [z2] at e d; cases e; cases d with | lst hh l => exact ⟨w', e', m', _, _, rfl, m'.sub _ _ hh, l⟩
    | tupP p0 ds => rw [z2] at e d; cases e; cases d with | tupP hh l => exact ⟨w', e', m', _, _, rfl, hh.1, l⟩
    | ro ds => rw [z2] at e d; cases e; cases d with | ro hh l => exact ⟨w', e', m', _, _, rfl, hh, l⟩
    | str s => rw [z2] at e d; cases e; cases d; exact ⟨w', e', m', rfl⟩
    | non => rw [z2] at e; cases e
    | bl _ => rw [z2] at e; cases e
    | int _ => rw [z2] at e; cases e
    | ins _ _ => rw [z2] at e; cases e
    | glo _ => rw [z2] at e; cases e
    | ty _ => rw [z2] at e; cases e
    | dic _ => rw [z2] at e; cases e
    | junk => rw [z2] at e; cases e
/-- a new list of data -/
theorem new_lst {q : Addr} {vs : List V} {ds : List D} (m : MR X.K X.mg w H M) (hq : H q = none) (h : DpL X.K X.mg w.F vs ds) : RR X.K X.mg w (upd H q (.lst vs)) M (.ref q) (.t (.lst (ds.map T.d))) [q] := RR.newL m hq h.trees List.nodup_nil fun _ z => nomatch z
theorem new_tupT {q : Addr} {vs : List V} {ds : List D} (m : MR X.K X.mg w H M) (hq : H q = none) (h : DpL X.K X.mg w.F vs ds) : RR X.K X.mg w (upd H q (.tup vs)) M (.ref q) (.t (.tup (ds.map T.d))) [q] := RR.newT m hq h.trees List.nodup_nil fun _ z => nomatch z
/-- the wish at a new list -/
theorem CE.lst {w' : Wd} {M' : Mst} {Q : VK} {q : Addr} {vs : List V} {ds : List D} (p : Post X W σ fs w H M (.ok (.t (.lst (ds.map T.d))) M') (CE X fs w H M Q)) (e : Ext fs w H M w' H M') (m : MR X.K X.mg w' H M') (hq : H q = none) (h : DpL X.K X.mg w'.F vs ds) : Q (.ref q) (upd H q (.lst vs)) :=
  p w' _ (e.trans0 (Ext.new m hq)) (m.new hq) _ [q] (new_lst m hq h) fun a ha => .inl (by rw [List.mem_singleton.mp ha]; exact hq)
theorem CE.tup {w' : Wd} {M' : Mst} {Q : VK} {q : Addr} {vs : List V} {ds : List D} (p : Post X W σ fs w H M (.ok (.t (.tup (ds.map T.d))) M') (CE X fs w H M Q)) (e : Ext fs w H M w' H M') (m : MR X.K X.mg w' H M') (hq : H q = none) (h : DpL X.K X.mg w'.F vs ds) : Q (.ref q) (upd H q (.tup vs)) :=
  p w' _ (e.trans0 (Ext.new m hq)) (m.new hq) _ [q] (new_tupT m hq h) fun a ha => .inl (by rw [List.mem_singleton.mp ha]; exact hq)
theorem CE.dat {w' : Wd} {M' : Mst} {Q : VK} {v : V} {d : D} (p : Post X W σ fs w H M (.ok (.t (.d d)) M') (CE X fs w H M Q)) (e : Ext fs w H M w' H M') (m : MR X.K X.mg w' H M') (h : Dp X.K X.mg w'.F v d) : Q v H :=
  p w' _ e m v [] (rr_d h) fun _ z => nomatch z

/-! ### a + b, a * k -/
def catR : R → R → Mst → Out R := fun r1 r2 M => match src M r1 with
  | none => .bad
  | some (q1, M1) => match src M1 r2 with
    | none => .bad
    | some (q2, M2) => match q1, q2 with
      | .l ds, .l es => if ds.length + es.length ≤ 1000000 then .ok (.t (.lst ((ds ++ es).map T.d))) M2 else .bad
      | .t ds, .t es => if ds.length + es.length ≤ 1000000 then (if ds.isEmpty then .ok (.t (.d (.tup es))) M2 else if es.isEmpty then .ok (.t (.d (.tup ds))) M2 else .ok (.t (.tup ((ds ++ es).map T.d))) M2) else .bad
      | .s x, .s y => if x.length + y.length ≤ strCap then .ok (.t (.d (.str (x ++ y)))) M2 else .bad
      | _, _ => .bad
def isSq : D → Bool
  | .int _ => false
  | _ => true
def addR : R → R → Mst → Out R := case2 (fun a _ => isSq a) catR (sc2 (iOp (fun _ _ => true) (· + ·)))
def rAdd (X : Cx) : R2 := fun x y H Q => (rCat x y H Q ∨ rCatA X.K x y H Q ∨ ∃ i j, x = .str i ∧ y = .str j ∧ i.length + j.length ≤ sizeLine ∧ Q (.str (i ++ j)) H) ∨ rI0 (fun i j => .int (i + j)) x y H Q
theorem or_add : OpR X (binaryOp .Add) (rAdd X) := OpR.or (OpR.or op_cat (OpR.or op_catA op_add_str)) op_add
theorem SqAt.stay {w' : Wd} {H' : Hp} {M' : Mst} {v : V} {q : Sq} (h : SqAt X w.F H v q) (hF : Same w.F w'.F) : SqAt X w'.F H v q := by
  cases q with
  | l ds => obtain ⟨a, vs, h1, h2, h3⟩ := h; exact ⟨a, vs, h1, h2, h3.mono hF⟩
  | t ds => obtain ⟨a, vs, h1, h2, h3⟩ := h; exact ⟨a, vs, h1, Same.seqT hF h2, h3.mono hF⟩
  | ro ds => obtain ⟨a, vs, h1, h2, h3⟩ := h; exact ⟨a, vs, h1, hF.seq h2, h3.mono hF⟩
  | s x => exact h
theorem DpL.nil_iff {F : Hp} {vs : List V} {ds : List D} (h : DpL X.K X.mg F vs ds) : vs = [] ↔ ds = [] := by cases h <;> simp
theorem op2_cat : Op2 X catR (fun x y H Q => rCat x y H Q ∨ rCatA X.K x y H Q ∨ ∃ i j, x = .str i ∧ y = .str j ∧ i.length + j.length ≤ sizeLine ∧ Q (.str (i ++ j)) H) := by
  intro W σ w H M x y r1 r2 f1 f2 Q m q1 q2 dj p
  unfold catR at p
  cases z1 : src M r1 with
  | none => rw [z1] at p; exact p.elim
  | some s1 =>
    obtain ⟨s1, M1⟩ := s1
    obtain ⟨w1, e1, m1, a1⟩ := src_ok m q1 z1
    have q2' := q2.stay e1 fun a ha hb => dj a hb ha
    rw [z1] at p
    dsimp only at p
    cases z2 : src M1 r2 with
    | none => rw [z2] at p; exact p.elim
    | some s2 =>
      obtain ⟨s2, M2⟩ := s2
      obtain ⟨w2, e2, m2, a2⟩ := src_ok m1 q2' z2
      rw [z2] at p
      have e12 : Ext (f1 ++ f2) w H M w2 H M2 := (e1.mono fun a ha => List.mem_append_left _ ha).trans e2 fun a ha => .inr (.inr (List.mem_append_right _ ha))
      have a1 := a1.stay (H' := H) (M' := M2) e2.F
      cases s1 with
      | ro ds => cases s2 <;> exact p.elim
      | l ds =>
        cases s2 with
        | l es =>
          dsimp only at p
          split at p
          · rename_i hl
            obtain ⟨a, vs, rfl, h1, h2⟩ := a1
            obtain ⟨b, us, rfl, h3, h4⟩ := a2
            exact .inl ⟨a, b, vs, us, rfl, rfl, h1, h3, by rw [h2.length, h4.length]; exact big_le hl, fun q hq => CE.lst p e12 m2 hq (h2.append h4)⟩
          · exact p.elim
        | t _ => exact p.elim
        | ro _ => exact p.elim
        | s _ => exact p.elim
      | t ds =>
        cases s2 with
        | t es =>
          dsimp only at p
          obtain ⟨a, vs, rfl, h1, h2⟩ := a1
          obtain ⟨b, us, rfl, h3, h4⟩ := a2
          have h1' := Same.seqT m2.sub h1
          have h3' := Same.seqT m2.sub h3
          split at p
          · rename_i hl
            refine .inr (.inl ⟨a, b, vs, us, rfl, rfl, h1', h3', by rw [h2.length, h4.length]; exact big_le hl, fun z => ?_, fun z1 z2 => ?_, fun z1 z2 q hq => ?_⟩)
            · have hd := (h2.nil_iff).mp z
              rw [if_pos (by rw [hd]; rfl)] at p
              exact CE.dat p e12 m2 (.tup h3 h4)
            · have hd := (h4.nil_iff).mp z2
              have hd1 : ds ≠ [] := fun q => z1 ((h2.nil_iff).mpr q)
              rw [if_neg (by simpa using hd1), if_pos (by rw [hd]; rfl)] at p
              exact CE.dat p e12 m2 (.tup h1 h2)
            · have hd1 : ds ≠ [] := fun q => z1 ((h2.nil_iff).mpr q)
              have hd2 : es ≠ [] := fun q => z2 ((h4.nil_iff).mpr q)
              rw [if_neg (by simpa using hd1), if_neg (by simpa using hd2)] at p
              exact CE.tup p e12 m2 hq (h2.append h4)
          · exact p.elim
        | l _ => exact p.elim
        | ro _ => exact p.elim
        | s _ => exact p.elim
      | s x' =>
        cases s2 with
        | s y' =>
          dsimp only at p
          split at p
          · rename_i hl
            cases a1; cases a2
            exact .inr (.inr ⟨x', y', rfl, rfl, Nat.le_trans hl cap_le, CE.dat p e12 m2 (.str _)⟩)
          · exact p.elim
        | l _ => exact p.elim
        | ro _ => exact p.elim
        | t _ => exact p.elim
theorem op2_add : Op2 X addR (rAdd X) := Op2.case op2_cat op2_i0

/-! ### slices -/
def cutD (xs : List D) (lo hi : Option Int) : List D := (xs.drop (HT.sIx xs.length 0 lo)).take (HT.sIx xs.length xs.length hi - HT.sIx xs.length 0 lo)
theorem DpL.cut {F : Hp} {vs : List V} {ds : List D} (h : DpL X.K X.mg F vs ds) (lo hi : Option Int) : DpL X.K X.mg F (cutV vs lo hi) (cutD ds lo hi) := by
  unfold cutV cutD
  rw [h.length]
  exact (h.drop _).take _
def slR (lo hi : Option Int) : R → Mst → Out R := fun r M => match src M r with
  | some (.l ds, M1) => .ok (.t (.lst ((cutD ds lo hi).map T.d))) M1
  | some (.ro ds, M1) => .ok (.t (.lst ((cutD ds lo hi).map T.d))) M1
  | some (.t ds, M1) => if HT.sIx ds.length 0 lo = 0 ∧ HT.sIx ds.length ds.length hi = ds.length then .ok (.t (.d (.tup ds))) M1 else .ok (.t (.tup ((cutD ds lo hi).map T.d))) M1
  | some (.s x, M1) => if x.length ≤ strCap then .ok (.t (.d (.str (cutS x lo hi)))) M1 else .bad
  | none => .bad
abbrev DenO := Ev → Mst → Out (Option Int)
def oNone : DenO := fun _ M => .ok none M
def oSome (F : Den) : DenO := fun ρ M => (F ρ M).bind fun r M1 => match frzR M1 r with
  | .int i => .ok (some i) M1
  | _ => .bad
def rdO (X : Cx) (W : WX) (F : DenO) : TO := fun σ H Q => ∃ w ρ M, MR X.K X.mg w H M ∧ ER X.K X.mg w M σ ρ ∧ Post X W σ [] w H M (F ρ M) (fun _ H' _ b => Q b H')
def DO (X : Cx) (W : WX) (e : Option Expr) (F : DenO) : Prop := PO X e (rdO X W F)
theorem _root_.L2.PO.mono {e : Option Expr} {t t' : TO} (h : PO X e t) (k : ∀ σ H Q, t' σ H Q → t σ H Q) : PO X e t' := ⟨fun pins s σ H Q I q => h.run pins s σ H Q I (k _ _ _ q)⟩
theorem do_none : DO X W none oNone := po_none.mono fun σ H Q h => by
  obtain ⟨w, ρ, M, m, er, p⟩ := h
  exact p.now m
theorem do_some (h : DE X W e F) : DO X W (some e) (oSome F) := (po_some h).mono fun σ H Q h => by
  obtain ⟨w, ρ, M, m, er, p⟩ := h
  refine ⟨w, ρ, M, m, er, p.bindF.imp fun w1 H1 M1 r _ _ z => ?_⟩
  obtain ⟨e1, m1, p1⟩ := z
  intro v fp q hf
  replace p1 := p1 [] fun _ z => nomatch z
  have s := seen m1 q
  split at p1
  · rename_i i hi
    rw [hi] at s
    cases s
    exact ⟨i, rfl, p1.now m1⟩
  · exact p1.elim
def eSl (F : Den) (L U : DenO) : Den := fun ρ M => (F ρ M).bind fun r M1 => (L ρ M1).bind fun lo M2 => (U ρ M2).bind fun hi M3 => slR lo hi r M3
theorem de_slice {lo hi : Option Expr} {L U : DenO} (he : DE X W e F) (hl : DO X W lo L) (hu : DO X W hi U) : DE X W (.Subscript e (.Slice lo hi none p2) pos) (eSl F L U) :=
  (pe_slice (SlR.or sl_list (SlR.or sl_tupA sl_str)) he hl hu).mono fun σ H Q h => by
    obtain ⟨w, ρ, M, m, er, p⟩ := h
    refine ⟨w, ρ, M, m, er, p.bindF.imp fun w1 H1 M1 r _ _ z => ?_⟩
    obtain ⟨e1, m1, p1⟩ := z
    intro v fp q hf
    refine ⟨w1, ρ, M1, m1, er.stay e1, (p1 fp hf).bindF.imp fun w2 H2 M2 lo _ _ z => ?_⟩
    obtain ⟨e2, m2, p2⟩ := z
    refine ⟨w2, ρ, M2, m2, (er.stay e1).stay e2, (p2 fp fun a ha => .inr (.inr ha)).bindF.imp fun w3 H3 M3 hi _ _ z => ?_⟩
    obtain ⟨e3, m3, p3⟩ := z
    have q3 := (q.stay e2 fun _ _ z => nomatch z).stay e3 fun _ _ z => nomatch z
    have e13 : Ext [] w H M w3 H3 M3 := (e1.trans0 e2).trans0 e3
    have p4 : Post X W σ fp w3 H3 M3 (slR lo hi r M3) (CE X fp w3 H3 M3 Q) := (p3 fp fun a ha => .inr (.inr ha)).imp fun _ _ _ _ _ _ q => q.from e13 hf
    unfold slR at p4
    cases z : src M3 r with
    | none => rw [z] at p4; exact p4.elim
    | some s =>
      obtain ⟨s, M4⟩ := s
      obtain ⟨w4, e4, m4, a4⟩ := src_ok m3 q3 z
      rw [z] at p4
      cases s with
      | l ds =>
        obtain ⟨a, vs, rfl, h1, h2⟩ := a4
        exact .inl ⟨a, vs, rfl, SqL.of h1, fun q hq => CE.lst p4 e4 m4 hq (h2.cut lo hi)⟩
      | ro ds =>
        obtain ⟨a, vs, rfl, h1, h2⟩ := a4
        exact .inl ⟨a, vs, rfl, m4.sub.seq h1, fun q hq => CE.lst p4 e4 m4 hq (h2.cut lo hi)⟩
      | t ds =>
        obtain ⟨a, vs, rfl, h1, h2⟩ := a4
        dsimp only at p4
        refine .inr (.inl ⟨a, vs, rfl, Same.seqT m4.sub h1, fun z => ?_, fun z q hq => ?_⟩)
        · rw [h2.length] at z
          rw [if_pos z] at p4
          exact CE.dat p4 e4 m4 (.tup h1 h2)
        · rw [h2.length] at z
          rw [if_neg z] at p4
          exact CE.tup p4 e4 m4 hq (h2.cut lo hi)
      | s x =>
        dsimp only at p4
        split at p4
        · rename_i hl
          cases a4
          exact .inr (.inr ⟨x, rfl, Nat.le_trans hl cap_le, CE.dat p4 e4 m4 (.str _)⟩)
        · exact p4.elim

/-! ### items -/
def elems (M : Mst) : R → Option (List T)
  | .t (.lst ts) => some ts
  | .t (.tup ts) => some ts
  | .t (.d (.lst ds)) => some (ds.map T.d)
  | .t (.d (.tupP _ ds)) => some (ds.map T.d)
  | .t _ => none
  | .h k => match M.getD k (.d .non) with
    | .lst ts => (allD ts).map fun ds => ds.map T.d
    | .d (.lst ds) => some (ds.map T.d)
    | .d (.tupP _ ds) => some (ds.map T.d)
    | _ => none
theorem elems_ok {v : V} {r : R} {fp : List Addr} {ts : List T} (m : MR X.K X.mg w H M) (h : RR X.K X.mg w H M v r fp) (e : elems M r = some ts) :
    ∃ a vs f, v = .ref a ∧ (SqL X.K H a vs ∨ SqT X.K H a vs) ∧ TRL X.K X.mg w.F H vs ts f ∧ f.Nodup ∧ (∀ b ∈ f, b ∈ fp) ∧ ∀ b ∈ f, ∀ k, k < M.length → b ∉ w.φ k := by
  cases r with
  | t x =>
    obtain ⟨h1, h2, h3⟩ := h
    cases x with
    | lst ts' =>
      cases e
      cases h1 with
      | lst q1 q2 q3 => exact ⟨_, _, _, rfl, .inl (SqL.of q1), q3, (List.nodup_cons.mp h2).2, fun b hb => List.mem_cons_of_mem _ hb, fun b hb => h3 b (List.mem_cons_of_mem _ hb)⟩
    | tup ts' =>
      cases e
      cases h1 with
      | tup q1 q2 q3 => exact ⟨_, _, _, rfl, .inr (SqT.of q1), q3, (List.nodup_cons.mp h2).2, fun b hb => List.mem_cons_of_mem _ hb, fun b hb => h3 b (List.mem_cons_of_mem _ hb)⟩
    | ins c fs => cases e
    | dic _ => cases e
    | d d =>
      cases h1 with
      | d h1 =>
        cases d with
        | lst ds => cases e; cases h1 with | lst q1 q2 => exact ⟨_, _, [], rfl, .inl (SqL.of (m.sub _ _ q1)), q2.trees, List.nodup_nil, (fun _ z => nomatch z), fun _ z => nomatch z⟩
        | tupP p0 ds => cases e; cases h1 with | tupP q1 q2 => exact ⟨_, _, [], rfl, .inr (Same.seqT m.sub q1.1), q2.trees, List.nodup_nil, (fun _ z => nomatch z), fun _ z => nomatch z⟩
        | non => cases e
        | bl _ => cases e
        | int _ => cases e
        | str _ => cases e
        | ins _ _ => cases e
        | glo _ => cases e
        | ty _ => cases e
        | dic _ => cases e
        | junk => cases e
        | ro _ => cases e
  | h k =>
    obtain ⟨hk, rfl, rfl⟩ := h
    obtain ⟨x, hx⟩ : ∃ x, M[k]? = some x := ⟨M[k], List.getElem?_eq_getElem hk⟩
    have q := (m.obj k x hx).1
    unfold elems at e
    dsimp only at e
    rw [getD_of hx] at e
    generalize w.φ k = fp at q
    generalize hv : V.ref (w.α k) = v at q
    cases q with
    | lst h1 h2 h3 =>
      dsimp only at e
      rename_i ts0 _
      cases z : allD ts0 with
      | none => rw [z] at e; cases e
      | some ds =>
        rw [z] at e
        cases e
        cases hv
        exact ⟨_, _, [], rfl, .inl (SqL.of h1), (allD_at h3 z).trees, List.nodup_nil, (fun _ z => nomatch z), fun _ z => nomatch z⟩
    | d h1 =>
      cases h1 with
      | lst q1 q2 => cases e; cases hv; exact ⟨_, _, [], rfl, .inl (SqL.of (m.sub _ _ q1)), q2.trees, List.nodup_nil, (fun _ z => nomatch z), fun _ z => nomatch z⟩
      | tupP q1 q2 => cases e; cases hv; exact ⟨_, _, [], rfl, .inr (Same.seqT m.sub q1.1), q2.trees, List.nodup_nil, (fun _ z => nomatch z), fun _ z => nomatch z⟩
      | non => cases e
      | bl _ => cases e
      | int _ => cases e
      | str _ => cases e
      | ro _ _ => cases e
      | ins _ _ _ => cases e
      | glo _ => cases e
      | ty _ => cases e
      | dic _ _ => cases e
      | junk _ => cases e
    | tup h1 h2 h3 => cases e
    | ins h1 h2 h3 h4 => cases e
    | dic _ _ _ => cases e
theorem trl_get : ∀ {vs : List V} {ts : List T} {f : List Addr} {i : Nat} {t : T}, TRL X.K X.mg w.F H vs ts f → f.Nodup → ts[i]? = some t → ∃ v f', vs[i]? = some v ∧ TR X.K X.mg w.F H v t f' ∧ f'.Nodup ∧ ∀ b ∈ f', b ∈ f
  | _, _, _, _, _, .nil, _, e => by simp at e
  | _, _, _, 0, _, .cons h _, nd, e => by simp at e; subst e; exact ⟨_, _, rfl, h, (List.nodup_append.mp nd).1, fun b hb => List.mem_append_left _ hb⟩
  | _, _, _, i + 1, _, .cons _ r, nd, e => by
    obtain ⟨v, f', h1, h2, h3, h4⟩ := trl_get (i := i) r (List.nodup_append.mp nd).2.1 (by simpa using e)
    exact ⟨v, f', by simpa using h1, h2, h3, fun b hb => List.mem_append_right _ (h4 b hb)⟩
def getR : R → R → Mst → Out R := fun r1 r2 M => match frzR M r2 with
  | .int i => (match elems M r1 with
    | some ts => (match atI ts i with
      | some t => .ok (.t t) M
      | none => .bad)
    | none => (match frzR M r1 with
      | .str x => (match atI x.cps.toList i with
        | some c => if x.length ≤ strCap then .ok (.t (.d (.str ⟨#[c]⟩))) M else .bad
        | none => .bad)
      | _ => .bad))
  | _ => .bad
theorem op2_get : Op2 X getR (rIx X.K) := by
  intro W σ w H M x y r1 r2 f1 f2 Q m q1 q2 dj p
  unfold getR at p
  have s2 := seen m q2
  split at p
  · rename_i i hi
    rw [hi] at s2
    cases s2
    split at p
    · rename_i ts hts
      obtain ⟨a, vs, f, rfl, hs, q, nd, hf, hφ⟩ := elems_ok m q1 hts
      split at p
      · rename_i t ht
        have hl := q.length
        unfold atI at ht
        cases z : ixN ts.length i with
        | none => rw [z] at ht; cases ht
        | some j =>
          rw [z] at ht
          obtain ⟨v, f', h1, h2, h3, h4⟩ := trl_get q nd (show ts[j]? = some t from ht)
          have ev : atI vs i = some v := by unfold atI; rw [hl, z]; exact h1
          have fin : Q v H := (p.now m) v f' ⟨h2, h3, fun b hb => hφ b (h4 b hb)⟩ fun b hb => .inr (.inr (List.mem_append_left _ (hf b (h4 b hb))))
          rcases hs with hs | hs
          · exact .inl ⟨a, vs, i, v, rfl, rfl, hs, ev, fin⟩
          · exact .inr (.inl ⟨a, vs, i, v, rfl, rfl, hs, ev, fin⟩)
      · exact p.elim
    · have s1 := seen m q1
      split at p
      · rename_i z hz
        rw [hz] at s1
        cases s1
        split at p
        · rename_i c hc
          split at p
          · rename_i hl
            exact .inr (.inr ⟨z, i, c, rfl, rfl, Nat.le_trans hl cap_le, hc, (p.now m).val (C := fun _ => r1) (.str _)⟩)
          · exact p.elim
        · exact p.elim
      · exact p.elim
  · exact p.elim
theorem de_get (ha : DE X W a Fa) (hb : DE X W b Fb) (hs : PlainIx b := by exact fun _ _ => rfl) : DE X W (.Subscript a b pos) (eSeq2 getR Fa Fb) := (pe_ix ix_seq ha hb hs).mono fun _ _ _ h => rd_op op2_get h
end
end DL

/-! DL11: ==, in, isinstance, built-in functions -/
namespace DL
open PySem L2 PySem.Spec PyProof.Rows
/-! ### data as the library has it -/
mutual
def pyd : D → PyData
  | .non => .none
  | .bl b => .bool b
  | .int i => .int i
  | .str x => .str x
  | .lst ds => .list (pydL ds)
  | .tupP _ ds => .tuple (pydL ds)
  | .ins _ _ => .dict []
  | .glo _ => .dict []
  | .ty _ => .dict []
  | .ro _ => .dict []
  | .dic _ => .dict []
  | .junk => .dict []
def pydL : List D → List PyData
  | [] => []
  | d :: r => pyd d :: pydL r
end
def okD : Nat → D → Bool
  | _, .non => true
  | _, .bl _ => true
  | _, .int _ => true
  | _, .str x => PyData.strOk x
  | 0, _ => false
  | n + 1, .lst ds => ds.all (okD n)
  | n + 1, .tupP _ ds => ds.all (okD n)
  | _ + 1, _ => false
section
variable {K : PySem.W.Frag} {mg : Mg} {H : Hp}
mutual
theorem Dp.py : ∀ (n : Nat) {v : V} {d : D}, Dp K mg H v d → okD n d = true → L2.Dp K H v (pyd d)
  | _, _, _, .non, _ => by unfold pyd; exact .non
  | _, _, _, .bl b, _ => by unfold pyd; exact .bl b
  | _, _, _, .int i, _ => by unfold pyd; exact .int i
  | _, _, _, .str x, _ => by unfold pyd; exact .str x
  | n + 1, _, _, .lst h l, o => by unfold pyd; exact .lst (SqL.of h) (DpL.py n l (by simpa [okD] using o))
  | n + 1, _, _, .tupP h l, o => by unfold pyd; exact .tup h.1 (DpL.py n l (by simpa [okD] using o))
  | 0, _, _, .lst h l, o => by simp [okD] at o
  | 0, _, _, .tupP h l, o => by simp [okD] at o
  | n, _, _, .ro h l, o => by cases n <;> simp [okD] at o
  | n, _, _, .ins h l _, o => by cases n <;> simp [okD] at o
  | n, _, _, .glo h, o => by cases n <;> simp [okD] at o
  | n, _, _, .ty _, o => by cases n <;> simp [okD] at o
  | n, _, _, .dic _ _, o => by cases n <;> simp [okD] at o
  | n, _, _, .junk _, o => by cases n <;> simp [okD] at o
theorem DpL.py : ∀ (n : Nat) {v : List V} {d : List D}, DpL K mg H v d → (∀ x ∈ d, okD n x = true) → L2.DpAll K H v (pydL d)
  | _, _, _, .nil, _ => by unfold pydL; exact .nil
  | n, _, _, .cons h r, o => by unfold pydL; exact .cons (Dp.py n h (o _ List.mem_cons_self)) (DpL.py n r fun x hx => o x (List.mem_cons_of_mem _ hx))
end
theorem pydL_map (ds : List D) : pydL ds = ds.map pyd := by
  induction ds with
  | nil => rfl
  | cons x r ih => simp [pydL, ih]
theorem lay_all {ds : List PyData} (h : ∀ x ∈ ds, x.canLay0 = true) : PyData.canLayAll0 ds = true := by
  induction ds with
  | nil => rfl
  | cons x r ih => simp only [PyData.canLayAll0, Bool.and_eq_true]; exact ⟨h x List.mem_cons_self, ih fun y hy => h y (List.mem_cons_of_mem _ hy)⟩
theorem depth_all {ds : List PyData} {n : Nat} (h : ∀ x ∈ ds, x.depth ≤ n) : PyData.depthAll ds ≤ n := by
  induction ds with
  | nil => exact Nat.zero_le _
  | cons x r ih => simp only [PyData.depthAll]; exact Nat.max_le.mpr ⟨h x List.mem_cons_self, ih fun y hy => h y (List.mem_cons_of_mem _ hy)⟩
theorem okD_shape : ∀ (n : Nat) (d : D), okD n d = true → (pyd d).canLay0 = true ∧ (pyd d).depth ≤ n
  | n, .non, _ => ⟨by simp [pyd, PyData.canLay0], by simp [pyd, PyData.depth]⟩
  | n, .bl _, _ => ⟨by simp [pyd, PyData.canLay0], by simp [pyd, PyData.depth]⟩
  | n, .int _, _ => ⟨by simp [pyd, PyData.canLay0], by simp [pyd, PyData.depth]⟩
  | n, .str x, h => ⟨by cases n <;> simpa [pyd, PyData.canLay0, okD] using h, by simp [pyd, PyData.depth]⟩
  | n + 1, .lst ds, h => by
    have o : ∀ x ∈ ds, okD n x = true := by simpa [okD] using h
    simp only [pyd, PyData.canLay0, PyData.depth, pydL_map]
    refine ⟨lay_all fun x hx => ?_, Nat.succ_le_succ (depth_all fun x hx => ?_)⟩
    · obtain ⟨d, hd, rfl⟩ := List.mem_map.mp hx
      exact (okD_shape n d (o d hd)).1
    · obtain ⟨d, hd, rfl⟩ := List.mem_map.mp hx
      exact (okD_shape n d (o d hd)).2
  | n + 1, .tupP _ ds, h => by
    have o : ∀ x ∈ ds, okD n x = true := by simpa [okD] using h
    simp only [pyd, PyData.canLay0, PyData.depth, pydL_map]
    refine ⟨lay_all fun x hx => ?_, Nat.succ_le_succ (depth_all fun x hx => ?_)⟩
    · obtain ⟨d, hd, rfl⟩ := List.mem_map.mp hx
      exact (okD_shape n d (o d hd)).1
    · obtain ⟨d, hd, rfl⟩ := List.mem_map.mp hx
      exact (okD_shape n d (o d hd)).2
  | 0, .lst _, h => by simp [okD] at h
  | 0, .tupP _ _, h => by simp [okD] at h
  | n, .ro _, h => by cases n <;> simp [okD] at h
  | n, .ins _ _, h => by cases n <;> simp [okD] at h
  | n, .glo _, h => by cases n <;> simp [okD] at h
  | n, .ty _, h => by cases n <;> simp [okD] at h
  | n, .dic _, h => by cases n <;> simp [okD] at h
  | n, .junk, h => by cases n <;> simp [okD] at h
theorem okD_shaped {n : Nat} {d : D} (hn : n ≤ 64) (h : okD n d = true) : SeqAt.shaped (pyd d) = true := by
  obtain ⟨h1, h2⟩ := okD_shape n d h
  unfold SeqAt.shaped
  rw [h1, Bool.true_and, decide_eq_true (Nat.le_trans h2 hn)]
end
def eqv (a b : D) : Bool := PyData.eqv (pyd a) (pyd b)
def eqOp (a b : D) : Option D := if okD 12 a = true ∧ okD 12 b = true then some (.bl (eqv a b)) else none
def neOp (a b : D) : Option D := if okD 12 a = true ∧ okD 12 b = true then some (.bl (!eqv a b)) else none
def strEq : D → D → Option D
  | .str x, .str y => some (.bl (decide (x = y)))
  | _, _ => none
def strNe : D → D → Option D
  | .str x, .str y => some (.bl (!decide (x = y)))
  | _, _ => none
def isStr : D → Bool
  | .str _ => true
  | _ => false
def eqR : R → R → Mst → Out R := case2 (fun a b => isStr a && isStr b) (sc2 strEq) (sc2 eqOp)
def neR : R → R → Mst → Out R := case2 (fun a b => isStr a && isStr b) (sc2 strNe) (sc2 neOp)
def flatD : D → Bool
  | .non => true
  | .bl _ => true
  | .int _ => true
  | .str _ => true
  | _ => false
def memD (x : D) (ds : List D) : Bool := ds.any fun y => eqv y x
def inOp (neg : Bool) (x c : D) : Option D := match c with
  | .lst ds => if (flatD x = true ∧ ds.all flatD = true) ∨ (okD 12 x = true ∧ okD 12 (.lst ds) = true) then some (.bl (if neg then !memD x ds else memD x ds)) else none
  | .tupP _ ds => if flatD x = true ∧ ds.all flatD = true then some (.bl (if neg then !memD x ds else memD x ds)) else none
  | .str z => (match x with
    | .str y => (match y.cps.toList with
      | [a] => some (.bl (if neg then !decide (a ∈ z.cps.toList) else decide (a ∈ z.cps.toList)))
      | _ => none)
    | _ => none)
  | _ => none
section
variable {X : Cx} {W : WX} {σ : L2.St} {fs gs : List Addr} {w w2 : Wd} {H H2 : Hp} {M M2 : Mst}
variable {e o a b c : Expr} {es : List Expr} {F Fa Fb Fc : Den} {A : DenA} {pos p apos cpos p2 : Pos} {x m : Str}
theorem or_eq (hu : X.A.units + 64 < cLine) : OpR X (compareOp .Eq) (fun x y H Q => rEq x y H Q ∨ rEqD X.K x y H Q) := OpR.or op_eq (op_eqD hu)
theorem or_ne (hu : X.A.units + 64 < cLine) : OpR X (compareOp .NotEq) (fun x y H Q => rNe x y H Q ∨ rNeD X.K x y H Q) := OpR.or op_ne (op_neD hu)
theorem dec_strV (x y : Str) : decide (V.str x = V.str y) = decide (x = y) := by
  by_cases h : x = y
  · rw [h]; simp
  · rw [decide_eq_false h, decide_eq_false fun z => h (V.str.inj z)]
theorem op2_eq : Op2 X eqR (fun x y H Q => rEq x y H Q ∨ rEqD X.K x y H Q) := Op2.case (op2_sc fun F H x y d1 d2 d Q h1 h2 hd q => by
    unfold strEq at hd
    split at hd
    · cases h1; cases h2; cases hd
      exact ⟨rfl, by rw [dec_strV]; exact q _ (.bl _)⟩
    · cases hd) (op2_sc fun F H x y d1 d2 d Q h1 h2 hd q => by
    unfold eqOp at hd
    split at hd
    · rename_i hk
      cases hd
      exact ⟨_, _, Dp.py 12 h1 hk.1, Dp.py 12 h2 hk.2, okD_shaped (by decide) hk.1, okD_shaped (by decide) hk.2, q _ (.bl _)⟩
    · cases hd)
theorem op2_ne : Op2 X neR (fun x y H Q => rNe x y H Q ∨ rNeD X.K x y H Q) := Op2.case (op2_sc fun F H x y d1 d2 d Q h1 h2 hd q => by
    unfold strNe at hd
    split at hd
    · cases h1; cases h2; cases hd
      exact ⟨rfl, by rw [dec_strV]; exact q _ (.bl _)⟩
    · cases hd) (op2_sc fun F H x y d1 d2 d Q h1 h2 hd q => by
    unfold neOp at hd
    split at hd
    · rename_i hk
      cases hd
      exact ⟨_, _, Dp.py 12 h1 hk.1, Dp.py 12 h2 hk.2, okD_shaped (by decide) hk.1, okD_shaped (by decide) hk.2, q _ (.bl _)⟩
    · cases hd)
theorem flat_V {K : PySem.W.Frag} {mg : Mg} {F : Hp} {v : V} {d : D} (h : Dp K mg F v d) (f : flatD d = true) : flatV v = true := by cases h <;> first | rfl | cases f
theorem flat_eqv {K : PySem.W.Frag} {mg : Mg} {F : Hp} {v u : V} {d e : D} (h : Dp K mg F v d) (f : flatD d = true) (h' : Dp K mg F u e) (f' : flatD e = true) : eqV v u = eqv d e := by
  cases h <;> first | (cases f) | skip
  all_goals (cases h' <;> first | (simp [eqV, eqv, pyd, PyData.eqv]; done) | (cases f'))
theorem flat_mem {K : PySem.W.Frag} {mg : Mg} {F : Hp} {v : V} {d : D} (h : Dp K mg F v d) (f : flatD d = true) : ∀ {vs : List V} {ds : List D}, DpL K mg F vs ds → ds.all flatD = true → vs.all flatV = true ∧ inV v vs = memD d ds
  | _, _, .nil, _ => ⟨rfl, rfl⟩
  | _, _, .cons h' r, g => by
    rw [List.all_cons, Bool.and_eq_true] at g
    obtain ⟨i1, i2⟩ := flat_mem h f r g.2
    refine ⟨by rw [List.all_cons, flat_V h' g.1, i1]; rfl, ?_⟩
    unfold inV memD at i2 ⊢
    rw [List.any_cons, List.any_cons, i2, flat_eqv h' g.1 h f]
def rInA (X : Cx) (neg : Bool) : R2 := fun x y H Q => (rIn X.K neg x y H Q ∨ (if neg then rNotInD X.K else rInD X.K) x y H Q) ∨ ∃ (c : Nat) (z : Str), x = .str ⟨#[c]⟩ ∧ y = .str z ∧ Q (.bl (if neg then !decide (c ∈ z.cps.toList) else decide (c ∈ z.cps.toList))) H
theorem or_in (hu : X.A.units + 65 < cLine) : OpR X (compareOp .In) (rInA X false) := OpR.or (OpR.or op_in_seq (op_inD hu)) op_in_sign
theorem or_notIn (hu : X.A.units + 65 < cLine) : OpR X (compareOp .NotIn) (rInA X true) := OpR.or (OpR.or op_notIn_seq (op_notInD hu)) op_notIn_sign
theorem mem_py {d : D} : ∀ {ds : List D}, ((pydL ds).any fun z => PyData.eqv z (pyd d)) = memD d ds
  | [] => rfl
  | x :: r => by
    unfold memD pydL
    rw [List.any_cons, List.any_cons, mem_py]
    rfl
theorem op2_in (neg : Bool) : Op2 X (sc2 (inOp neg)) (rInA X neg) := op2_sc fun F H x y d1 d2 d Q h1 h2 hd q => by
  unfold inOp at hd
  split at hd
  · split at hd
    · rename_i ds hk
      cases hd
      rcases hk with hk | hk
      · cases h2 with
        | lst h l =>
          obtain ⟨g1, g2⟩ := flat_mem h1 hk.1 l hk.2
          exact .inl (.inl ⟨_, _, rfl, .inl (SqL.of h), flat_V h1 hk.1, g1, by rw [g2]; exact q _ (.bl _)⟩)
      · have h2' := Dp.py 12 h2 hk.2
        refine .inl (.inr ?_)
        have s1 := okD_shaped (by decide) hk.1
        have s2 := okD_shaped (by decide) hk.2
        unfold pyd at h2' s2
        cases neg with
        | true => exact ⟨_, _, Dp.py 12 h1 hk.1, h2', s1, s2, by rw [mem_py]; exact q _ (.bl _)⟩
        | false => exact ⟨_, _, Dp.py 12 h1 hk.1, h2', s1, s2, by rw [mem_py]; exact q _ (.bl _)⟩
    · cases hd
  · split at hd
    · rename_i ds hk
      cases hd
      cases h2 with
      | tupP h l =>
        obtain ⟨g1, g2⟩ := flat_mem h1 hk.1 l hk.2
        exact .inl (.inl ⟨_, _, rfl, .inr h.1, flat_V h1 hk.1, g1, by rw [g2]; exact q _ (.bl _)⟩)
    · cases hd
  · split at hd
    · rename_i z _ y
      split at hd
      · rename_i c hc
        cases hd
        cases h1; cases h2
        have ey : y = ⟨#[c]⟩ := by
          cases y with
          | mk cps =>
            have : cps = #[c] := by
              apply Array.toList_inj.mp
              rw [hc]
            rw [this]
        exact .inr ⟨c, _, by rw [ey], rfl, q _ (.bl _)⟩
      · cases hd
    · cases hd
  · cases hd
/-! ### is None -/
def isNonD : D → Bool
  | .non => true
  | _ => false
def isN (neg : Bool) (a b : D) : Option D := if isNonD b = true then some (.bl (if neg then !isNonD a else isNonD a)) else none
theorem non_dec {K : PySem.W.Frag} {mg : Mg} {F : Hp} {v : V} {d : D} (h : Dp K mg F v d) : decide (v = .non) = isNonD d := by cases h <;> simp [isNonD]
theorem op2_isN : Op2 X (sc2 (isN false)) (fun x y H Q => y = .non ∧ Q (.bl (decide (x = .non))) H) := op2_sc fun F H x y d1 d2 d Q h1 h2 hd q => by
  unfold isN at hd
  split at hd
  · rename_i hk
    cases hd
    cases h2 <;> first | (cases hk) | skip
    exact ⟨rfl, by rw [non_dec h1]; exact q _ (.bl _)⟩
  · cases hd
theorem op2_notN : Op2 X (sc2 (isN true)) (fun x y H Q => y = .non ∧ Q (.bl (!decide (x = .non))) H) := op2_sc fun F H x y d1 d2 d Q h1 h2 hd q => by
  unfold isN at hd
  split at hd
  · rename_i hk
    cases hd
    cases h2 <;> first | (cases hk) | skip
    exact ⟨rfl, by rw [non_dec h1]; exact q _ (.bl _)⟩
  · cases hd

/-! ### a * b, // % ** -/
def mulC (i j : Int) : Bool := (decide (-(2 ^ 64) < i) && decide (i < 2 ^ 64)) || (decide (-(2 ^ 64) < j) && decide (j < 2 ^ 64))
def repR : R → R → Mst → Out R := fun r1 r2 M => match src M r1 with
  | some (.l ds, M1) => (match frzR M1 r2 with
    | .int k => if k < 1000000 ∧ -1000000 < k ∧ ds.length * k.toNat ≤ 1000000 then .ok (.t (.lst ((List.replicate k.toNat ds).flatten.map T.d))) M1 else .bad
    | _ => .bad)
  | _ => .bad
def mulR : R → R → Mst → Out R := case2 (fun a _ => isSq a) repR (sc2 (iOp mulC (· * ·)))
theorem DpL.flat {F : Hp} {vs : List V} {ds : List D} (h : DpL X.K X.mg F vs ds) : ∀ n : Nat, DpL X.K X.mg F (List.replicate n vs).flatten (List.replicate n ds).flatten
  | 0 => .nil
  | n + 1 => by
    rw [List.replicate_succ, List.replicate_succ, List.flatten_cons, List.flatten_cons]
    exact h.append (DpL.flat h n)
theorem or_mul : OpR X (binaryOp .Mult) (fun x y H Q => rRep x y H Q ∨ rI CMul (fun i j => .int (i * j)) x y H Q) := OpR.or op_rep op_mul
theorem op2_mul : Op2 X mulR (fun x y H Q => rRep x y H Q ∨ rI CMul (fun i j => .int (i * j)) x y H Q) := by
  refine Op2.case ?_ (op2_i fun i j h => ?_)
  · intro W σ w H M x y r1 r2 f1 f2 Q m q1 q2 dj p
    unfold repR at p
    split at p
    · rename_i ds M1 z
      obtain ⟨w1, e1, m1, a1⟩ := src_ok m q1 z
      have q2' := q2.stay e1 fun a ha hb => dj a hb ha
      have s2 := seen m1 q2'
      split at p
      · rename_i k hk
        rw [hk] at s2
        cases s2
        split at p
        · rename_i hb
          obtain ⟨a, vs, rfl, h1, h2⟩ := a1
          exact ⟨a, k, vs, rfl, rfl, h1, by omega, by omega, by rw [h2.length]; exact big_le hb.2.2, fun q hq => CE.lst p (e1.mono fun a ha => List.mem_append_left _ ha) m1 hq (h2.flat _)⟩
        · exact p.elim
      · exact p.elim
    · exact p.elim
  · unfold mulC at h
    unfold CMul
    simpa using h
def divC (_ j : Int) : Bool := decide (0 < j) && decide (j < 10 ^ 60)
theorem op2_div : Op2 X (sc2 (iOp divC (· / ·))) (rI CDivW fun i j => .int (i / j)) := op2_i fun i j h => by
  unfold divC at h
  simp only [Bool.and_eq_true, decide_eq_true_eq] at h
  exact wide_div (b := 200) h.1 (by have : (10 : Int) ^ 60 < 2 ^ 200 := by decide
                                    omega) (by decide) (by decide)
def modC (_ j : Int) : Bool := decide (0 < j)
theorem op2_mod : Op2 X (sc2 (iOp modC (· % ·))) (rI (fun _ j => 0 < j) fun i j => .int (i % j)) := op2_i fun i j h => by simpa [modC] using h
def powC (i j : Int) : Bool := decide (0 ≤ j) && decide (j ≤ 1000) && decide (i.natAbs < 2 ^ 64)
theorem op2_pow : Op2 X (sc2 (iOp powC fun i j => i ^ j.toNat)) (rI CPow fun i j => .int (i ^ j.toNat)) := op2_i fun i j h => by
  unfold powC at h
  simp only [Bool.and_eq_true, decide_eq_true_eq] at h
  exact ⟨h.1.1, by omega, h.2⟩

/-! ### built-in functions -/
def OpL (X : Cx) (g : List R → Mst → Out R) (r : List V → Hp → VK → Prop) : Prop := ∀ (W : WX) (σ : L2.St) (w : Wd) (H : Hp) (M : Mst) (xs : List V) (rs : List R) (fp : List Addr) (Q : VK), MR X.K X.mg w H M →
  RRL X.K X.mg w H M xs rs fp → Post X W σ fp w H M (g rs M) (CE X fp w H M Q) → r xs H Q
def eB (g : List R → Mst → Out R) (A : DenA) : Den := fun ρ M => (A ρ M).bind g
theorem rd_b {g : List R → Mst → Out R} {r : List V → Hp → VK → Prop} (hg : OpL X g r) {Q : VK} (h : rdE X W (eB g A) σ H Q) : rdA X W A σ H (fun vs H1 => r vs H1 Q) := by
  obtain ⟨w, ρ, M, m, er, p⟩ := h
  refine ⟨w, ρ, M, m, er, p.bindF.imp fun w1 H1 M1 rs _ _ z => ?_⟩
  obtain ⟨e1, m1, p1⟩ := z
  intro vs fp q hf
  exact hg W σ w1 H1 M1 vs rs fp Q m1 q ((p1 fp hf).imp fun _ _ _ _ _ _ q => q.from e1 hf)
theorem de_callB {id : String} {r : List V → Hp → VK → Prop} {g : List R → Mst → Out R} (hc : CallR X (.builtin id) r) (hr : OpL X g r) (hg : Gl X x) (hm : X.mg x = none) (hv : bootBuiltins x = some (.builtin id)) (ha : DA X W (e :: es) A) (hn : x ≠ "__name__" := by decide) (hdb : (x == ("__debug__" : Str)) = false := by decide)
    (he : starEach (e :: es) X.env = (false, eval e X.env) :: starEach es X.env := by rfl) (hpl : (backTo pos (starEach es X.env)).any (·.1) = false := by rfl) : DE X W (.Call (.Name x p) (e :: es) [] pos) (eB g A) :=
  (pe_callB hc hg hm hv ha hn hdb he hpl).mono fun _ _ _ h => rd_b hr h
theorem de_callTy {T : String} {r : List V → Hp → VK → Prop} {g : List R → Mst → Out R} (hc : CallR X (.type T) r) (hr : OpL X g r) (hg : Gl X x) (hm : X.mg x = none) (hv : bootBuiltins x = some (.type T)) (ha : DA X W (e :: es) A) (hn : x ≠ "__name__" := by decide) (hdb : (x == ("__debug__" : Str)) = false := by decide)
    (he : starEach (e :: es) X.env = (false, eval e X.env) :: starEach es X.env := by rfl) (hpl : (backTo pos (starEach es X.env)).any (·.1) = false := by rfl) : DE X W (.Call (.Name x p) (e :: es) [] pos) (eB g A) :=
  (pe_callTy hc hg hm hv ha hn hdb he hpl).mono fun _ _ _ h => rd_b hr h
/-- a scalar of what the arguments are worth now -/
def scL (h : List D → Option D) : List R → Mst → Out R := fun rs M => match h (rs.map (frzR M)) with
  | some x => .ok (.t (.d x)) M
  | none => .bad
theorem opL_sc {h : List D → Option D} {r : List V → Hp → VK → Prop} (hh : ∀ (F : Hp) (H : Hp) (xs : List V) (ds : List D) (d : D) (Q : VK), DpL X.K X.mg H xs ds → h ds = some d → (∀ v, Dp X.K X.mg F v d → Q v H) → r xs H Q) : OpL X (scL h) r := by
  intro W σ w H M xs rs fp Q m q p
  unfold scL at p
  split at p
  · rename_i d hd
    exact hh w.F H xs _ d Q (seenL m q) hd fun v hv => (p.now m).val (C := fun _ => .t (.d d)) hv
  · exact p.elim
def lenD : List D → Option D
  | [.lst ds] => some (.int (ds.length : Nat))
  | [.tupP _ ds] => some (.int (ds.length : Nat))
  | [.ro ds] => some (.int (ds.length : Nat))
  | [.str x] => if x.length ≤ strCap then some (.int (x.length : Nat)) else none
  | _ => none
theorem opL_len : OpL X (scL lenD) (fun xs H Q => ∃ x n, xs = [x] ∧ LenV X.K x H n ∧ Q (.int n) H) := opL_sc fun F H xs ds d Q h hd q => by
  unfold lenD at hd
  split at hd
  · cases hd
    cases h with
    | cons h1 h2 => cases h2; cases h1 with | lst h l => exact ⟨_, _, rfl, .inl ⟨_, SqL.of h, l.length.symm⟩, q _ (.int _)⟩
  · cases hd
    cases h with
    | cons h1 h2 => cases h2; cases h1 with | tupP h l => exact ⟨_, _, rfl, .inr ⟨_, h.1, l.length.symm⟩, q _ (.int _)⟩
  · cases hd
    cases h with
    | cons h1 h2 => cases h2; cases h1 with | ro h l => exact ⟨_, _, rfl, .inl ⟨_, h, l.length.symm⟩, q _ (.int _)⟩
  · split at hd
    · rename_i hl
      cases hd
      cases h with
      | cons h1 h2 => cases h2; cases h1; exact ⟨_, _, rfl, ⟨Nat.le_trans hl cap_le, rfl⟩, q _ (.int _)⟩
    · cases hd
  · cases hd
def boolsD : List D → Option (List Bool)
  | [] => some []
  | .bl b :: r => (boolsD r).map (b :: ·)
  | _ => none
theorem bools_at {F : Hp} : ∀ {vs : List V} {ds : List D} {bs : List Bool}, DpL X.K X.mg F vs ds → boolsD ds = some bs → vs = bs.map V.bl := by
  intro vs ds
  induction ds generalizing vs with
  | nil => intro bs h e; cases h; cases e; rfl
  | cons x r ih =>
    intro bs h e
    cases h with
    | cons h1 h2 =>
      cases x with
      | bl b =>
        unfold boolsD at e
        cases z : boolsD r with
        | none => rw [z] at e; cases e
        | some bs' => rw [z] at e; cases e; cases h1; rw [List.map_cons, ih h2 z]
      | non => cases e
      | int _ => cases e
      | str _ => cases e
      | lst _ => cases e
      | tupP _ _ => cases e
      | ins _ _ => cases e
      | glo _ => cases e
      | ty _ => cases e
      | dic _ => cases e
      | junk => cases e
      | ro _ => cases e
def allDD : List D → Option D
  | [.lst ds] => (boolsD ds).map fun bs => .bl (bs.all id)
  | _ => none
def anyDD : List D → Option D
  | [.lst ds] => (boolsD ds).map fun bs => .bl (bs.any id)
  | _ => none
theorem opL_all : OpL X (scL allDD) (rAll X.K) := opL_sc fun F H xs ds d Q h hd q => by
  unfold allDD at hd
  split at hd
  · rename_i ds
    cases z : boolsD ds with
    | none => rw [z] at hd; cases hd
    | some bs =>
      rw [z] at hd; cases hd
      cases h with
      | cons h1 h2 => cases h2; cases h1 with | lst h l => exact ⟨_, bs, rfl, by rw [← bools_at l z]; exact SqL.of h, q _ (.bl _)⟩
  · cases hd
theorem opL_any : OpL X (scL anyDD) (rAny X.K) := opL_sc fun F H xs ds d Q h hd q => by
  unfold anyDD at hd
  split at hd
  · rename_i ds
    cases z : boolsD ds with
    | none => rw [z] at hd; cases hd
    | some bs =>
      rw [z] at hd; cases hd
      cases h with
      | cons h1 h2 => cases h2; cases h1 with | lst h l => exact ⟨_, bs, rfl, by rw [← bools_at l z]; exact SqL.of h, q _ (.bl _)⟩
  · cases hd
def intD : List D → Option D
  | [.int i] => some (.int i)
  | [.bl b] => some (.int (if b then 1 else 0))
  | _ => none
theorem opL_int : OpL X (scL intD) (fun xs H Q => (∃ i, xs = [.int i] ∧ Q (.int i) H) ∨ ∃ k, xs = [.bl k] ∧ Q (.int (if k then 1 else 0)) H) := opL_sc fun F H xs ds d Q h hd q => by
  unfold intD at hd
  split at hd
  · cases hd
    cases h with
    | cons h1 h2 => cases h2; cases h1; exact .inl ⟨_, rfl, q _ (.int _)⟩
  · cases hd
    cases h with
    | cons h1 h2 => cases h2; cases h1; exact .inr ⟨_, rfl, q _ (.int _)⟩
  · cases hd
end
end DL

/-! DL12: list(), tuple(), str(), sum, max, min, sorted, isinstance; methods of texts; lists changed -/
namespace DL
open PySem L2 PySem.Spec PyProof.Rows
section
variable {X : Cx} {W : WX} {σ : L2.St} {fs gs : List Addr} {w w2 : Wd} {H H2 : Hp} {M M2 : Mst}
variable {e o a b c : Expr} {es : List Expr} {F Fa Fb Fc Fo : Den} {A : DenA} {pos p apos cpos p2 : Pos} {x m : Str}
def listR : List R → Mst → Out R
  | [r], M => (match src M r with
    | some (.l ds, M1) => .ok (.t (.lst (ds.map T.d))) M1
    | some (.t ds, M1) => .ok (.t (.lst (ds.map T.d))) M1
    | some (.ro ds, M1) => .ok (.t (.lst (ds.map T.d))) M1
    | _ => .bad)
  | _, _ => .bad
theorem RRL.one {K : PySem.W.Frag} {mg : Mg} {vs : List V} {r : R} {fp : List Addr} (h : RRL K mg w H M vs [r] fp) : ∃ v, vs = [v] ∧ RR K mg w H M v r fp := by
  cases h with
  | cons h1 h2 _ => cases h2; exact ⟨_, rfl, by rw [List.append_nil]; exact h1⟩
theorem opL_list : OpL X listR (fun xs H Q => ∃ p ys, xs = [.ref p] ∧ (SqL X.K H p ys ∨ SqT X.K H p ys) ∧ ∀ l, H l = none → Q (.ref l) (upd H l (.lst ys))) := by
  intro W σ w H M xs rs fp Q m q p
  unfold listR at p
  split at p
  · rename_i r
    obtain ⟨v, hv, q1⟩ := q.one
    subst hv
    cases z : src M r with
    | none => rw [z] at p; exact p.elim
    | some s =>
      obtain ⟨s, M4⟩ := s
      obtain ⟨w4, e4, m4, a4⟩ := src_ok m q1 z
      rw [z] at p
      cases s with
      | l ds => obtain ⟨a, vs, rfl, h1, h2⟩ := a4; exact ⟨a, vs, rfl, .inl (SqL.of h1), fun l hl => CE.lst p e4 m4 hl h2⟩
      | t ds => obtain ⟨a, vs, rfl, h1, h2⟩ := a4; exact ⟨a, vs, rfl, .inr (Same.seqT m4.sub h1), fun l hl => CE.lst p e4 m4 hl h2⟩
      | ro ds => obtain ⟨a, vs, rfl, h1, h2⟩ := a4; exact ⟨a, vs, rfl, .inl (m4.sub.seq h1), fun l hl => CE.lst p e4 m4 hl h2⟩
      | s _ => exact p.elim
  · exact p.elim
def tupleR : List R → Mst → Out R
  | [r], M => (match src M r with
    | some (.l ds, M1) => .ok (.t (.tup (ds.map T.d))) M1
    | some (.t ds, M1) => .ok (.t (.d (.tup ds))) M1
    | _ => .bad)
  | _, _ => .bad
theorem opL_tuple : OpL X tupleR (fun xs H Q => ∃ p ys, xs = [.ref p] ∧ ((SqL X.K H p ys ∧ ∀ l, H l = none → Q (.ref l) (upd H l (.tup ys))) ∨ (SqT X.K H p ys ∧ Q (.ref p) H))) := by
  intro W σ w H M xs rs fp Q m q p
  unfold tupleR at p
  split at p
  · rename_i r
    obtain ⟨v, hv, q1⟩ := q.one
    subst hv
    cases z : src M r with
    | none => rw [z] at p; exact p.elim
    | some s =>
      obtain ⟨s, M4⟩ := s
      obtain ⟨w4, e4, m4, a4⟩ := src_ok m q1 z
      rw [z] at p
      cases s with
      | l ds => obtain ⟨a, vs, rfl, h1, h2⟩ := a4; exact ⟨a, vs, rfl, .inl ⟨SqL.of h1, fun l hl => CE.tup p e4 m4 hl h2⟩⟩
      | t ds => obtain ⟨a, vs, rfl, h1, h2⟩ := a4; exact ⟨a, vs, rfl, .inr ⟨Same.seqT m4.sub h1, CE.dat p e4 m4 (.tup h1 h2)⟩⟩
      | ro ds => exact p.elim
      | s _ => exact p.elim
  · exact p.elim
def strD : List D → Option D
  | [.int i] => if i.natAbs < 10 ^ 60 then some (.str (Str.ofString (toString i))) else none
  | _ => none
theorem opL_str : OpL X (scL strD) (fun xs H Q => ∃ i, xs = [.int i] ∧ i.natAbs.log2 < 1920 ∧ Q (.str (toString i)) H) := opL_sc fun F H xs ds d Q h hd q => by
  unfold strD at hd
  split at hd
  · split at hd
    · rename_i i hl
      cases hd
      cases h with
      | cons h1 h2 =>
        cases h2; cases h1
        refine ⟨i, rfl, ?_, q _ (.str _)⟩
        have : (10 : Nat) ^ 60 < 2 ^ 200 := by decide
        exact Nat.lt_of_lt_of_le (PySem.Flt.log2_lt_of (by decide) (show i.natAbs < 2 ^ 200 by omega)) (by decide)
    · cases hd
  · cases hd
def intsD : List D → Option (List Int)
  | [] => some []
  | .int b :: r => (intsD r).map (b :: ·)
  | _ => none
theorem ints_at {F : Hp} : ∀ {vs : List V} {ds : List D} {bs : List Int}, DpL X.K X.mg F vs ds → intsD ds = some bs → vs = bs.map V.int := by
  intro vs ds
  induction ds generalizing vs with
  | nil => intro bs h e; cases h; cases e; rfl
  | cons x r ih =>
    intro bs h e
    cases h with
    | cons h1 h2 =>
      cases x with
      | int b =>
        unfold intsD at e
        cases z : intsD r with
        | none => rw [z] at e; cases e
        | some bs' => rw [z] at e; cases e; cases h1; rw [List.map_cons, ih h2 z]
      | non => cases e
      | bl _ => cases e
      | str _ => cases e
      | lst _ => cases e
      | tupP _ _ => cases e
      | ins _ _ => cases e
      | glo _ => cases e
      | ty _ => cases e
      | dic _ => cases e
      | junk => cases e
      | ro _ => cases e
theorem intsD_map (is : List Int) : intsD (is.map D.int) = some is := by
  induction is with
  | nil => rfl
  | cons x r ih => simp [intsD, ih]
def sumD : List D → Option D
  | [.lst ds] => (intsD ds).map fun is => .int is.sum
  | _ => none
def maxL : List Int → Int
  | [] => 0
  | x :: r => r.foldl max x
def minL : List Int → Int
  | [] => 0
  | x :: r => r.foldl min x
def maxD : List D → Option D
  | [.lst ds] => (match intsD ds with
    | some (x :: r) => some (.int (maxL (x :: r)))
    | _ => none)
  | _ => none
def minD : List D → Option D
  | [.lst ds] => (match intsD ds with
    | some (x :: r) => some (.int (minL (x :: r)))
    | _ => none)
  | _ => none
theorem foldl_max : ∀ (r : List Int) (x : Int), (r.foldl max x = x ∨ r.foldl max x ∈ r) ∧ x ≤ r.foldl max x ∧ ∀ y ∈ r, y ≤ r.foldl max x
  | [], x => ⟨.inl rfl, Int.le_refl _, fun _ z => nomatch z⟩
  | y :: r, x => by
    obtain ⟨h1, h2, h3⟩ := foldl_max r (max x y)
    rw [List.foldl_cons]
    refine ⟨?_, by omega, fun z hz => ?_⟩
    · rcases h1 with h1 | h1
      · rw [h1]
        by_cases e : x ≤ y
        · right; rw [Int.max_eq_right e]; exact List.mem_cons_self
        · left; omega
      · exact .inr (List.mem_cons_of_mem _ h1)
    · rcases List.mem_cons.mp hz with rfl | hz
      · omega
      · exact h3 z hz
theorem foldl_min : ∀ (r : List Int) (x : Int), (r.foldl min x = x ∨ r.foldl min x ∈ r) ∧ r.foldl min x ≤ x ∧ ∀ y ∈ r, r.foldl min x ≤ y
  | [], x => ⟨.inl rfl, Int.le_refl _, fun _ z => nomatch z⟩
  | y :: r, x => by
    obtain ⟨h1, h2, h3⟩ := foldl_min r (min x y)
    rw [List.foldl_cons]
    refine ⟨?_, by omega, fun z hz => ?_⟩
    · rcases h1 with h1 | h1
      · rw [h1]
        by_cases e : x ≤ y
        · left; omega
        · right; rw [Int.min_eq_right (by omega)]; exact List.mem_cons_self
      · exact .inr (List.mem_cons_of_mem _ h1)
    · rcases List.mem_cons.mp hz with rfl | hz
      · omega
      · exact h3 z hz
theorem maxL_mem (x : Int) (r : List Int) : maxL (x :: r) ∈ x :: r ∧ ∀ y ∈ x :: r, y ≤ maxL (x :: r) := by
  obtain ⟨h1, h2, h3⟩ := foldl_max r x
  refine ⟨h1.elim (fun h => ?_) fun h => List.mem_cons_of_mem _ h, fun y hy => ?_⟩
  · show r.foldl max x ∈ _; rw [h]; exact List.mem_cons_self
  · rcases List.mem_cons.mp hy with rfl | hy
    · exact h2
    · exact h3 y hy
theorem minL_mem (x : Int) (r : List Int) : minL (x :: r) ∈ x :: r ∧ ∀ y ∈ x :: r, minL (x :: r) ≤ y := by
  obtain ⟨h1, h2, h3⟩ := foldl_min r x
  refine ⟨h1.elim (fun h => ?_) fun h => List.mem_cons_of_mem _ h, fun y hy => ?_⟩
  · show r.foldl min x ∈ _; rw [h]; exact List.mem_cons_self
  · rcases List.mem_cons.mp hy with rfl | hy
    · exact h2
    · exact h3 y hy
theorem opL_sum : OpL X (scL sumD) (rSum X.K) := opL_sc fun F H xs ds d Q h hd q => by
  unfold sumD at hd
  split at hd
  · rename_i ds
    cases z : intsD ds with
    | none => rw [z] at hd; cases hd
    | some is =>
      rw [z] at hd; cases hd
      cases h with
      | cons h1 h2 => cases h2; cases h1 with | lst h l => exact ⟨_, is, rfl, by rw [← ints_at l z]; exact SqL.of h, q _ (.int _)⟩
  · cases hd
theorem opL_max : OpL X (scL maxD) (rMax X.K) := opL_sc fun F H xs ds d Q h hd q => by
  unfold maxD at hd
  split at hd
  · split at hd
    · rename_i ds x r z
      cases hd
      cases h with
      | cons h1 h2 =>
        cases h2
        cases h1 with
        | lst h l =>
          refine ⟨_, x :: r, rfl, by rw [← ints_at l z]; exact SqL.of h, Nat.succ_pos _, fun k h1 h2 => ?_⟩
          obtain ⟨g1, g2⟩ := maxL_mem x r
          rw [Int.le_antisymm (g2 k h1) (h2 _ g1)]
          exact q _ (.int _)
    · cases hd
  · cases hd
theorem opL_min : OpL X (scL minD) (rMin X.K) := opL_sc fun F H xs ds d Q h hd q => by
  unfold minD at hd
  split at hd
  · split at hd
    · rename_i ds x r z
      cases hd
      cases h with
      | cons h1 h2 =>
        cases h2
        cases h1 with
        | lst h l =>
          refine ⟨_, x :: r, rfl, by rw [← ints_at l z]; exact SqL.of h, Nat.succ_pos _, fun k h1 h2 => ?_⟩
          obtain ⟨g1, g2⟩ := minL_mem x r
          rw [Int.le_antisymm (h2 _ g1) (g2 k h1)]
          exact q _ (.int _)
    · cases hd
  · cases hd
theorem ints_dp {F : Hp} (is : List Int) : DpL X.K X.mg F (is.map V.int) (is.map D.int) := by
  induction is with
  | nil => exact .nil
  | cons x r ih => exact .cons (.int x) ih
theorem strs_dp {F : Hp} (is : List Str) : DpL X.K X.mg F (is.map V.str) (is.map D.str) := by
  induction is with
  | nil => exact .nil
  | cons x r ih => exact .cons (.str x) ih
def sortI (is : List Int) : List Int := is.mergeSort (fun a b => decide (a ≤ b))
theorem sortI_perm (is : List Int) : (sortI is).Perm is := List.mergeSort_perm _ _
theorem sortI_pw (is : List Int) : (sortI is).Pairwise (· ≤ ·) := by
  have := List.pairwise_mergeSort (le := fun a b : Int => decide (a ≤ b)) (fun a b c h1 h2 => by simp at *; omega) (fun a b => by simp; omega) is
  exact this.imp fun h => by simpa using h
def sortedR : List R → Mst → Out R
  | [r], M => (match src M r with
    | some (.l ds, M1) => (match intsD ds with
      | some is => if is.length < 64 then .ok (.t (.lst (((sortI is).map D.int).map T.d))) M1 else .bad
      | none => .bad)
    | _ => .bad)
  | _, _ => .bad
theorem opL_sorted : OpL X sortedR (rSorted X.K) := by
  intro W σ w H M xs rs fp Q m q p
  unfold sortedR at p
  split at p
  · rename_i r
    obtain ⟨v, hv, q1⟩ := q.one
    subst hv
    cases z : src M r with
    | none => rw [z] at p; exact p.elim
    | some s =>
      obtain ⟨s, M4⟩ := s
      obtain ⟨w4, e4, m4, a4⟩ := src_ok m q1 z
      rw [z] at p
      cases s with
      | l ds =>
        obtain ⟨a, vs, rfl, h1, h2⟩ := a4
        dsimp only at p
        split at p
        · rename_i is hz
          split at p
          · rename_i hl
            refine ⟨a, is, rfl, by rw [← ints_at h2 hz]; exact SqL.of h1, hl, fun ns l hp hs hl => ?_⟩
            have : ns = sortI is := PySem.W.ksm_same (hp.trans (sortI_perm is).symm) hs (sortI_pw is)
            subst this
            exact CE.lst p e4 m4 hl (ints_dp _)
          · exact p.elim
        · exact p.elim
      | t ds => exact p.elim
      | ro ds => exact p.elim
      | s _ => exact p.elim
  · exact p.elim

/-! ### isinstance -/
def tyName : D → Option String
  | .non => some "NoneType"
  | .bl _ => some "bool"
  | .int _ => some "int"
  | .str _ => some "str"
  | .lst _ => some "list"
  | .tupP _ _ => some "tuple"
  | _ => none
def isI (t n : String) : Bool := t == n || (t == "bool" && n == "int")
theorem kitB_all : ∀ t ∈ ["NoneType", "bool", "int", "str", "list", "tuple"], ∀ n ∈ ["bool", "int", "str", "list", "tuple"], kitB t n = some (isI t n) := by decide +kernel
def tysD : List D → Option (List String)
  | [] => some []
  | .ty n :: r => (tysD r).map (n :: ·)
  | _ => none
def okTy (n : String) : Bool := ["bool", "int", "str", "list", "tuple"].contains n
def tysT : List T → Option (List String)
  | [] => some []
  | .d (.ty n) :: r => (tysT r).map (n :: ·)
  | _ => none
def isiR : List R → Mst → Out R
  | [r, .t (.d (.ty n))], M => (match tyName (frzR M r) with
    | some t => if okTy n = true then .ok (.t (.d (.bl (isI t n)))) M else .bad
    | none => .bad)
  | [r, .t (.tup ts)], M => (match tyName (frzR M r), tysT ts with
    | some t, some ns => if ns.all okTy = true then .ok (.t (.d (.bl (ns.any (isI t))))) M else .bad
    | _, _ => .bad)
  | _, _ => .bad
theorem tyX_of {v : V} {d : D} {t : String} (h : Dp X.K X.mg H v d) (ht : tyName d = some t) : TyX X.K H v (.type t) ∧ t ∈ ["NoneType", "bool", "int", "str", "list", "tuple"] := by
  cases h with
  | non => cases ht; exact ⟨.base .non, by decide⟩
  | bl b => cases ht; exact ⟨.base (.bl b), by decide⟩
  | int i => cases ht; exact ⟨.base (.int i), by decide⟩
  | str x => cases ht; exact ⟨.base (.str x), by decide⟩
  | lst h l => cases ht; exact ⟨.base (.lst h), by decide⟩
  | tupP h l =>
    cases ht
    refine ⟨?_, by decide⟩
    rcases h.1 with (h | ⟨o, h⟩) | ⟨o, its, n, h1, h2, _⟩
    · exact .base (.tup h)
    · exact .fTuple h
    · exact .kTuple h1 h2
  | ro h l => cases ht
  | ins _ _ _ => cases ht
  | glo _ => cases ht
  | ty _ => cases ht
  | dic _ _ => cases ht
  | junk _ => cases ht
theorem tys_at {F : Hp} : ∀ {vs : List V} {ts : List T} {ns : List String} {fp : List Addr}, TRL X.K X.mg F H vs ts fp → tysT ts = some ns → Paired ClsV vs (ns.map Value.type) := by
  intro vs ts
  induction ts generalizing vs with
  | nil => intro bs fp h e; cases h; cases e; exact .nil
  | cons x r ih =>
    intro bs fp h e
    cases h with
    | cons h1 h2 =>
      cases x with
      | d d =>
        cases d with
        | ty b =>
          unfold tysT at e
          cases z : tysT r with
          | none => rw [z] at e; cases e
          | some bs' =>
            rw [z] at e; cases e
            cases h1 with
            | d h1 => cases h1; exact .cons (.ty _) (ih h2 z)
        | non => cases e
        | bl _ => cases e
        | str _ => cases e
        | lst _ => cases e
        | tupP _ _ => cases e
        | ins _ _ => cases e
        | dic _ => cases e
        | glo _ => cases e
        | int _ => cases e
        | ro _ => cases e
        | junk => cases e
      | lst _ => cases e
      | tup _ => cases e
      | ins _ _ => cases e
      | dic _ => cases e
theorem RRL.two {K : PySem.W.Frag} {mg : Mg} {vs : List V} {r r' : R} {fp : List Addr} (h : RRL K mg w H M vs [r, r'] fp) : ∃ v v' f f', vs = [v, v'] ∧ RR K mg w H M v r f ∧ RR K mg w H M v' r' f' ∧ fp = f ++ f' ∧ ∀ a ∈ f, a ∉ f' := by
  cases h with
  | cons h1 h2 d =>
    obtain ⟨v', hv, h3⟩ := h2.one
    subst hv
    exact ⟨_, _, _, _, rfl, h1, h3, rfl, d⟩
theorem kitAny_tys {K : PySem.W.Frag} {t : String} (ht : t ∈ ["NoneType", "bool", "int", "str", "list", "tuple"]) : ∀ {ns : List String}, ns.all okTy = true → PySem.W.kitAny K (.type t) (ns.map Value.type) = some (ns.any (isI t))
  | [], _ => rfl
  | n :: ns, h => by
    rw [List.all_cons, Bool.and_eq_true] at h
    have hn : n ∈ ["bool", "int", "str", "list", "tuple"] := by
      have := h.1
      unfold okTy at this
      simpa using this
    have k := kit_ty (K := K) (kitB_all t ht n hn)
    rw [List.map_cons, List.any_cons]
    refine kitAny_cons k (fun e => ?_) fun e => by rw [e]; rfl
    rw [e, Bool.false_or]
    exact kitAny_tys ht h.2
theorem or_isi : CallR X (.builtin "isinstance") (fun xs H Q => rIsi X.K xs H Q ∨ rIsiT X.K xs H Q ∨ rIsiK X.K xs H Q) := CallR.or call_isi (CallR.or call_isiT call_isiK)
theorem opL_isi : OpL X isiR (fun xs H Q => rIsi X.K xs H Q ∨ rIsiT X.K xs H Q ∨ rIsiK X.K xs H Q) := by
  intro W σ w H M xs rs fp Q m q p
  unfold isiR at p
  split at p
  · rename_i r n
    obtain ⟨v, v', f, f', rfl, q1, q2, _, _⟩ := q.two
    split at p
    · rename_i t z
      split at p
      · rename_i hk
        obtain ⟨k1, k2⟩ := tyX_of (seen m q1) z
        obtain ⟨q2, _⟩ := rr_dat q2
        cases q2
        have hn : n ∈ ["bool", "int", "str", "list", "tuple"] := by unfold okTy at hk; simpa using hk
        exact .inl ⟨_, _, _, _, _, rfl, .ty n, k1, kit_ty (kitB_all t k2 n hn), (p.now m).val (C := fun _ => r) (.bl _)⟩
      · exact p.elim
    · exact p.elim
  · rename_i r ts
    obtain ⟨v, v', f, f', rfl, q1, q2, _, _⟩ := q.two
    split at p
    · rename_i t ns z z2
      split at p
      · rename_i hk
        obtain ⟨k1, k2⟩ := tyX_of (seen m q1) z
        obtain ⟨q2, _⟩ := q2
        cases q2 with
        | tup h _ l => exact .inr (.inl ⟨_, _, _, _, _, _, rfl, h, tys_at l z2, k1, kitAny_tys k2 hk, (p.now m).val (C := fun _ => r) (.bl _)⟩)
      · exact p.elim
    · exact p.elim
  · exact p.elim
end
end DL

/-! DL13: lists changed in place; texts' methods; f-strings -/
namespace DL
open PySem L2 PySem.Spec PyProof.Rows
section
variable {X : Cx} {W : WX} {σ : L2.St} {fs gs : List Addr} {w w2 : Wd} {H H2 : Hp} {M M2 : Mst}
variable {e o i a b c : Expr} {es : List Expr} {F Fa Fb Fc Fo Fi Fe : Den} {A : DenA} {pos p apos cpos p2 : Pos} {x m : Str}

/-- a mutable list gets other items -/
theorem put_lst {k : Nat} {ts ts' : List T} {vs' : List V} {fp' : List Addr} (m : MR X.K X.mg w H M) (hk : M[k]? = some (.lst ts)) (h' : TRL X.K X.mg w.F H vs' ts' fp') (nd : (w.α k :: fp').Nodup)
    (dj : ∀ a ∈ fp', ∀ j, j < M.length → j ≠ k → a ∉ w.φ j) (pm : ∀ a ∈ fp', Pm fs w H M a) : ∃ w', Ext fs w H M w' (upd H (w.α k) (.lst vs')) (M.set k (.lst ts')) ∧ MR X.K X.mg w' (upd H (w.α k) (.lst vs')) (M.set k (.lst ts')) ∧ w'.F = w.F ∧ w'.α = w.α := by
  have hkl : k < M.length := (List.getElem?_eq_some_iff.mp hk).1
  obtain ⟨q, qn⟩ := m.obj k _ hk
  obtain ⟨vs, fk, hl, hF, hfk⟩ : ∃ vs fk, H (w.α k) = some (.lst vs) ∧ w.F (w.α k) = none ∧ w.φ k = w.α k :: fk := by
    generalize hφ : w.φ k = f at q
    cases q with
    | lst h1 h2 h3 => exact ⟨_, _, h1, h2, rfl⟩
  have hin : w.α k ∈ w.φ k := by rw [hfk]; exact List.mem_cons_self
  have hne : ∀ j, j < M.length → j ≠ k → w.α k ∉ w.φ j := fun j hj hjk z => hjk (m.dis j k _ hj hkl z hin)
  have hnl := (List.nodup_cons.mp nd).1
  refine ⟨⟨w.F, w.α, fun j => if j = k then w.α k :: fp' else w.φ j⟩, ⟨Same.refl _, by simp, fun _ _ => rfl, fun a o e n => ?_, fun j hj a ha => ?_, fun _ h => .inl h, fun a e => ?_⟩, ⟨fun a o e => ?_, fun j t e => ?_, fun i j a hi hj h1 h2 => ?_⟩, rfl, rfl⟩
  · have ne : a ≠ w.α k := fun z => n (.inr (.inl ⟨k, hkl, by rw [z]; exact hin⟩))
    rw [upd_ne ne]; exact e
  · rw [List.length_set] at hj
    have ha : a ∈ (if j = k then w.α k :: fp' else w.φ j) := ha
    split at ha
    · rcases List.mem_cons.mp ha with rfl | ha
      · exact .inr (.inl ⟨k, hkl, hin⟩)
      · exact pm a ha
    · exact .inr (.inl ⟨j, hj, ha⟩)
  · by_cases z : a = w.α k
    · rw [z, upd_same] at e; cases e
    · rw [upd_ne z] at e; exact e
  · have ne : a ≠ w.α k := fun z => by rw [z, show w.F (w.α k) = none from hF] at e; cases e
    rw [upd_ne ne]; exact m.sub a o e
  · by_cases hjk : k = j
    · subst hjk
      rw [List.getElem?_set_self hkl] at e
      cases e
      show TR X.K X.mg w.F _ _ _ (if k = k then w.α k :: fp' else w.φ k) ∧ (if k = k then w.α k :: fp' else w.φ k).Nodup
      rw [if_pos rfl]
      refine ⟨.lst upd_same hF (h'.stay (Same.refl _) fun a ha => ⟨(h'.fp a ha).1, fun o ho => ?_⟩), nd⟩
      have ne : a ≠ w.α k := fun z => hnl (z ▸ ha)
      rw [upd_ne ne]; exact ho
    · rw [List.getElem?_set_ne hjk] at e
      obtain ⟨z1, z2⟩ := m.obj j t e
      have hj : j < M.length := (List.getElem?_eq_some_iff.mp e).1
      show TR X.K X.mg w.F _ _ _ (if j = k then w.α k :: fp' else w.φ j) ∧ (if j = k then w.α k :: fp' else w.φ j).Nodup
      rw [if_neg (Ne.symm hjk)]
      refine ⟨z1.stay (Same.refl _) fun a ha => ⟨(z1.fp a ha).1, fun o ho => ?_⟩, z2⟩
      have ne : a ≠ w.α k := fun z => hne j hj (Ne.symm hjk) (z ▸ ha)
      rw [upd_ne ne]; exact ho
  · rw [List.length_set] at hi hj
    have h1 : a ∈ (if i = k then w.α k :: fp' else w.φ i) := h1
    have h2 : a ∈ (if j = k then w.α k :: fp' else w.φ j) := h2
    split at h1
    · rename_i ei
      split at h2
      · rename_i ej; rw [ei, ej]
      · rename_i ej
        rcases List.mem_cons.mp h1 with rfl | h1
        · exact absurd h2 (hne j hj ej)
        · exact absurd h2 (dj a h1 j hj ej)
    · rename_i ei
      split at h2
      · rename_i ej
        rcases List.mem_cons.mp h2 with rfl | h2
        · exact absurd h1 (hne i hi ei)
        · exact absurd h1 (dj a h2 i hi ei)
      · exact m.dis i j a hi hj h1 h2
theorem trl_set : ∀ {vs : List V} {ts : List T} {f : List Addr} {j : Nat} {v : V} {t : T} {g : List Addr}, TRL X.K X.mg w.F H vs ts f → TR X.K X.mg w.F H v t g → f.Nodup → g.Nodup → (∀ a ∈ g, a ∉ f) →
    ∃ f', TRL X.K X.mg w.F H (vs.set j v) (ts.set j t) f' ∧ f'.Nodup ∧ ∀ a ∈ f', a ∈ f ∨ a ∈ g
  | _, _, _, _, _, _, _, .nil, _, _, _, _ => ⟨[], .nil, List.nodup_nil, fun _ z => nomatch z⟩
  | _, _, _, 0, _, _, g, .cons (f1 := f1) (f2 := f2) h r, q, nd, ng, dj => by
    obtain ⟨n1, n2, n3⟩ := List.nodup_append.mp nd
    refine ⟨g ++ f2, .cons q r, List.nodup_append.mpr ⟨ng, n2, fun a ha b hb z => dj a ha (List.mem_append_right _ (z ▸ hb))⟩, fun a ha => ?_⟩
    rcases List.mem_append.mp ha with ha | ha
    · exact .inr ha
    · exact .inl (List.mem_append_right _ ha)
  | _, _, _, j + 1, v, t, g, .cons (f1 := f1) (f2 := f2) h r, q, nd, ng, dj => by
    obtain ⟨n1, n2, n3⟩ := List.nodup_append.mp nd
    obtain ⟨f', i1, i2, i3⟩ := trl_set (j := j) r q n2 ng fun a ha hb => dj a ha (List.mem_append_right _ hb)
    refine ⟨f1 ++ f', .cons h i1, List.nodup_append.mpr ⟨n1, i2, fun a ha b hb z => ?_⟩, fun a ha => ?_⟩
    · rcases i3 b hb with q | q
      · exact n3 a ha b q z
      · exact dj b q (List.mem_append_left _ (z ▸ ha))
    · rcases List.mem_append.mp ha with ha | ha
      · exact .inl (List.mem_append_left _ ha)
      · exact (i3 a ha).imp (fun z => List.mem_append_right _ z) id
/-- a mutable list, opened -/
theorem open_lst {k : Nat} {ts : List T} (m : MR X.K X.mg w H M) (hk : M[k]? = some (.lst ts)) : ∃ vs fk, H (w.α k) = some (.lst vs) ∧ w.F (w.α k) = none ∧ w.φ k = w.α k :: fk ∧ TRL X.K X.mg w.F H vs ts fk ∧ (w.α k :: fk).Nodup ∧ (∀ a ∈ w.α k :: fk, ∀ j, j < M.length → j ≠ k → a ∉ w.φ j) := by
  have hkl : k < M.length := (List.getElem?_eq_some_iff.mp hk).1
  obtain ⟨q, qn⟩ := m.obj k _ hk
  have hd : ∀ a ∈ w.φ k, ∀ j, j < M.length → j ≠ k → a ∉ w.φ j := fun a ha j hj hjk z => hjk (m.dis j k a hj hkl z ha)
  generalize hφ : w.φ k = f at q qn hd
  cases q with
  | lst h1 h2 h3 => exact ⟨_, _, h1, h2, rfl, h3, qn, hd⟩
/-- x[i] = r -/
def setR (ro ri r : R) (M : Mst) : Option Mst := match ro, frzR M ri with
  | .h k, .int i => (match (frzM M r)[k]? with
    | some (.lst ts) => (match ixN ts.length i with
      | some j => some ((frzM M r).set k (.lst (ts.set j (treeT M r))))
      | none => none)
    | _ => none)
  | _, _ => none
def gItem (Fo Fi : Den) : DenG := fun r ρ M => match Fo ρ M with
  | .ok ro M1 => (match Fi ρ M1 with
    | .ok ri M2 => (match setR ro ri r M2 with
      | some M3 => some (ρ, M3)
      | none => none)
    | _ => none)
  | _ => none
theorem dg_item (ho : DE X W o Fo) (hi : DE X W i Fi) (ha : ∀ v, assign (.Subscript o i pos) X.env v = (do
      let ov ← holding [v] (eval o X.env)
      let iv ← holding [v, ov] (eval i X.env)
      standAt pos
      holding [v, ov, iv] (setItem ov iv v)
      release [v, ov, iv] []) := by intro _; rfl) : DG X W (.Subscript o i pos) (gItem Fo Fi) := (pg_sub ho hi set_list ha).mono fun v σ H Q h => by
  obtain ⟨w, ρ, M, r, fp, m, er, q, p⟩ := h
  unfold gItem at p
  refine ⟨w, ρ, M, m, er, ?_⟩
  cases z1 : Fo ρ M with
  | bad => rw [z1] at p; exact p.elim
  | exc e M' => rw [z1] at p; exact p.elim
  | ok ro M1 =>
    rw [z1] at p
    dsimp only at p
    intro w1 H1 e1 m1 v1 f1 q1 hf1
    refine ⟨w1, ρ, M1, m1, er.stay e1, ?_⟩
    cases z2 : Fi ρ M1 with
    | bad => rw [z2] at p; exact p.elim
    | exc e M' => rw [z2] at p; exact p.elim
    | ok ri M2 =>
      rw [z2] at p
      dsimp only at p
      intro w2 H2 e2 m2 v2 f2 q2 hf2
      have e12 : Ext [] w H M w2 H2 M2 := e1.trans0 e2
      have q0 := q.stay e12 fun _ _ z => nomatch z
      cases z3 : setR ro ri r M2 with
      | none => rw [z3] at p; exact p.elim
      | some M3 =>
        rw [z3] at p
        unfold setR at z3
        split at z3
        · rename_i k i hi'
          have s2 := seen m2 q2
          rw [hi'] at s2
          cases s2
          obtain ⟨w3, e3, m3, t3, nd3, dj3⟩ := treeT_ok m2 q0
          have q1' := (q1.stay e2 fun _ _ z => nomatch z).stay e3 fun _ _ z => nomatch z
          obtain ⟨hk, rfl, _⟩ := q1'
          split at z3
          · rename_i ts hts
            split at z3
            · rename_i j hj
              cases z3
              obtain ⟨vs, fk, g1, g2, g3, g4, g5, g6⟩ := open_lst m3 hts
              obtain ⟨g5a, g5b⟩ := List.nodup_cons.mp g5
              have djk : ∀ a ∈ fp, a ∉ w3.α k :: fk := fun a ha hb => dj3 a ha k hk (by rw [g3]; exact hb)
              obtain ⟨f', i1, i2, i3⟩ := trl_set (j := j) g4 t3 g5b nd3 fun a ha hb => djk a ha (List.mem_cons_of_mem _ hb)
              have e13 : Ext [] w H M w3 H2 (frzM M2 r) := e12.trans0 e3
              obtain ⟨w4, e4, m4, _, _⟩ := put_lst (fs := fp) m3 hts i1 (List.nodup_cons.mpr ⟨fun z => (i3 _ z).elim g5a fun z => djk _ z List.mem_cons_self, i2⟩)
                (fun a ha j hj hjk => (i3 a ha).elim (fun z => g6 a (List.mem_cons_of_mem _ z) j hj hjk) fun z => dj3 a z j hj)
                fun a ha => (i3 a ha).elim (fun z => .inr (.inl ⟨k, hk, by rw [g3]; exact List.mem_cons_of_mem _ z⟩)) fun z => .inr (.inr z)
              refine ⟨w3.α k, vs, i, j, rfl, rfl, g1, by rw [g4.length]; exact hj, ?_⟩
              exact p w4 _ σ ((e13.mono fun _ z => nomatch z).trans e4 fun a ha => .inr (.inr ha)) m4 ((er.stay e13).stay e4)
            · cases z3
          · cases z3
        · cases z3

/-! ### methods of texts -/
def eM0 (g : Str → Mst → Out R) (Fo : Den) : Den := fun ρ M => (Fo ρ M).bind fun r M1 => match r with
  | .t (.d (.str a)) => g a M1
  | _ => .bad
def eM1 (g : Str → R → Mst → Out R) (Fo Fe : Den) : Den := fun ρ M => (Fo ρ M).bind fun r M1 => match r with
  | .t (.d (.str a)) => (Fe ρ M1).bind fun r2 M2 => g a r2 M2
  | _ => .bad
def OpM1 (X : Cx) (g : Str → R → Mst → Out R) (r : V → List V → Hp → VK → Prop) : Prop := ∀ (W : WX) (σ : L2.St) (w : Wd) (H : Hp) (M : Mst) (a : Str) (v : V) (r1 : R) (fp : List Addr) (Q : VK), MR X.K X.mg w H M →
  RR X.K X.mg w H M v r1 fp → Post X W σ fp w H M (g a r1 M) (CE X fp w H M Q) → r (.str a) [v] H Q
theorem rd_m1 {g : Str → R → Mst → Out R} {r : V → List V → Hp → VK → Prop} (hg : OpM1 X g r) {Q : VK} (h : rdE X W (eM1 g Fo Fe) σ H Q) : tM1 r (rdE X W Fo) (rdE X W Fe) σ H Q := by
  obtain ⟨w, ρ, M, m, er, p⟩ := h
  refine ⟨w, ρ, M, m, er, p.bindF.imp fun w1 H1 M1 x _ _ z => ?_⟩
  obtain ⟨e1, m1, p1⟩ := z
  intro v1 f1 q1 hf1
  replace p1 := p1 [] fun _ z => nomatch z
  split at p1
  · rename_i a
    obtain ⟨q1, _⟩ := rr_dat q1
    cases q1
    refine ⟨⟨a, rfl⟩, w1, ρ, M1, m1, er.stay e1, (Post.bindF p1).imp fun w2 H2 M2 y _ _ z => ?_⟩
    obtain ⟨e2, m2, p2⟩ := z
    intro v2 f2 q2 hf2
    exact hg W σ w2 H2 M2 a v2 y f2 Q m2 q2 ((p2 f2 hf2).imp fun _ _ _ _ _ _ q => q.from (e1.trans0 e2) fun a ha => e1.pm (gs := []) (fun _ z => nomatch z) (hf2 a ha))
  · exact p1.elim
theorem de_m1 {id : String} {name : Str} {r : V → List V → Hp → VK → Prop} {g : Str → R → Mst → Out R} (slot : Slot "str" name id) (ty : typeOf (.builtin id) = pure (.type "method_descriptor")) (rule : MtR X id r) (hg : OpM1 X g r) (ho : DE X W o Fo) (he : DE X W e Fe)
    (hs : starEach [e] X.env = [(false, eval e X.env)] := by rfl) (hbase : attributeBase o name X.env (eval o X.env) = eval o X.env := by rfl) (hline : (apos.endLine == pos.line) = true := by rfl) :
    DE X W (.Call (.Attribute o name apos) [e] [] pos) (eM1 g Fo Fe) := (pe_m1 slot ty rule ho he hs hbase hline).mono fun _ _ _ h => rd_m1 hg h
def strsD : List D → Option (List Str)
  | [] => some []
  | .str b :: r => (strsD r).map (b :: ·)
  | _ => none
theorem strsD_map (is : List Str) : strsD (is.map D.str) = some is := by
  induction is with
  | nil => rfl
  | cons x r ih => simp [strsD, ih]
theorem strs_at {F : Hp} : ∀ {vs : List V} {ds : List D} {bs : List Str}, DpL X.K X.mg F vs ds → strsD ds = some bs → vs = bs.map V.str := by
  intro vs ds
  induction ds generalizing vs with
  | nil => intro bs h e; cases h; cases e; rfl
  | cons x r ih =>
    intro bs h e
    cases h with
    | cons h1 h2 =>
      cases x with
      | str b =>
        unfold strsD at e
        cases z : strsD r with
        | none => rw [z] at e; cases e
        | some bs' => rw [z] at e; cases e; cases h1; rw [List.map_cons, ih h2 z]
      | non => cases e
      | bl _ => cases e
      | int _ => cases e
      | lst _ => cases e
      | tupP _ _ => cases e
      | ins _ _ => cases e
      | glo _ => cases e
      | ty _ => cases e
      | dic _ => cases e
      | junk => cases e
      | ro _ => cases e
def joinR (a : Str) (r : R) (M : Mst) : Out R := match src M r with
  | some (q, M1) => (match q, strsD q.ds with
    | .l _, some ys => if (ys.map (·.length)).sum + ys.length * a.length ≤ 1000000 then .ok (.t (.d (.str (Txt.join a ys)))) M1 else .bad
    | .t _, some ys => if (ys.map (·.length)).sum + ys.length * a.length ≤ 1000000 then .ok (.t (.d (.str (Txt.join a ys)))) M1 else .bad
    | _, _ => .bad)
  | none => .bad
theorem opM1_join : OpM1 X joinR (fun x xs H Q => ∃ a p, ∃ ys : List Str, x = .str a ∧ xs = [.ref p] ∧ (SqL X.K H p (ys.map V.str) ∨ SqT X.K H p (ys.map V.str)) ∧ (ys.map (·.length)).sum + ys.length * a.length ≤ 16777216 ∧ Q (.str (Txt.join a ys)) H) := by
  intro W σ w H M a v r1 fp Q m q p
  unfold joinR at p
  cases z : src M r1 with
  | none => rw [z] at p; exact p.elim
  | some s =>
    obtain ⟨s, M4⟩ := s
    obtain ⟨w4, e4, m4, a4⟩ := src_ok m q z
    rw [z] at p
    dsimp only at p
    split at p
    · rename_i ds ys hy
      obtain ⟨b, vs, rfl, h1, h2⟩ := a4
      split at p
      · rename_i hl
        exact ⟨a, b, ys, rfl, rfl, .inl (by rw [← strs_at h2 hy]; exact SqL.of h1), by omega, CE.dat p e4 m4 (.str _)⟩
      · exact p.elim
    · rename_i ds ys hy
      obtain ⟨b, vs, rfl, h1, h2⟩ := a4
      split at p
      · rename_i hl
        exact ⟨a, b, ys, rfl, rfl, .inr (by rw [← strs_at h2 hy]; exact Same.seqT m4.sub h1), by omega, CE.dat p e4 m4 (.str _)⟩
      · exact p.elim
    · exact p.elim
def splitR (a : Str) (r : R) (M : Mst) : Out R := match r with
  | .t (.d (.str b)) => if (b.length == 0) = false ∧ a.length ≤ 1000000 then .ok (.t (.lst (((Txt.split a b).map D.str).map T.d))) M else .bad
  | _ => .bad
theorem opM1_split : OpM1 X splitR (fun x xs H Q => ∃ a b, x = .str a ∧ xs = [.str b] ∧ (b.length == 0) = false ∧ a.length + 2 ≤ sizeLine ∧ rNewStrs (Txt.split a b) H Q) := by
  intro W σ w H M a v r1 fp Q m q p
  unfold splitR at p
  split at p
  · rename_i b
    split at p
    · rename_i hl
      obtain ⟨q, _⟩ := rr_dat q
      cases q
      exact ⟨a, b, rfl, rfl, hl.1, by rw [sizeLine_eq]; omega, fun l hl => CE.lst p (Ext.refl m) m hl (strs_dp _)⟩
    · exact p.elim
  · exact p.elim
def startsR (a : Str) (r : R) (M : Mst) : Out R := match r with
  | .t (.d (.str b)) => .ok (.t (.d (.bl (Txt.startswith a b)))) M
  | _ => .bad
theorem opM1_starts : OpM1 X startsR (fun x xs H Q => ∃ a b, x = .str a ∧ xs = [.str b] ∧ Q (.bl (Txt.startswith a b)) H) := by
  intro W σ w H M a v r1 fp Q m q p
  unfold startsR at p
  split at p
  · rename_i b
    obtain ⟨q, _⟩ := rr_dat q
    cases q
    exact ⟨a, b, rfl, rfl, (p.now m).val (C := fun _ => .t (.d (.str b))) (.bl _)⟩
  · exact p.elim
end
end DL

/-! DL14: a, b = x, y; f-strings; methods of lists -/
namespace DL
open PySem L2 PySem.Spec PyProof.Rows
section
variable {X : Cx} {W : WX} {σ : L2.St} {fs gs : List Addr} {w w2 : Wd} {H H2 : Hp} {M M2 : Mst} {Dn : Ends}
variable {e o i a b c : Expr} {es : List Expr} {F Fa Fb Fc Fo Fi Fe : Den} {A : DenA} {pos p apos cpos p2 : Pos} {x y z m : Str}
/-- a target that is a name, with what it does -/
structure GN (X : Cx) (W : WX) (i : Nat) (G : DenG) : Prop where
  rd : ∀ v σ H Q, rdG X W G v σ H Q → gName i v σ H Q
theorem gn_set (i : Nat) : GN X W i (gSet i) := ⟨fun _ _ _ _ => rd_set⟩
theorem gn_setM (i : Nat) : GN X W i (gSetM i) := ⟨fun _ _ _ _ => rd_setM⟩
def sPar2 (G1 G2 : DenG) (A : DenA) : DenS := fun ρ M => bindS (A ρ M) ρ fun rs M1 => match rs with
  | [r1, r2] => (match G1 r1 ρ M1 with
    | some (ρ1, M2) => (match G2 r2 ρ1 M2 with
      | some (ρ2, M3) => some (.nx ρ2, M3)
      | none => none)
    | none => none)
  | _ => none
def sPar3 (G1 G2 G3 : DenG) (A : DenA) : DenS := fun ρ M => bindS (A ρ M) ρ fun rs M1 => match rs with
  | [r1, r2, r3] => (match G1 r1 ρ M1 with
    | some (ρ1, M2) => (match G2 r2 ρ1 M2 with
      | some (ρ2, M3) => (match G3 r3 ρ2 M3 with
        | some (ρ3, M4) => some (.nx ρ3, M4)
        | none => none)
      | none => none)
    | none => none)
  | _ => none
theorem ds_par2 {G1 G2 : DenG} {i j : Nat} {px py pt : Pos} {kt k2 : Nat} {pt2 : Pos} (g1 : GN X W i G1) (g2 : GN X W j G2) (hc : X.calm = true) (hN : X.N.Nodup) (hi : X.N[i]? = some x) (hj : X.N[j]? = some y) (hij : i ≠ j)
    (hx : X.env.scope.names.lookup x = some .local) (hy : X.env.scope.names.lookup y = some .local) (ha : DA X W [a, b] A)
    (hw : swappedStores [.Tuple [.Name x px, .Name y py] kt pt] (.Tuple [a, b] k2 pt2) X.env = pure (some [x, y]))
    (hs : swapsWithSole [.Tuple [.Name x px, .Name y py] kt pt] (.Tuple [a, b] k2 pt2) pos.line X.env = pure false := by rfl) :
    DS X W (.Assign [.Tuple [.Name x px, .Name y py] kt pt] (.Tuple [a, b] k2 pt2) pos) (sPar2 G1 G2 A) := (ps_par hc hN hi hj hij hx hy ha hw hs).mono fun Dn σ H h => by
  obtain ⟨w, ρ, M, m, er, p⟩ := h
  refine ⟨w, ρ, M, m, er, (p.bindF er).imp fun w1 H1 M1 rs _ _ z => ?_⟩
  obtain ⟨e1, m1, p1⟩ := z
  intro vs fp q hf
  replace p1 := p1 fp hf
  split at p1
  · rename_i r1 r2
    obtain ⟨v, v', f, f', hv, q1, q2, hfp, dj⟩ := q.two
    subst hv hfp
    refine ⟨v, v', rfl, ?_⟩
    refine g1.rd v σ H1 (fun σ1 H2 => Dn.nx (σ1.set j (some v')) H2) ⟨w1, ρ, M1, r1, f, m1, er.stay e1, q1, ?_⟩
    cases z1 : G1 r1 ρ M1 with
    | none => rw [z1] at p1; exact p1
    | some s =>
      obtain ⟨ρ1, M2⟩ := s
      rw [z1] at p1
      intro w2 H2 σ2 e2 m2 er2
      refine g2.rd v' σ2 H2 Dn.nx ⟨w2, ρ1, M2, r2, f', m2, er2, q2.stay e2 fun a ha hb => dj a hb ha, ?_⟩
      dsimp only at p1
      cases z2 : G2 r2 ρ1 M2 with
      | none => rw [z2] at p1; exact p1
      | some s =>
        obtain ⟨ρ2, M3⟩ := s
        rw [z2] at p1
        exact fun w3 H3 σ3 e3 m3 er3 => p1 w3 H3 σ3 ((e2.mono fun a ha => List.mem_append_left _ ha).trans e3 fun a ha => .inr (.inr (List.mem_append_right _ ha))) m3 er3
  · exact p1.elim
end
end DL

/-! DL15: short forms for a program's text; calls with keywords; the law's end -/
namespace DL
open PySem L2 PySem.Spec PyProof.Rows
abbrev subR : R → R → Mst → Out R := sc2 (iOp (fun _ _ => true) (· - ·))
abbrev divR : R → R → Mst → Out R := sc2 (iOp divC (· / ·))
abbrev modR : R → R → Mst → Out R := sc2 (iOp modC (· % ·))
abbrev powR : R → R → Mst → Out R := sc2 (iOp powC fun i j => i ^ j.toNat)
abbrev ltR : R → R → Mst → Out R := sc2 (iRel fun i j => decide (i < j))
abbrev leR : R → R → Mst → Out R := sc2 (iRel fun i j => decide (i ≤ j))
abbrev gtR : R → R → Mst → Out R := sc2 (iRel fun i j => decide (j < i))
abbrev geR : R → R → Mst → Out R := sc2 (iRel fun i j => decide (j ≤ i))
theorem units65 {k : Nat} {A : Around} (r : Room k A) : A.units + 65 < cLine := by have := r.un; omega
section
variable {X : Cx} {W : WX} {σ : L2.St} {fs gs : List Addr} {w w2 : Wd} {H H2 : Hp} {M M2 : Mst} {Dn : Ends}
variable {e o a b c : Expr} {es : List Expr} {F Fa Fb Fc Fo Fi Fe : Den} {A A1 A2 : DenA} {pos p apos cpos p2 : Pos} {x y z m : Str}
/-! ### names of the module -/
theorem de_gint {i : Int} (h : ∃ t, X.mg x = some (.int i t)) (hg : Gl X x) (hd : (x == ("__debug__" : Str)) = false := by decide) : DE X W (.Name x pos) (eC (.int i)) :=
  let ⟨t, h⟩ := h; de_const (v := .int i) (pe_glob hg h ⟨t, rfl⟩ hd) fun _ => .int _
theorem de_gstr {i : Str} (h : ∃ t, X.mg x = some (.str i t)) (hg : Gl X x) (hd : (x == ("__debug__" : Str)) = false := by decide) : DE X W (.Name x pos) (eC (.str i)) :=
  let ⟨t, h⟩ := h; de_const (v := .str i) (pe_glob hg h ⟨t, rfl⟩ hd) fun _ => .str _
theorem de_ty {y : String} (h : X.mg x = none) (hg : Gl X x) (hv : bootBuiltins x = some (.type y)) (hn : x ≠ "__name__" := by decide) (hd : (x == ("__debug__" : Str)) = false := by decide) : DE X W (.Name x pos) (eC (.ty y)) := de_const (v := .ty y) (pe_bltn hg h hv rfl hn hd) fun _ => .ty _
/-- a written tuple of texts -/
def TupS (K : PySem.W.Frag) (a : Addr) (xs : List Str) : Prop := ∃ (o : Obj) (its : Array Value) (n : Nat), K.lookup a = some o ∧ o.cls = .type "tuple" ∧ o.data = .seq its n ∧ its.size ≤ sizeLine ∧ Vals (xs.map V.str) its.toList
theorem de_gtup {xs : List Str} (h : ∃ a, X.mg x = some (.ref a) ∧ TupS X.K a xs) (hg : Gl X x) (hd : (x == ("__debug__" : Str)) = false := by decide) : DE X W (.Name x pos) (eC (.tup (xs.map D.str))) :=
  let ⟨a, h, t⟩ := h; de_const (v := .ref a) (pe_glob hg h rfl hd) fun F => .tup (xs := xs.map V.str) (.inr t) (strs_dp xs)
/-! ### targets -/
theorem pgn (i : Nat) (hN : X.N.Nodup) (hi : X.N[i]? = some x := by rfl) (hx : Loc X.env.scope x := by first | exact Or.inl rfl | exact Or.inr rfl) (hf : X.fn x = true ∨ X.env.scope.names.lookup x = some .local := by first | exact .inl rfl | exact .inr rfl) : PG X (.Name x pos) (gName i) := pg_name hN hi hx hf
theorem dtg_one (i : Nat) (hN : X.N.Nodup) (hi : X.N[i]? = some x := by rfl) (hx : Loc X.env.scope x := by first | exact Or.inl rfl | exact Or.inr rfl) (hf : X.fn x = true ∨ X.env.scope.names.lookup x = some .local := by first | exact .inl rfl | exact .inr rfl) : DTg X (.Name x pos) (.one i) := pg_name hN hi hx hf
def PGN (X : Cx) (es : List Expr) (is : List Nat) : Prop := PGs X es (gNames is)
theorem pgn_nil : PGN X [] [] := pgs_nil
theorem pgn_cons {is : List Nat} (i : Nat) (hN : X.N.Nodup) (h : PGN X es is) (hi : X.N[i]? = some x := by rfl) (hx : Loc X.env.scope x := by first | exact Or.inl rfl | exact Or.inr rfl) (hf : X.fn x = true ∨ X.env.scope.names.lookup x = some .local := by first | exact .inl rfl | exact .inr rfl)
    (hs : (assignEach (.Name x pos :: es) X.env).map (·.2) = assign (.Name x pos) X.env :: (assignEach es X.env).map (·.2) := by rfl) : PGN X (.Name x pos :: es) (i :: is) := pgs_cons (pg_name hN hi hx hf) h hs
theorem dtg_many {is : List Nat} {k : Nat} (hc : X.calm = true) (h : PGN X es is) (hn : (assignEach es X.env).length = is.length := by rfl) (hst : (assignEach es X.env).findIdx? (·.1) = none := by rfl) : DTg X (.Tuple es k pos) (.many is) := pg_tup hc h hn hst
theorem dgn (i : Nat) (hN : X.N.Nodup) (hi : X.N[i]? = some x := by rfl) (hx : Loc X.env.scope x := by first | exact Or.inl rfl | exact Or.inr rfl) (hf : X.fn x = true ∨ X.env.scope.names.lookup x = some .local := by first | exact .inl rfl | exact .inr rfl) : DG X W (.Name x pos) (gSet i) := dg_name i (pg_name hN hi hx hf)
theorem dgnM (i : Nat) (hN : X.N.Nodup) (hi : X.N[i]? = some x := by rfl) (hx : Loc X.env.scope x := by first | exact Or.inl rfl | exact Or.inr rfl) (hf : X.fn x = true ∨ X.env.scope.names.lookup x = some .local := by first | exact .inl rfl | exact .inr rfl) : DG X W (.Name x pos) (gSetM i) := dg_nameM i (pg_name hN hi hx hf)
theorem dset (i : Nat) {pos' : Pos} (hN : X.N.Nodup) (he : DE X W e Fe) (hi : X.N[i]? = some x := by rfl) (hx : Loc X.env.scope x := by first | exact Or.inl rfl | exact Or.inr rfl) (hs : swapsWith e (some (.Name x pos')) pos.line X.env = pure false := by rfl) (hf : X.fn x = true ∨ X.env.scope.names.lookup x = some .local := by first | exact .inl rfl | exact .inr rfl) :
    DS X W (.Assign [.Name x pos'] e pos) (sAsg Fe (gSet i)) := ds_set hN hi hx he hs hf
theorem dsetM (i : Nat) {pos' : Pos} (hN : X.N.Nodup) (he : DE X W e Fe) (hi : X.N[i]? = some x := by rfl) (hx : Loc X.env.scope x := by first | exact Or.inl rfl | exact Or.inr rfl) (hs : swapsWith e (some (.Name x pos')) pos.line X.env = pure false := by rfl) (hf : X.fn x = true ∨ X.env.scope.names.lookup x = some .local := by first | exact .inl rfl | exact .inr rfl) :
    DS X W (.Assign [.Name x pos'] e pos) (sAsg Fe (gSetM i)) := ds_setM hN hi hx he hs hf

/-! ### keywords -/
def DK (X : Cx) (W : WX) (kws : List Keyword) (A : DenA) : Prop := PK X kws (rdA X W A)
theorem _root_.L2.PK.mono {kws : List Keyword} {t t' : TA} (h : PK X kws t) (k : ∀ σ H Q, t' σ H Q → t σ H Q) : PK X kws t' := ⟨fun pos pins s σ H Q I q => h.run pos pins s σ H Q I (k _ _ _ q)⟩
theorem dk_nil : DK X W [] eNil := pk_nil.mono fun σ H Q h => by
  obtain ⟨w, ρ, M, m, er, p⟩ := h
  exact p.now m [] [] .nil fun _ z => nomatch z
theorem dk_cons {kws : List Keyword} {nm : Option Str} {kpos : Pos} (ha : DE X W e Fe) (hr : DK X W kws A) : DK X W (⟨nm, e, kpos⟩ :: kws) (eCons Fe A) := (pk_cons ha hr).mono fun _ _ _ h => rd_cons h
/-- all arguments, as the parameters stand: the i-th parameter is the (π i)-th written argument -/
def permL {α : Type} (π : List Nat) (d : α) (xs : List α) : List α := π.map fun i => xs.getD i d
/-- f called with n positional arguments and the keywords ks -/
def FOkK (P : Program) (w : World) (K : PySem.W.Frag) (mg : Mg) (base : Heap) (k : Nat) (f : Addr) (ks : List Str) (π : List Nat) (G : Fn) : Prop :=
  ∃ fd ps, ps.length = π.length ∧ FnOk P w K mg base (L2.CX P w) k f fd ps (spD K mg ps.length G) ∧ ∀ (s : Shared) (us ws : List Value), us.length + ks.length = π.length → ws.length = ks.length → BindsTo s fd ⟨us, ks.zip ws⟩ (ps.zip (permL π .none (us ++ ws)))
theorem perm_vals {xs : List V} {us : List Value} (r : Vals xs us) (π : List Nat) : Vals (permL π .non xs) (permL π .none us) := by
  unfold permL
  induction π with
  | nil => exact .nil
  | cons i r' ih =>
    rw [List.map_cons, List.map_cons]
    refine .cons ?_ ih
    rw [List.getD_eq_getElem?_getD, List.getD_eq_getElem?_getD]
    cases z : xs[i]? with
    | none => rw [r.none_of z]; rfl
    | some v => obtain ⟨u, h1, h2⟩ := r.get z; rw [h1]; exact h2
theorem perm_sv {K : PySem.W.Frag} {mg : Mg} {vs : List V} {xs : List SV} (r : VRL K mg w M vs xs) (π : List Nat) : VRL K mg w M (permL π .non vs) (permL π (.d .non) xs) := by
  unfold permL
  induction π with
  | nil => exact .nil
  | cons i r' ih =>
    rw [List.map_cons, List.map_cons]
    refine .cons ?_ ih
    rw [List.getD_eq_getElem?_getD, List.getD_eq_getElem?_getD]
    cases z : xs[i]? with
    | none =>
      have : vs[i]? = none := by
        rw [List.getElem?_eq_none_iff] at z ⊢
        rw [r.length]; exact z
      rw [this]; exact Dp.non
    | some x => obtain ⟨u, h1, h2⟩ := r.get z; rw [h1]; exact h2
theorem run_K {k : Nat} {f : Addr} {ks : List Str} {π : List Nat} {G : Fn} (F : FOkK X.prog X.w X.K X.mg X.base k f ks π G) (hr : Room k X.A) (tk : Takes X W) {pins : List (Addr × Obj)} {s : Shared} {Q : VK} {us ws : List Value} {vs zs : List V}
    (I : Inv X pins σ H s) (r : Vals vs us) (rz : Vals zs ws) (h1 : us.length + ks.length = π.length) (h2 : ws.length = ks.length) (h : spD X.K X.mg π.length G (permL π .non (vs ++ zs)) H Q (WE W σ)) : wpAny (model X.prog X.w) X.A (call (.ref f) us (ks.zip ws)) (EP X pins σ Q) X.xe s := by
  obtain ⟨fd, ps, hps, F, hb⟩ := F
  rw [← hps] at h
  refine wpAny_call (codeAny_mono (F.run X.A X.stack s H ⟨us, ks.zip ws⟩ (permL π .none (us ++ ws)) (permL π .non (vs ++ zs)) Q (WE W σ) hr I.env0 (hb s us ws h1 h2) (perm_vals (r.append rz) π) h) fun r s' hq => ?_)
  cases r with
  | error e => exact (passAt tk σ) pins H s e s' I hq
  | ok fl =>
    cases fl with
    | ret u => exact I.after hq
    | next => exact False.elim hq
    | brk => exact False.elim hq
    | cont => exact False.elim hq
def eCallK (G : Fn) (π : List Nat) (A : DenA) : Den := fun ρ M => (A ρ M).bind fun rs M1 => if rs.length = π.length then G (permL π (.d .non) (rs.map svR)) M1 else .bad
/-- f(k = e, ..) -/
theorem de_callK0 {kws : List Keyword} {k : Nat} {f : Addr} {ks : List Str} {π : List Nat} {G : Fn} (F : FOkK X.prog X.w X.K X.mg X.base k f ks π G) (hr : Room k X.A) (tk : Takes X W) (hg : Gl X x) (hm : X.mg x = some (.ref f)) (hk : PySem.W.keepIn X.K (.ref f) = true) (hkw : DK X W kws A)
    (hl : ks.length = π.length := by rfl) (hall : (backToKw pos (keywordEach kws X.env)).all (·.1.isSome) = true := by rfl) (hks : (backToKw pos (keywordEach kws X.env)).filterMap (·.1) = ks := by rfl)
    (hdb : (x == ("__debug__" : Str)) = false := by decide) (hpl : ((backTo pos (starEach [] X.env)).any (·.1) || (backToKw pos (keywordEach kws X.env)).any (·.1.isNone)) = false := by rfl) :
    DE X W (.Call (.Name x p) [] kws pos) (eCallK G π A) := by
  refine ⟨fun pins s σ H Q I h => ?_⟩
  obtain ⟨w, ρ, M, m, er, q⟩ := h
  refine wpAny_Call_Name_kw (ld_glob I hg hm ?_ hdb)
  refine PySem.W.callWith_KW0 (h₀ := X.base) I.ok.mod.kin hk hall ?_ hpl
  refine thn (hkw.run pos pins s σ H (fun vs H1 => vs.length = π.length ∧ spD X.K X.mg π.length G (permL π .non vs) H1 Q (WE W σ)) I ⟨w, ρ, M, m, er, q.bindF.imp fun w1 H1 M1 rs _ _ z => ?_⟩) fun ws s2 hh => ?_
  · obtain ⟨e1, m1, p1⟩ := z
    intro vs fp q hf
    replace p1 := p1 fp hf
    split at p1
    · rename_i hn
      obtain ⟨w2, e2, m2, v2⟩ := settleL m1 q
      exact ⟨by rw [q.length]; exact hn, w2, _, M1, m2, perm_sv v2 π, by simp [permL], PostC.of p1 e1 hf e2⟩
    · exact p1.elim
  · obtain ⟨zs, H2, I2, rz, hn, q2⟩ := hh
    refine ⟨I2.kIn, ?_⟩
    rw [hks]
    exact run_K F hr tk I2 .nil rz (by simpa using hl) (by rw [← rz.length]; omega) q2

theorem FOkK.of {P : Program} {w : World} {K : PySem.W.Frag} {mg : Mg} {base : Heap} {k : Nat} {f : Addr} {fd : FuncData} {ps ks : List Str} {π : List Nat} {G : Fn} (F : FnOk P w K mg base (L2.CX P w) k f fd ps (spD K mg ps.length G)) (hp : ps.length = π.length)
    (hb : ∀ (s : Shared) (us ws : List Value), us.length + ks.length = π.length → ws.length = ks.length → BindsTo s fd ⟨us, ks.zip ws⟩ (ps.zip (permL π .none (us ++ ws)))) : FOkK P w K mg base k f ks π G := ⟨fd, ps, hp, F, hb⟩
theorem fn_okE {P : Program} {w : World} {K : PySem.W.Frag} {mg : Mg} {base : Heap} {x qual : Str} {st : Stmt} {f : Addr} {fd : FuncData} {N ps : List Str} {k : Nat} {G : Fn} {b' : DenS} (F : Fun K x qual st f fd) (S : FnScope N ps (defScope st))
    (h : ∀ (cdv : Value) (A : Around) (outer : List Env) (s : Shared) (H : Hp) (E : XK), Room k (A.deeper (envOfC qual (defScope st) s.heap.objs.size f cdv)) → Takes (cxOf (L2.CX P w) P w K mg base N qual (defScope st) f cdv A outer s H E) (fun cls d _ H => E cls d H) →
      PassesOwn (model P w) (A.deeper (envOfC qual (defScope st) s.heap.objs.size f cdv)) (cxOf (L2.CX P w) P w K mg base N qual (defScope st) f cdv A outer s H E).env (cxOf (L2.CX P w) P w K mg base N qual (defScope st) f cdv A outer s H E).xe →
      DB (cxOf (L2.CX P w) P w K mg base N qual (defScope st) f cdv A outer s H E) (fun cls d _ H => E cls d H) (defBody st) b') (e : G = body N.length b') : FnOk P w K mg base (L2.CX P w) (k + 1) f fd ps (spD K mg ps.length G) := by
  subst e
  exact fn_okF F S h
/-- depth 0 of a recursion -/
theorem bad_okF {P : Program} {w : World} {K : PySem.W.Frag} {mg : Mg} {base : Heap} {x qual : Str} {st : Stmt} {f : Addr} {fd : FuncData} {N ps : List Str} {k : Nat} (F : Fun K x qual st f fd) (S : FnScope N ps (defScope st)) : FnOk P w K mg base (L2.CX P w) (k + 1) f fd ps (spD K mg ps.length fun _ _ => .bad) :=
  (fn_okF F S fun _ _ _ _ _ _ _ _ _ => db_never).imp fun vs H Q E h => by
    obtain ⟨_, _, _, _, _, _, z⟩ := h
    exact z.elim
/-! ### the law's end -/
theorem ints_dpK {K : PySem.W.Frag} {mg : Mg} {F : Hp} : ∀ is : List Int, DpL K mg F (is.map V.int) (is.map D.int)
  | [] => .nil
  | i :: is => .cons (Dp.int i) (ints_dpK is)
def spLaw (K : PySem.W.Frag) : Sp := fun vs H Q _ => ∃ (a : Addr) (ns : List Int), vs = [.ref a] ∧ SqL K H a (ns.map V.int) ∧ ns.length ≤ 63 ∧ ∀ H', Q (.bl true) H'
theorem FOk.law {P : Program} {w : World} {K : PySem.W.Frag} {mg : Mg} {base : Heap} {k : Nat} {f : Addr} {x : Str} {G : Fn} (F : FOk P w K mg base k f [x] G)
    (h : ∀ ns : List Int, ns.length ≤ 63 → ∃ M, G [.d (.ro (ns.map D.int))] [] = .ok (.t (.d (.bl true))) M) : ∃ fd, FnOk P w K mg base (L2.CX P w) k f fd [x] (spLaw K) ∧ Binds K fd [x] [] := by
  obtain ⟨fd, F, hb⟩ := F
  refine ⟨fd, F.imp fun vs H Q E ⟨a, ns, hv, hs, hl, hq⟩ => ?_, hb⟩
  subst hv
  obtain ⟨M', hM⟩ := h ns hl
  refine ⟨⟨H, fun _ => 0, fun _ => []⟩, [.d (.ro (ns.map D.int))], [], ⟨Same.refl _, (fun k t e => by simp at e), fun j k a hj => by simp at hj⟩, .cons (Dp.ro hs (ints_dpK ns)) .nil, rfl, ?_⟩
  rw [hM]
  intro w' H' v fp e m q _
  rw [rr_bl q]
  exact hq H'
theorem fn_law {P : Program} {w : World} {K : PySem.W.Frag} {mg : Mg} {base : Heap} {k : Nat} {f : Addr} {fd : FuncData} {x : Str} {G : Fn} (F : FnOk P w K mg base (L2.CX P w) k f fd [x] (spD K mg ([x] : List Str).length G))
    (h : ∀ ns : List Int, ns.length ≤ 63 → ∃ M, G [.d (.ro (ns.map D.int))] [] = .ok (.t (.d (.bl true))) M) : FnOk P w K mg base (L2.CX P w) k f fd [x] (spLaw K) := F.imp fun vs H Q E ⟨a, ns, hv, hs, hl, hq⟩ => by
  subst hv
  obtain ⟨M', hM⟩ := h ns hl
  refine ⟨⟨H, fun _ => 0, fun _ => []⟩, [.d (.ro (ns.map D.int))], [], ⟨Same.refl _, (fun k t e => by simp at e), fun j k a hj => by simp at hj⟩, .cons (Dp.ro hs (ints_dpK ns)) .nil, rfl, ?_⟩
  rw [hM]
  intro w' H' v fp e m q _
  rw [rr_bl q]
  exact hq H'
theorem cx_no {P : Program} {w : World} (H : Hp) (s : Shared) (e : Value) (s' : Shared) (h : L2.CX P w [] H s (fun _ _ _ => False) e s') : False := by
  obtain ⟨_, _, _, _, _, _, _, _, _, _, _, _, z⟩ := h
  exact z
end
end DL

/-! DL16: instances: their fields, methods, properties, classes called -/
namespace DL
open PySem L2 PySem.Spec PyProof.Rows
section
variable {K : PySem.W.Frag} {mg : Mg} {w w' : Wd} {F H H' : Hp} {M M' : Mst} {fs fp : List Addr}
theorem TRF.get : ∀ {vs : List (Str × V)} {ts : List (Str × T)} {fp : List Addr} {f : Str} {t : T}, TRF K mg F H vs ts fp → ts.lookup f = some t → ∃ v f', vs.lookup f = some v ∧ TR K mg F H v t f' ∧ ∀ a ∈ f', a ∈ fp
  | _, _, _, _, _, .nil, e => by simp at e
  | _, _, _, f, t, .cons (f := g) (f1 := f1) h r, e => by
    simp only [List.lookup_cons] at e ⊢
    split at e
    · cases e; exact ⟨_, f1, rfl, h, fun a ha => List.mem_append_left _ ha⟩
    · obtain ⟨v, f', h1, h2, h3⟩ := TRF.get r e
      exact ⟨v, f', h1, h2, fun a ha => List.mem_append_right _ (h3 a ha)⟩
theorem TRF.keys : ∀ {vs : List (Str × V)} {ts : List (Str × T)} {fp : List Addr}, TRF K mg F H vs ts fp → vs.map (·.1) = ts.map (·.1)
  | _, _, _, .nil => rfl
  | _, _, _, .cons h r => by simp [TRF.keys r]
theorem DpF.keys : ∀ {vs : List (Str × V)} {ts : List (Str × D)}, DpF K mg F vs ts → vs.map (·.1) = ts.map (·.1)
  | _, _, .nil => rfl
  | _, _, .cons h r => by simp [DpF.keys r]
theorem no_key {f : Str} : ∀ {fs : List (Str × V)}, f ∉ fs.map (·.1) → fs.lookup f = none
  | [], _ => rfl
  | (g, x) :: r, h => by
    rw [List.lookup_cons, show (f == g) = false from beq_eq_false_iff_ne.mpr fun z => h (by rw [z]; simp)]
    exact no_key fun z => h (by simp at z ⊢; exact .inr z)
/-- the class of an instance and the names of its fields -/
def insT : T → Option (Str × List Str)
  | .ins c fs => some (c, fs.map (·.1))
  | .d (.ins c fs) => some (c, fs.map (·.1))
  | _ => none
def insOf (M : Mst) : R → Option (Str × List Str)
  | .h k => insT (M.getD k (.d .non))
  | .t t => insT t
theorem tr_ins {v : V} {t : T} {c : Str} {ns : List Str} (h : TR K mg F H v t fp) (s : Same F H) (e : insT t = some (c, ns)) : ∃ a C dx fs, v = .ref a ∧ H a = some (.ins C dx fs) ∧ mg c = some (.ref C) ∧ fs.map (·.1) = ns := by
  cases h with
  | d h =>
    cases h with
    | ins h1 h2 h3 => cases e; exact ⟨_, _, _, _, rfl, s _ _ h1, h2, h3.keys⟩
    | non => cases e
    | bl _ => cases e
    | int _ => cases e
    | str _ => cases e
    | lst _ _ => cases e
    | ro _ _ => cases e
    | tupP _ _ => cases e
    | glo _ => cases e
    | ty _ => cases e
    | dic _ _ => cases e
    | junk _ => cases e
  | ins h1 h2 h3 h4 => cases e; exact ⟨_, _, _, _, rfl, h1, h3, h4.keys⟩
  | lst _ _ _ => cases e
  | tup _ _ _ => cases e
  | dic _ _ _ => cases e
theorem ins_at {v : V} {r : R} {c : Str} {ns : List Str} (m : MR K mg w H M) (h : RR K mg w H M v r fp) (e : insOf M r = some (c, ns)) : ∃ a C dx fs, v = .ref a ∧ H a = some (.ins C dx fs) ∧ mg c = some (.ref C) ∧ fs.map (·.1) = ns := by
  cases r with
  | h k =>
    obtain ⟨hk, rfl, rfl⟩ := h
    obtain ⟨x, hx⟩ : ∃ x, M[k]? = some x := ⟨M[k], List.getElem?_eq_getElem hk⟩
    obtain ⟨q, _⟩ := m.obj k x hx
    refine tr_ins q m.sub ?_
    have e : insT (M.getD k (.d .non)) = some (c, ns) := e
    rw [getD_of hx] at e
    exact e
  | t x => exact tr_ins h.1 m.sub e
/-! ### fields -/
structure FldOk (K : PySem.W.Frag) (mg : Mg) (cs : List Str) (f : Str) : Prop where
  ok : ∀ c ∈ cs, ∀ C, mg c = some (.ref C) → Cls K C ∧ NoAttr K C f
def fieldD (cs : List Str) (f : Str) : D → Option D
  | .ins c fs => if cs.contains c = true then fs.lookup f else none
  | _ => none
def fldR (cs : List Str) (f : Str) : R → Mst → Out R
  | .h k, M => (match M.getD k (.d .non) with
    | .ins c fs => if cs.contains c = true then (match fs.lookup f with
      | some (.d x) => .ok (.t (.d x)) M
      | _ => .bad) else .bad
    | .d x => (match fieldD cs f x with
      | some y => .ok (.t (.d y)) M
      | none => .bad)
    | _ => .bad)
  | .t x, M => (match fieldD cs f (frz x) with
    | some y => .ok (.t (.d y)) M
    | none => .bad)
def eFld (cs : List Str) (f : Str) (F : Den) : Den := eSeq1 (fldR cs f) F
end
section
variable {X : Cx} {W : WX} {σ : L2.St} {fs gs : List Addr} {w w2 : Wd} {H H2 : Hp} {M M2 : Mst}
variable {e o : Expr} {es : List Expr} {Fe Fo Fv : Den} {A : DenA} {pos p apos : Pos} {x m f : Str} {k : Nat} {ps : List Str} {G : Fn} {cs : List Str} {c : Str}
theorem rd_fld (ok : FldOk X.K X.mg cs f) {Q : VK} (h : rdE X W (eFld cs f Fo) σ H Q) : tFld X.K (rdE X W Fo) f σ H Q := by
  obtain ⟨w, ρ, M, m, er, p⟩ := h
  refine ⟨w, ρ, M, m, er, p.bindF.imp fun w1 H1 M1 r _ _ z => ?_⟩
  obtain ⟨e1, m1, p1⟩ := z
  intro v fp q hf
  replace p1 := p1 fp hf
  have atD : ∀ {F : Hp} {v : V} {d y : D}, Dp X.K X.mg F v d → Same F H1 → fieldD cs f d = some y → ∃ a C dx fs u, v = .ref a ∧ H1 a = some (.ins C dx fs) ∧ Cls X.K C ∧ NoAttr X.K C f ∧ fs.lookup f = some u ∧ Dp X.K X.mg F u y := by
    intro F v d y hd s e
    cases hd with
    | ins h1 h2 h3 =>
      have e : (if cs.contains _ = true then List.lookup f _ else none) = some y := e
      split at e
      · rename_i hc
        obtain ⟨u, g1, g2⟩ := h3.get e
        obtain ⟨k1, k2⟩ := ok.ok _ (List.contains_iff_mem.mp hc) _ h2
        exact ⟨_, _, _, _, u, rfl, s _ _ h1, k1, k2, g1, g2⟩
      · cases e
    | non => cases e
    | bl _ => cases e
    | int _ => cases e
    | str _ => cases e
    | lst _ _ => cases e
    | ro _ _ => cases e
    | tupP _ _ => cases e
    | glo _ => cases e
    | ty _ => cases e
    | dic _ _ => cases e
    | junk _ => cases e
  cases r with
  | t x =>
    have p1 : Post X W σ fp w1 H1 M1 (match fieldD cs f (frz x) with
      | some y => .ok (R.t (.d y)) M1
      | none => .bad) (CE X [] w H M Q) := p1
    obtain ⟨w2, e2, m2, d2, _⟩ := settle m1 q
    split at p1
    · rename_i y hy
      obtain ⟨a, C, dx, fs, u, h1, h2, h3, h4, h5, h6⟩ := atD d2 m2.sub hy
      refine ⟨a, C, dx, fs, u, h1, h2, h3, h4, h5, ?_⟩
      exact (p1 w2 H1 e2 m2) u [] (rr_d h6) fun _ z => nomatch z
    · exact p1.elim
  | h k =>
    obtain ⟨hk, rfl, rfl⟩ := q
    obtain ⟨x, hx⟩ : ∃ x, M1[k]? = some x := ⟨M1[k], List.getElem?_eq_getElem hk⟩
    obtain ⟨q, _⟩ := m1.obj k x hx
    have p1 : Post X W σ [] w1 H1 M1 (match M1.getD k (.d .non) with
      | .ins c fs => if cs.contains c = true then (match fs.lookup f with
        | some (.d x) => .ok (R.t (.d x)) M1
        | _ => .bad) else .bad
      | .d x => (match fieldD cs f x with
        | some y => .ok (.t (.d y)) M1
        | none => .bad)
      | _ => .bad) (CE X [] w H M Q) := p1
    rw [getD_of hx] at p1
    split at p1
    · rename_i c' fs'
      split at p1
      · rename_i hc
        split at p1
        · rename_i y hy
          generalize w1.φ k = fk at q
          generalize hv : V.ref (w1.α k) = v at q
          cases q with
          | ins h1 h2 h3 h4 =>
            obtain ⟨u, f', g1, g2, _⟩ := h4.get hy
            obtain ⟨k1, k2⟩ := ok.ok _ (List.contains_iff_mem.mp hc) _ h3
            cases g2 with
            | d g2 => cases hv; exact ⟨_, _, _, _, u, rfl, h1, k1, k2, g1, (p1.now m1) u [] (rr_d g2) fun _ z => nomatch z⟩
        · exact p1.elim
      · exact p1.elim
    · rename_i x'
      split at p1
      · rename_i y hy
        generalize w1.φ k = fk at q
        cases q with
        | d q =>
          obtain ⟨a, C, dx, fs, u, h1, h2, h3, h4, h5, h6⟩ := atD q m1.sub hy
          exact ⟨a, C, dx, fs, u, h1, h2, h3, h4, h5, (p1.now m1) u [] (rr_d h6) fun _ z => nomatch z⟩
      · exact p1.elim
    · exact p1.elim
/-- e.f -/
theorem de_fld (ok : FldOk X.K X.mg cs f) (he : DE X W o Fo) (hb : attributeBase o f X.env (eval o X.env) = eval o X.env := by rfl) : DE X W (.Attribute o f pos) (eFld cs f Fo) :=
  (pe_fld he hb).mono fun _ _ _ h => rd_fld ok h

/-! ### a place written anew -/
theorem put_obj {k : Nat} {q : Addr} {t t' : T} {o' : HO} {f' : List Addr} (m : MR X.K X.mg w H M) (hk : M[k]? = some t) (hin : q ∈ w.φ k) (h' : TR X.K X.mg w.F (upd H q o') (.ref (w.α k)) t' f') (nd : f'.Nodup) (hna : w.F q = none)
    (dj : ∀ a ∈ f', ∀ j, j < M.length → j ≠ k → a ∉ w.φ j) (pm : ∀ a ∈ f', Pm fs w H M a) :
    ∃ w', Ext fs w H M w' (upd H q o') (M.set k t') ∧ MR X.K X.mg w' (upd H q o') (M.set k t') ∧ w'.F = w.F ∧ w'.α = w.α := by
  have hkl : k < M.length := (List.getElem?_eq_some_iff.mp hk).1
  have hne : ∀ j, j < M.length → j ≠ k → q ∉ w.φ j := fun j hj hjk z => hjk (m.dis j k _ hj hkl z hin)
  refine ⟨⟨w.F, w.α, fun j => if j = k then f' else w.φ j⟩, ⟨Same.refl _, by simp, fun _ _ => rfl, fun a o e n => ?_, fun j hj a ha => ?_, fun _ h => .inl h, fun a e => ?_⟩, ⟨fun a o e => ?_, fun j t e => ?_, fun i j a hi hj h1 h2 => ?_⟩, rfl, rfl⟩
  · have ne : a ≠ q := fun z => n (.inr (.inl ⟨k, hkl, by rw [z]; exact hin⟩))
    rw [upd_ne ne]; exact e
  · rw [List.length_set] at hj
    have ha : a ∈ (if j = k then f' else w.φ j) := ha
    split at ha
    · exact pm a ha
    · exact .inr (.inl ⟨j, hj, ha⟩)
  · by_cases z : a = q
    · rw [z, upd_same] at e; cases e
    · rw [upd_ne z] at e; exact e
  · have ne : a ≠ q := fun z => by rw [z, show w.F q = none from hna] at e; cases e
    rw [upd_ne ne]; exact m.sub a o e
  · by_cases hjk : k = j
    · subst hjk
      rw [List.getElem?_set_self hkl] at e
      cases e
      show TR X.K X.mg w.F _ _ _ (if k = k then f' else w.φ k) ∧ (if k = k then f' else w.φ k).Nodup
      rw [if_pos rfl]
      exact ⟨h', nd⟩
    · rw [List.getElem?_set_ne hjk] at e
      obtain ⟨z1, z2⟩ := m.obj j t e
      have hj : j < M.length := (List.getElem?_eq_some_iff.mp e).1
      show TR X.K X.mg w.F _ _ _ (if j = k then f' else w.φ j) ∧ (if j = k then f' else w.φ j).Nodup
      rw [if_neg (Ne.symm hjk)]
      refine ⟨z1.stay (Same.refl _) fun a ha => ⟨(z1.fp a ha).1, fun o ho => ?_⟩, z2⟩
      have ne : a ≠ q := fun z => hne j hj (Ne.symm hjk) (z ▸ ha)
      rw [upd_ne ne]; exact ho
  · rw [List.length_set] at hi hj
    have h1 : a ∈ (if i = k then f' else w.φ i) := h1
    have h2 : a ∈ (if j = k then f' else w.φ j) := h2
    by_cases hi' : i = k
    · rw [if_pos hi'] at h1
      by_cases hj' : j = k
      · rw [hi', hj']
      · rw [if_neg hj'] at h2
        exact absurd h2 (dj a h1 j hj hj')
    · rw [if_neg hi'] at h1
      by_cases hj' : j = k
      · rw [if_pos hj'] at h2
        exact absurd h1 (dj a h2 i hi hi')
      · rw [if_neg hj'] at h2
        exact m.dis i j a hi hj h1 h2
def putT (f : Str) (t : T) : List (Str × T) → List (Str × T)
  | [] => [(f, t)]
  | (g, x) :: r => if g = f then (g, t) :: r else (g, x) :: putT f t r
theorem TRF.put {F : Hp} {v : V} {x : D} (hv : Dp X.K X.mg F v x) : ∀ {vs : List (Str × V)} {ts : List (Str × T)} {fp : List Addr}, TRF X.K X.mg F H vs ts fp → ∃ fp', TRF X.K X.mg F H (putF f v vs) (putT f (.d x) ts) fp' ∧ fp'.Sublist fp
  | _, _, _, .nil => ⟨[] ++ [], .cons (.d hv) .nil, List.Sublist.refl _⟩
  | _, _, _, .cons (f := g) (f1 := f1) (f2 := f2) h r => by
    unfold putF putT
    by_cases z : g = f
    · rw [if_pos z, if_pos z]
      exact ⟨[] ++ f2, .cons (.d hv) r, List.sublist_append_right f1 f2⟩
    · rw [if_neg z, if_neg z]
      obtain ⟨fp', h1, h2⟩ := TRF.put hv r
      exact ⟨f1 ++ fp', .cons h h1, List.Sublist.append_left h2 f1⟩
theorem TRF.length {F : Hp} : ∀ {vs : List (Str × V)} {ts : List (Str × T)} {fp : List Addr}, TRF X.K X.mg F H vs ts fp → vs.length = ts.length
  | _, _, _, .nil => rfl
  | _, _, _, .cons _ r => by simp [TRF.length r]
/-- o.f = v: the value becomes data -/
def sFldD (cs : List Str) (f : Str) (Fv Fo : Den) : DenS := fun ρ M => bindS (Fv ρ M) ρ fun r M1 => bindS (Fo ρ (frzM M1 r)) ρ fun ro M2 => match ro with
  | .h k => (match M2[k]? with
    | some (.ins c fs) => if cs.contains c = true ∧ fs.length < 1000 then some (.nx ρ, M2.set k (.ins c (putT f (.d (frzR M1 r)) fs))) else none
    | _ => none)
  | _ => none
theorem rd_sfld (ok : FldOk X.K X.mg cs f) {Dn : Ends} (h : rdS X W (sFldD cs f Fv Fo) Dn σ H) : sFld X.K (rdE X W Fo) (rdE X W Fv) f Dn σ H := by
  obtain ⟨w, ρ, M, m, er, p⟩ := h
  refine ⟨w, ρ, M, m, er, (PostS.bindF p er).imp fun w1 H1 M1 r _ _ z => ?_⟩
  obtain ⟨e1, m1, p1⟩ := z
  have er1 := er.stay e1
  intro v fp q hf
  replace p1 := p1 fp hf
  obtain ⟨w2, e2, m2, d2, _⟩ := settle m1 q
  replace p1 := p1.from e2 (gs := []) fun _ z => nomatch z
  have er2 := er1.stay e2
  refine ⟨w2, ρ, _, m2, er2, (PostS.bindF p1 er2).imp fun w3 H3 M3 ro _ _ z => ?_⟩
  obtain ⟨e3, m3, p3⟩ := z
  have er3 := er2.stay e3
  intro v3 f3 q3 hf3
  replace p3 := p3 [] fun _ z => nomatch z
  split at p3
  · rename_i k
    obtain ⟨hk, rfl, _⟩ := q3
    split at p3
    · rename_i c fs hx
      split at p3
      · rename_i hc
        obtain ⟨q4, nd4⟩ := m3.obj k _ hx
        generalize hfk : w3.φ k = fk at q4
        generalize hv : V.ref (w3.α k) = va at q4
        cases q4 with
        | @ins a C dx vs _ _ fp4 h1 h2 h3 h4 =>
          cases hv
          obtain ⟨k1, k2⟩ := ok.ok _ (List.contains_iff_mem.mp hc.1) _ h3
          obtain ⟨fp', h5, h6⟩ := TRF.put (f := f) (Dp.mono e3.F d2) h4
          have hsub : ∀ a ∈ w3.α k :: fp', a ∈ w3.φ k := fun a ha => by
            rw [hfk]
            rcases List.mem_cons.mp ha with rfl | ha
            · exact List.mem_cons_self
            · exact List.mem_cons_of_mem _ (h6.subset ha)
          rw [hfk] at nd4
          obtain ⟨n1, n2⟩ := List.nodup_cons.mp nd4
          obtain ⟨w4, e4, m4, _, _⟩ := put_obj (fs := []) (o' := .ins C dx (putF f v vs)) (f' := w3.α k :: fp') (t' := .ins c (putT f (.d (frzR M1 r)) fs)) m3 hx (by rw [hfk]; exact List.mem_cons_self)
            (.ins upd_same h2 h3 (h5.stay (Same.refl _) fun a ha => ⟨(h5.fp a ha).1, fun o ho => by rw [upd_ne (show a ≠ w3.α k from fun z => n1 (z ▸ h6.subset ha))]; exact ho⟩))
            (List.nodup_cons.mpr ⟨fun z => n1 (h6.subset z), n2.sublist h6⟩) h2
            (fun a ha j hj hjk z => hjk (m3.dis j k a hj hk z (hsub a ha))) (fun a ha => .inr (.inl ⟨k, hk, hsub a ha⟩))
          exact ⟨_, C, dx, vs, rfl, h1, k1, k2, by rw [h4.length]; exact hc.2, p3 w4 _ σ e4 m4 (er3.stay e4)⟩
      · exact p3.elim
    · exact p3.elim
  · exact p3.elim
theorem ds_fld {value : Expr} {pos' : Pos} (ok : FldOk X.K X.mg cs f) (hv : DE X W value Fv) (ho : DE X W o Fo) (hs : swapsWith value (some (.Attribute o f pos')) pos.line X.env = pure false := by rfl) :
    DS X W (.Assign [.Attribute o f pos'] value pos) (sFldD cs f Fv Fo) := (ps_fld ho hv hs).mono fun _ _ _ h => rd_sfld ok h
end
end DL

/-! DL17: methods, properties, classes called -/
namespace DL
open PySem L2 PySem.Spec PyProof.Rows
/-- the class c has the method m, a def that does as G tells -/
structure MethD (P : Program) (w : World) (K : PySem.W.Frag) (mg : Mg) (base : Heap) (c m : Str) (k : Nat) (ps : List Str) (G : Fn) : Prop where
  ex : ∃ C f, mg c = some (.ref C) ∧ Cls K C ∧ Meth K C m f ∧ FOk P w K mg base k f ps G
structure PropD (P : Program) (w : World) (K : PySem.W.Frag) (mg : Mg) (base : Heap) (c m : Str) (k : Nat) (G : Fn) : Prop where
  ex : ∃ C p g x, mg c = some (.ref C) ∧ Cls K C ∧ PropOf K C m p g ∧ FOk P w K mg base k g [x] G
structure MakeD (P : Program) (w : World) (K : PySem.W.Frag) (mg : Mg) (base : Heap) (c : Str) (k : Nat) (ps : List Str) (G : Fn) : Prop where
  ex : ∃ C f, mg c = some (.ref C) ∧ Mk K C f ∧ FOk P w K mg base k f ps G
def eMeth (c m : Str) (n : Nat) (G : Fn) (Fo : Den) (A : DenA) : Den := fun ρ M => (Fo ρ M).bind fun r M1 => match insOf M1 r with
  | some (c', ns) => if c' = c ∧ m ∉ ns then (A ρ M1).bind fun rs M2 => if (r :: rs).length = n then G ((r :: rs).map svR) M2 else .bad else .bad
  | none => .bad
def eProp (c : Str) (G : Fn) (Fo : Den) : Den := fun ρ M => (Fo ρ M).bind fun r M1 => match insOf M1 r with
  | some (c', _) => if c' = c then noX (G [svR r] M1) else .bad
  | none => .bad
def cutX (n : Nat) : Out R → Out R
  | .exc e M => .exc e (M.take n)
  | o => o
def eMake (c : Str) (n : Nat) (G : Fn) (A : DenA) : Den := fun ρ M => (A ρ M).bind fun rs M1 => if rs.length + 1 = n then (cutX M1.length (G (.h M1.length :: rs.map svR) (M1 ++ [.ins c []]))).bind fun r M2 => match r with
  | .t (.d .non) => .ok (.t (M2.getD M1.length (.d .non))) (M2.take M1.length)
  | _ => .bad
  else .bad
section
variable {X : Cx} {W : WX} {σ : L2.St} {fs gs : List Addr} {w w2 : Wd} {H H2 : Hp} {M M2 : Mst}
variable {e o : Expr} {es : List Expr} {Fe Fo Fv : Den} {A : DenA} {pos p apos : Pos} {x m f : Str} {k : Nat} {ps : List Str} {G : Fn} {cs : List Str} {c : Str}
theorem rd_meth {n : Nat} {C : Addr} (hC : X.mg c = some (.ref C)) {Q : VK} (h : rdE X W (eMeth c m n G Fo A) σ H Q) :
    rdE X W Fo σ H fun x H1 => ∃ a dx fs, x = .ref a ∧ H1 a = some (.ins C dx fs) ∧ fs.lookup m = none ∧ rdA X W A σ H1 fun vs H2 => spD X.K X.mg n G (x :: vs) H2 Q (WE W σ) := by
  obtain ⟨w, ρ, M, wm, er, p⟩ := h
  refine ⟨w, ρ, M, wm, er, p.bindF.imp fun w1 H1 M1 r _ _ z => ?_⟩
  obtain ⟨e1, m1, p1⟩ := z
  intro v fp q hf
  replace p1 := p1 fp hf
  split at p1
  · rename_i c' ns hi
    split at p1
    · rename_i hc
      obtain ⟨rfl, hn⟩ := hc
      obtain ⟨a, C', dx, fs, rfl, ha, hC', hk⟩ := ins_at m1 q hi
      obtain rfl : C = C' := by rw [hC] at hC'; cases hC'; rfl
      refine ⟨a, dx, fs, rfl, ha, no_key (hk ▸ hn), w1, ρ, M1, m1, er.stay e1, (Post.bindF p1).imp fun w2 H2 M2 rs _ _ z => ?_⟩
      obtain ⟨e2, m2, p2⟩ := z
      intro vs f2 q2 hf2
      have dj : ∀ a ∈ fp, a ∉ f2 := q.apart hf2
      have hp : ∀ a ∈ fp ++ f2, Pm fp w1 H1 M1 a := fun a ha => (List.mem_append.mp ha).elim (fun z => .inr (.inr z)) fun z => pm_nil (hf2 a z) _
      have hp' : ∀ a ∈ fp ++ f2, Pm [] w H M a := fun a ha => (List.mem_append.mp ha).elim (hf a) fun z => e1.pm (gs := []) (fun _ z => nomatch z) (hf2 a z)
      replace p2 := p2 _ hp
      split at p2
      · rename_i hl
        have q3 : RRL X.K X.mg w2 H2 M2 (V.ref a :: vs) (r :: rs) (fp ++ f2) := .cons (q.stay e2 fun _ _ z => nomatch z) q2 dj
        obtain ⟨w3, e3, m3, v3⟩ := settleL m2 q3
        exact ⟨w3, _, M2, m3, v3, by rw [q3.length]; exact hl, PostC.of p2 (e1.trans0 e2) hp' e3⟩
      · exact p2.elim
    · exact p1.elim
  · exact p1.elim
/-- o.m(e, ..) -/
theorem de_meth {pl : Sem Bool} (D : MethD X.prog X.w X.K X.mg X.base c m k ps G) (hr : Room k X.A) (tk : Takes X W) (ho : DE X W o Fo) (ha : DA X W (e :: es) A)
    (hst : starEach (e :: es) X.env = (false, eval e X.env) :: starEach es X.env := by rfl) (hpl : (backTo pos (starEach es X.env)).any (·.1) = false := by rfl)
    (ht : eval (.Call (.Attribute o m apos) (e :: es) [] pos) X.env = (do
      let ov ← eval o X.env
      standAt apos.atName
      let (f, first) ← holding [ov] (getMethod ov m pl)
      callWith pos f first (backTo pos (starEach (e :: es) X.env)) (backToKw pos (keywordEach [] X.env))) := by rfl) :
    DE X W (.Call (.Attribute o m apos) (e :: es) [] pos) (eMeth c m ps.length G Fo A) := by
  obtain ⟨C, f, hC, cl, hm, F⟩ := D.ex
  refine ⟨fun pins s σ H Q I h => ?_⟩
  refine PySem.W.methodCall_KW (pl := pl) (thn (ho.run pins s σ H _ I (rd_meth hC h)) fun u s1 ⟨x, H1, I1, rx, a, dx, fs, ex, ea, l, q⟩ => ?_) ht
  subst ex
  obtain rfl : u = Value.ref a := rx
  refine getmeth_ok I1 ea cl hm l ?_
  refine PySem.W.callWith_K (first := [.ref a]) (h₀ := X.base) I.ok.mod.kin hm.kp (thn (ha.run pos pins s1 σ H1 _ I1 q) fun us s2 ⟨vs, H2, I2, r, q2⟩ => ⟨I2.kIn, ?_⟩) hst hpl
  exact F.run hr tk I2 (us := .ref a :: us) (vs := .ref a :: vs) (.cons rfl r) q2
/-- o.m() -/
theorem de_meth0 {pl : Sem Bool} (D : MethD X.prog X.w X.K X.mg X.base c m k ps G) (hr : Room k X.A) (tk : Takes X W) (ho : DE X W o Fo)
    (ht : eval (.Call (.Attribute o m apos) [] [] pos) X.env = (do
      let ov ← eval o X.env
      standAt apos.atName
      let (f, first) ← holding [ov] (getMethod ov m pl)
      callWith pos f first (backTo pos (starEach [] X.env)) (backToKw pos (keywordEach [] X.env))) := by rfl) :
    DE X W (.Call (.Attribute o m apos) [] [] pos) (eMeth c m ps.length G Fo eNil) := by
  obtain ⟨C, f, hC, cl, hm, F⟩ := D.ex
  refine ⟨fun pins s σ H Q I h => ?_⟩
  refine PySem.W.methodCall_KW (pl := pl) (thn (ho.run pins s σ H _ I (rd_meth hC h)) fun u s1 ⟨x, H1, I1, rx, a, dx, fs, ex, ea, l, q⟩ => ?_) ht
  subst ex
  obtain rfl : u = Value.ref a := rx
  refine getmeth_ok I1 ea cl hm l ?_
  obtain ⟨w, ρ, M, wm, er, p⟩ := q
  exact PySem.W.callWith_K0 (first := [.ref a]) I1.kIn hm.kp (F.run hr tk I1 (us := [.ref a]) (vs := [.ref a]) (.cons rfl .nil) (p.now wm [] [] .nil fun _ z => nomatch z))
/-! ### properties -/
theorem rd_prop {C : Addr} (hC : X.mg c = some (.ref C)) {Q : VK} (h : rdE X W (eProp c G Fo) σ H Q) : tProp C (spD X.K X.mg 1 G) [] (fun _ _ _ => False) (rdE X W Fo) σ H Q := by
  obtain ⟨w, ρ, M, wm, er, p⟩ := h
  refine ⟨w, ρ, M, wm, er, p.bindF.imp fun w1 H1 M1 r _ _ z => ?_⟩
  obtain ⟨e1, m1, p1⟩ := z
  intro v fp q hf
  replace p1 := p1 fp hf
  split at p1
  · rename_i c' ns hi
    split at p1
    · rename_i hc
      subst hc
      obtain ⟨a, C', dx, fs, rfl, ha, hC', hk⟩ := ins_at m1 q hi
      obtain rfl : C = C' := by rw [hC] at hC'; cases hC'; rfl
      obtain ⟨w2, e2, m2, v2, _⟩ := settleV m1 q
      refine ⟨a, dx, fs, rfl, ha, w2, [svR r], M1, m2, .cons v2 .nil, rfl, ?_⟩
      have p2 := PostC.of p1 e1 hf e2
      cases z : G [svR r] M1 with
      | ok y M' => rw [z] at p2; exact p2
      | exc y M' => rw [z] at p2; exact p2.elim
      | bad => rw [z] at p2; exact p2.elim
    · exact p1.elim
  · exact p1.elim
/-- e.f, a property -/
theorem de_prop (D : PropD X.prog X.w X.K X.mg X.base c f k G) (hr : Room (k + 1) X.A) (ho : DE X W o Fo) (hb : attributeBase o f X.env (eval o X.env) = eval o X.env := by rfl) : DE X W (.Attribute o f pos) (eProp c G Fo) := by
  obtain ⟨C, pp, g, x, hC, cl, hp, fd, F, hbd⟩ := D.ex
  exact (pe_prop ho cl hp F hr hbd .nil (fun pins σ H s e s' I c => by
    obtain ⟨_, _, _, _, _, _, _, _, _, _, _, _, z⟩ := c
    exact z) hb).mono fun _ _ _ h => rd_prop hC h
/-! ### a class called -/
theorem run_makeF {C f : Addr} (Mk' : Mk X.K C f) (F : FOk X.prog X.w X.K X.mg X.base k f ps G) (hr : Room (k + 1) X.A) (tk : Takes X W) {pins : List (Addr × Obj)} {s : Shared} {Q : VK} {us : List Value} {vs : List V} (I : Inv X pins σ H s) (r : Vals vs us)
    (h : ∀ x dx, H x = none → H dx = none → dx ≠ x → spD X.K X.mg ps.length G (.ref x :: vs) (upd (upd H dx (.own x)) x (.ins C dx [])) (fun v H2 => v = .non ∧ Q (.ref x) H2) (WE W σ)) :
    wpAny (model X.prog X.w) X.A (call (.ref C) us) (EP X pins σ Q) X.xe s := by
  obtain ⟨fd, F, hb⟩ := F
  have hq := h (s.heap.objs.size + 1) s.heap.objs.size (I.hok.fresh (Nat.le_succ _)) (I.hok.fresh (Nat.le_refl _)) (Nat.ne_of_lt (Nat.lt_succ_self _))
  have I2 := Inv.made (C := C) I
  have r2 : Vals (V.ref (s.heap.objs.size + 1) :: vs) (Value.ref (s.heap.objs.size + 1) :: us) := .cons rfl r
  have hl : (Value.ref (s.heap.objs.size + 1) :: us ++ []).length = ps.length := by
    have e := r2.length
    rw [F.len _ _ _ _ hq] at e
    rw [List.append_nil]
    exact e.symm
  have b := hb _ (Value.ref (s.heap.objs.size + 1) :: us) I2.kIn hl
  rw [List.append_nil] at b
  refine wpAny_call (make_map (f := f) I.kIn Mk'.makes Mk'.init (beq_iff_eq.mp Mk'.fn) (codeAny_mono (F.run _ X.stack _ _ ⟨Value.ref (s.heap.objs.size + 1) :: us, []⟩ (Value.ref (s.heap.objs.size + 1) :: us) _ _ (WE W σ) (hr.make C us [])
    (I2.env0.make C us []) b r2 hq) fun r s' hq' => ?_))
  cases r with
  | error e => exact (passAt tk σ) pins _ _ e s' I2 hq'
  | ok fl =>
    cases fl with
    | ret u =>
      obtain ⟨v, H', I3, rv, ev, q3⟩ := I2.after hq'
      subst ev
      exact ⟨rv, ⟨V.ref (s.heap.objs.size + 1), H', I3, rfl, q3⟩⟩
    | next => exact False.elim hq'
    | brk => exact False.elim hq'
    | cont => exact False.elim hq'
/-- a new instance is held -/
theorem ins_new {x dx C : Addr} (m : MR X.K X.mg w H M) (hC : X.mg c = some (.ref C)) (hx : H x = none) (hdx : H dx = none) (ne : dx ≠ x) :
    ∃ w', Ext [] w H M w' (upd (upd H dx (.own x)) x (.ins C dx [])) (M ++ [.ins c []]) ∧ MR X.K X.mg w' (upd (upd H dx (.own x)) x (.ins C dx [])) (M ++ [.ins c []]) ∧ w'.α M.length = x := by
  have hx' : upd H dx (.own x) x = none := by rw [upd_ne ne.symm]; exact hx
  have m1 := m.new (o := .own x) hdx
  have m2 := m1.new (o := .ins C dx []) hx'
  have e2 : Ext [] w H M w (upd (upd H dx (.own x)) x (.ins C dx [])) M := (Ext.new m hdx).trans0 (Ext.new m1 hx')
  have nf : w.F x = none := by
    cases z : w.F x with
    | none => rfl
    | some o => rw [m.sub x o z] at hx; cases hx
  have q : RR X.K X.mg w (upd (upd H dx (.own x)) x (.ins C dx [])) M (.ref x) (.t (.ins c [])) [x] := by
    refine ⟨.ins upd_same nf hC .nil, by simp, fun b hb k hk z => ?_⟩
    obtain rfl : b = x := by simpa using hb
    obtain ⟨y, hy⟩ : ∃ y, M[k]? = some y := ⟨M[k], List.getElem?_eq_getElem hk⟩
    obtain ⟨_, o, e⟩ := (m.obj k y hy).1.fp _ z
    rw [e] at hx; cases hx
  obtain ⟨w', e3, m3, v3⟩ := keepM m2 q rfl
  refine ⟨w', e2.trans e3 fun a ha => ?_, m3, ?_⟩
  · obtain rfl : a = x := by simpa using ha
    exact .inl hx
  · have := v3.2
    cases this
    rfl
theorem PostC.cut {K : PySem.W.Frag} {mg : Mg} {E : XK} {n : Nat} {ot : Out R} {Q : VK} (h : PostC K mg E w H M ot Q) : PostC K mg E w H M ot Q := h
theorem rd_make {n : Nat} {C : Addr} (hC : X.mg c = some (.ref C)) {Q : VK} (h : rdE X W (eMake c n G A) σ H Q) :
    rdA X W A σ H fun vs H1 => ∀ x dx, H1 x = none → H1 dx = none → dx ≠ x → spD X.K X.mg n G (.ref x :: vs) (upd (upd H1 dx (.own x)) x (.ins C dx [])) (fun v H2 => v = .non ∧ Q (.ref x) H2) (WE W σ) := by
  obtain ⟨w, ρ, M, wm, er, p⟩ := h
  refine ⟨w, ρ, M, wm, er, p.bindF.imp fun w1 H1 M1 rs _ _ z => ?_⟩
  obtain ⟨e1, m1, p1⟩ := z
  intro vs fp q hf
  replace p1 := p1 fp hf
  split at p1
  · rename_i hl
    intro x dx hx hdx ne
    obtain ⟨w2, e2, m2, v2⟩ := settleL m1 q
    obtain ⟨w3, e3, m3, a3⟩ := ins_new (c := c) (C := C) m2 hC hx hdx ne
    refine ⟨w3, .h M1.length :: rs.map svR, _, m3, .cons ⟨by simp, by rw [a3]⟩ (v2.stay e3), by simpa [q.length] using hl, ?_⟩
    have e23 : Ext fp w1 H1 M1 w3 (upd (upd H1 dx (.own x)) x (.ins C dx [])) (M1 ++ [.ins c []]) := e2.trans0 e3
    cases z : G (.h M1.length :: rs.map svR) (M1 ++ [.ins c []]) with
    | bad => rw [z] at p1; exact p1
    | exc ex M' =>
      rw [z] at p1
      intro w' H' cls d e' m' xr
      exact p1 w' H' cls d (e23.trans0 e').take (m'.take _) xr
    | ok r M' =>
      rw [z] at p1
      intro w' H' v fp' e' m' q' hq'
      have p1 : Post X W σ fp w1 H1 M1 (match r with
        | .t (.d .non) => .ok (.t (M'.getD M1.length (.d .non))) (M'.take M1.length)
        | _ => .bad) (CE X [] w H M Q) := p1
      split at p1
      · have e4 := e23.trans0 e'
        obtain ⟨g1, _⟩ := rr_dat q'
        cases g1
        refine ⟨rfl, ?_⟩
        have hlt : M1.length < M'.length := Nat.lt_of_lt_of_le (by simp) e'.len
        have hal : w'.α M1.length = x := (e'.al M1.length (by simp)).trans a3
        obtain ⟨f5, r5, g5⟩ := RR.ret (n := M1.length) (r := .h M1.length) (v := .ref (w'.α M1.length)) (fp := []) (Nat.le_of_lt hlt) m' ⟨hlt, rfl, rfl⟩
        rw [show retR M1.length M' (.h M1.length) = .t (M'.getD M1.length (.d .non)) from if_neg (Nat.lt_irrefl _), hal] at r5
        refine p1 w' H' e4.take (m'.take _) _ f5 r5 fun a ha => ?_
        rcases g5 a ha with z | ⟨k, hk, z⟩
        · cases z
        · exact e1.pm hf (e4.ph k hk a z)
      · exact p1.elim
  · exact p1.elim
theorem de_make (D : MakeD X.prog X.w X.K X.mg X.base x k ps G) (hr : Room (k + 1) X.A) (tk : Takes X W) (hg : Gl X x) (ha : DA X W (e :: es) A)
    (hdb : (x == ("__debug__" : Str)) = false := by decide) (he : starEach (e :: es) X.env = (false, eval e X.env) :: starEach es X.env := by rfl) (hpl : (backTo pos (starEach es X.env)).any (·.1) = false := by rfl) :
    DE X W (.Call (.Name x p) (e :: es) [] pos) (eMake x ps.length G A) := by
  obtain ⟨C, f, hC, mk, F⟩ := D.ex
  refine ⟨fun pins s σ H Q I h => ?_⟩
  refine wpAny_Call_Name_kw (ld_glob I hg hC ?_ hdb)
  refine PySem.W.callWith_K (h₀ := X.base) I.ok.mod.kin mk.kp (thn (ha.run pos pins s σ H _ I (rd_make hC h)) fun us s1 ⟨vs, H1, I1, r, q⟩ => ⟨I1.kIn, ?_⟩) he hpl
  exact run_makeF mk F hr tk I1 r q
theorem de_make0 (D : MakeD X.prog X.w X.K X.mg X.base x k ps G) (hr : Room (k + 1) X.A) (tk : Takes X W) (hg : Gl X x) (hdb : (x == ("__debug__" : Str)) = false := by decide) :
    DE X W (.Call (.Name x p) [] [] pos) (eMake x ps.length G eNil) := by
  obtain ⟨C, f, hC, mk, F⟩ := D.ex
  refine ⟨fun pins s σ H Q I h => ?_⟩
  refine wpAny_Call_Name_kw (ld_glob I hg hC ?_ hdb)
  obtain ⟨w, ρ, M, wm, er, p⟩ := rd_make hC h
  exact PySem.W.callWith_K0 I.kIn mk.kp (run_makeF (us := []) mk F hr tk I .nil (p.now wm [] [] .nil fun _ z => nomatch z))
/-- one way or another -/
def eOr2 (F1 F2 : Den) : Den := fun ρ M => match F1 ρ M with
  | .bad => F2 ρ M
  | o => o
theorem de_or2 {F1 F2 : Den} (h1 : DE X W e F1) (h2 : DE X W e F2) : DE X W e (eOr2 F1 F2) := (PE.or h1 h2).mono fun σ H Q ⟨w, ρ, M, m, er, p⟩ => by
  unfold eOr2 at p
  split at p
  · exact .inr ⟨w, ρ, M, m, er, p⟩
  · exact .inl ⟨w, ρ, M, m, er, p⟩
end
end DL

/-! DL18: places within a tree: found by a path, written anew -/
namespace DL
open PySem L2 PySem.Spec PyProof.Rows
inductive Stp where
  | i (n : Nat) | f (x : Str)
def subT : List Stp → T → Option T
  | [], t => some t
  | .i n :: π, .lst ts => (match ts[n]? with
    | some t => subT π t
    | none => none)
  | .i n :: π, .tup ts => (match ts[n]? with
    | some t => subT π t
    | none => none)
  | .f x :: π, .ins _ fs => (match fs.lookup x with
    | some t => subT π t
    | none => none)
  | _, _ => none
def setP : List Stp → T → T → T
  | [], _, u => u
  | .i n :: π, .lst ts, u => (match ts[n]? with
    | some t => .lst (ts.set n (setP π t u))
    | none => .lst ts)
  | .i n :: π, .tup ts, u => (match ts[n]? with
    | some t => .tup (ts.set n (setP π t u))
    | none => .tup ts)
  | .f x :: π, .ins c fs, u => (match fs.lookup x with
    | some t => .ins c (putT x (setP π t u) fs)
    | none => .ins c fs)
  | _, t, _ => t
/-- what stands at the end of a path -/
def pathV (H : Hp) : List Stp → V → Option V
  | [], v => some v
  | .i n :: π, .ref a => (match H a with
    | some (.lst vs) => (match vs[n]? with
      | some v => pathV H π v
      | none => none)
    | some (.tup vs) => (match vs[n]? with
      | some v => pathV H π v
      | none => none)
    | _ => none)
  | .f x :: π, .ref a => (match H a with
    | some (.ins _ _ fs) => (match fs.lookup x with
      | some v => pathV H π v
      | none => none)
    | _ => none)
  | _, _ => none
section
variable {K : PySem.W.Frag} {mg : Mg} {F H H' : Hp}
theorem pathV_lst {a : Addr} {vs : List V} {n : Nat} {u : V} {π : List Stp} (h : H a = some (.lst vs)) (e : vs[n]? = some u) : pathV H (.i n :: π) (.ref a) = pathV H π u := by
  show (match H a with
    | some (.lst vs) => (match vs[n]? with
      | some v => pathV H π v
      | none => none)
    | some (.tup vs) => (match vs[n]? with
      | some v => pathV H π v
      | none => none)
    | _ => none) = _
  rw [h]
  show (match vs[n]? with
      | some v => pathV H π v
      | none => none) = _
  rw [e]
theorem pathV_tup {a : Addr} {vs : List V} {n : Nat} {u : V} {π : List Stp} (h : H a = some (.tup vs)) (e : vs[n]? = some u) : pathV H (.i n :: π) (.ref a) = pathV H π u := by
  show (match H a with
    | some (.lst vs) => (match vs[n]? with
      | some v => pathV H π v
      | none => none)
    | some (.tup vs) => (match vs[n]? with
      | some v => pathV H π v
      | none => none)
    | _ => none) = _
  rw [h]
  show (match vs[n]? with
      | some v => pathV H π v
      | none => none) = _
  rw [e]
theorem pathV_ins {a C dx : Addr} {fs : List (Str × V)} {x : Str} {u : V} {π : List Stp} (h : H a = some (.ins C dx fs)) (e : fs.lookup x = some u) : pathV H (.f x :: π) (.ref a) = pathV H π u := by
  show (match H a with
    | some (.ins _ _ fs) => (match fs.lookup x with
      | some v => pathV H π v
      | none => none)
    | _ => none) = _
  rw [h]
  show (match fs.lookup x with
      | some v => pathV H π v
      | none => none) = _
  rw [e]
theorem trl_at : ∀ {vs : List V} {ts : List T} {fp : List Addr} {n : Nat} {t : T}, TRL K mg F H vs ts fp → ts[n]? = some t → ∃ v f1 fm f2, vs[n]? = some v ∧ fp = f1 ++ fm ++ f2 ∧ TR K mg F H v t fm ∧
    ∀ H' t' fm', TR K mg F H' v t' fm' → (∀ a ∈ f1 ++ f2, ∀ o, H a = some o → H' a = some o) → TRL K mg F H' vs (ts.set n t') (f1 ++ fm' ++ f2)
  | _, _, _, _, _, .nil, e => by simp at e
  | _, _, _, 0, t, .cons (f1 := g1) (f2 := g2) h r, e => by
    simp at e; subst e
    refine ⟨_, [], g1, g2, rfl, by simp, h, fun H' t' fm' h' k => ?_⟩
    simp only [List.nil_append, List.set_cons_zero] at k ⊢
    exact .cons h' (r.stay (Same.refl _) fun a ha => ⟨(r.fp a ha).1, k a ha⟩)
  | _, _, _, n + 1, t, .cons (f1 := g1) (f2 := g2) h r, e => by
    obtain ⟨v, f1, fm, f2, e1, e2, e3, e4⟩ := trl_at (n := n) r (by simpa using e)
    refine ⟨v, g1 ++ f1, fm, f2, by simpa using e1, by rw [e2]; simp, e3, fun H' t' fm' h' k => ?_⟩
    have := TRL.cons (h.stay (F' := F) (H' := H') (Same.refl _) fun a ha => ⟨(h.fp a ha).1, k a (by simp [ha])⟩) (e4 H' t' fm' h' fun a ha => k a (by simp at ha ⊢; rcases ha with z | z <;> simp [z]))
    rw [show g1 ++ f1 ++ fm' ++ f2 = g1 ++ (f1 ++ fm' ++ f2) by simp]
    exact this
theorem trf_at : ∀ {vs : List (Str × V)} {ts : List (Str × T)} {fp : List Addr} {x : Str} {t : T}, TRF K mg F H vs ts fp → ts.lookup x = some t → ∃ v f1 fm f2, vs.lookup x = some v ∧ fp = f1 ++ fm ++ f2 ∧ TR K mg F H v t fm ∧
    ∀ H' t' fm', TR K mg F H' v t' fm' → (∀ a ∈ f1 ++ f2, ∀ o, H a = some o → H' a = some o) → TRF K mg F H' vs (putT x t' ts) (f1 ++ fm' ++ f2)
  | _, _, _, _, _, .nil, e => by simp at e
  | _, _, _, x, t, .cons (f := g) (f1 := g1) (f2 := g2) h r, e => by
    rw [List.lookup_cons] at e
    by_cases z : x = g
    · rw [show (x == g) = true from beq_iff_eq.mpr z] at e
      cases e
      refine ⟨_, [], g1, g2, by rw [List.lookup_cons, show (x == g) = true from beq_iff_eq.mpr z], by simp, h, fun H' t' fm' h' k => ?_⟩
      unfold putT
      rw [if_pos z.symm]
      simp only [List.nil_append] at k ⊢
      exact .cons h' (r.stay (Same.refl _) fun a ha => ⟨(r.fp a ha).1, k a ha⟩)
    · rw [show (x == g) = false from beq_eq_false_iff_ne.mpr z] at e
      obtain ⟨v, f1, fm, f2, e1, e2, e3, e4⟩ := trf_at r e
      refine ⟨v, g1 ++ f1, fm, f2, by rw [List.lookup_cons, show (x == g) = false from beq_eq_false_iff_ne.mpr z]; exact e1, by rw [e2]; simp, e3, fun H' t' fm' h' k => ?_⟩
      unfold putT
      rw [if_neg (fun q => z q.symm)]
      have := TRF.cons (f := g) (h.stay (F' := F) (H' := H') (Same.refl _) fun a ha => ⟨(h.fp a ha).1, k a (by simp [ha])⟩) (e4 H' t' fm' h' fun a ha => k a (by simp at ha ⊢; rcases ha with z | z <;> simp [z]))
      rw [show g1 ++ f1 ++ fm' ++ f2 = g1 ++ (f1 ++ fm' ++ f2) by simp]
      exact this
theorem nodup_mid {f1 fm f2 fm' : List Addr} (h : (f1 ++ fm ++ f2).Nodup) (h' : fm'.Nodup) (d : ∀ a ∈ fm', a ∈ fm ∨ a ∉ f1 ++ fm ++ f2) : (f1 ++ fm' ++ f2).Nodup := by
  rw [List.nodup_append] at h ⊢
  obtain ⟨h1, h2, h3⟩ := h
  rw [List.nodup_append] at h1 ⊢
  obtain ⟨h4, h5, h6⟩ := h1
  refine ⟨⟨h4, h', fun a ha b hb e => ?_⟩, h2, fun a ha b hb e => ?_⟩
  · subst e
    rcases d a hb with z | z
    · exact h6 a ha a z rfl
    · exact z (by simp [ha])
  · subst e
    rcases List.mem_append.mp ha with z | z
    · exact h3 a (List.mem_append_left _ z) a hb rfl
    · rcases d a z with q | q
      · exact h3 a (List.mem_append_right _ q) a hb rfl
      · exact q (by simp [hb])
theorem tr_path : ∀ (π : List Stp) {v : V} {t s : T} {fp : List Addr}, TR K mg F H v t fp → fp.Nodup → subT π t = some s → ∃ v' fs, pathV H π v = some v' ∧ TR K mg F H v' s fs ∧ fs.Nodup ∧ (∀ a ∈ fs, a ∈ fp) ∧
    ∀ H' s' fs', TR K mg F H' v' s' fs' → fs'.Nodup → (∀ a ∈ fs', a ∈ fs ∨ a ∉ fp) → (∀ a ∈ fp, a ∉ fs → ∀ o, H a = some o → H' a = some o) →
      ∃ fp', TR K mg F H' v (setP π t s') fp' ∧ fp'.Nodup ∧ ∀ a ∈ fp', (a ∈ fp ∧ a ∉ fs) ∨ a ∈ fs' := by
  intro π
  induction π with
  | nil =>
    intro v t s fp h nd e
    have e : some t = some s := e
    cases e
    exact ⟨v, fp, rfl, h, nd, fun _ z => z, fun H' s' fs' h' nd' d k => ⟨fs', by cases s' <;> exact h', nd', fun a ha => .inr ha⟩⟩
  | cons p π ih =>
    intro v t s fp h nd e
    -- the shared part
    have core : ∀ {b : Addr} {f1 fm f2 : List Addr} {u : V} {t1 : T}, fp = b :: (f1 ++ fm ++ f2) → TR K mg F H u t1 fm → subT π t1 = some s →
        ∃ v' fs, pathV H π u = some v' ∧ TR K mg F H v' s fs ∧ fs.Nodup ∧ (∀ a ∈ fs, a ∈ fm) ∧ b ∉ fm ∧ ∀ H' s' fs', TR K mg F H' v' s' fs' → fs'.Nodup → (∀ a ∈ fs', a ∈ fs ∨ a ∉ fp) → (∀ a ∈ fp, a ∉ fs → ∀ o, H a = some o → H' a = some o) →
          ∃ fm', TR K mg F H' u (setP π t1 s') fm' ∧ (b :: (f1 ++ fm' ++ f2)).Nodup ∧ (∀ a ∈ f1 ++ f2, ∀ o, H a = some o → H' a = some o) ∧ (∀ o, H b = some o → H' b = some o) ∧ ∀ a ∈ b :: (f1 ++ fm' ++ f2), (a ∈ fp ∧ a ∉ fs) ∨ a ∈ fs' := by
      intro b f1 fm f2 u t1 hfp ht hs
      rw [hfp, List.nodup_cons] at nd
      obtain ⟨nb, nl⟩ := nd
      have nm : fm.Nodup := by
        rw [List.nodup_append] at nl
        exact (List.nodup_append.mp nl.1).2.1
      obtain ⟨v', fs, g0, g1, g2, g3, g4⟩ := ih ht nm hs
      have out : ∀ a ∈ f1 ++ f2, a ∉ fm := fun a ha z => by
        rw [List.nodup_append] at nl
        obtain ⟨l1, l2, l3⟩ := nl
        rw [List.nodup_append] at l1
        rcases List.mem_append.mp ha with q | q
        · exact l1.2.2 a q a z rfl
        · exact l3 a (List.mem_append_right _ z) a q rfl
      have sub : ∀ a ∈ f1 ++ f2, a ∈ fp := fun a ha => by rw [hfp]; simp at ha ⊢; rcases ha with z | z <;> simp [z]
      have subm : ∀ a ∈ fm, a ∈ fp := fun a ha => by rw [hfp]; simp [ha]
      have nbm : b ∉ fm := fun z => nb (by simp [z])
      refine ⟨v', fs, g0, g1, g2, g3, nbm, fun H' s' fs' h' nd' d k => ?_⟩
      obtain ⟨fm', k1, k2, k3⟩ := g4 H' s' fs' h' nd' (fun a ha => (d a ha).imp id fun z q => z (subm a q)) fun a ha hn => k a (subm a ha) hn
      have dm : ∀ a ∈ fm', a ∈ fm ∨ a ∉ b :: (f1 ++ fm ++ f2) := fun a ha => by
        rcases k3 a ha with z | z
        · exact .inl z.1
        · rcases d a z with q | q
          · exact .inl (g3 a q)
          · exact .inr (hfp ▸ q)
      refine ⟨fm', k1, List.nodup_cons.mpr ⟨fun z => ?_, nodup_mid nl k2 fun a ha => (dm a ha).imp id fun q z => q (List.mem_cons_of_mem _ z)⟩, fun a ha => k a (sub a ha) fun z => out a ha (g3 a z), k b (by rw [hfp]; exact List.mem_cons_self) fun z => nbm (g3 b z), fun a ha => ?_⟩
      · have z : b ∈ f1 ++ fm' ++ f2 := z
        rcases List.mem_append.mp z with z | z
        · rcases List.mem_append.mp z with z | z
          · exact nb (by simp [z])
          · rcases dm b z with q | q
            · exact nbm q
            · exact q List.mem_cons_self
        · exact nb (by simp [z])
      · rcases List.mem_cons.mp ha with rfl | ha
        · exact .inl ⟨by rw [hfp]; exact List.mem_cons_self, fun z => nbm (g3 _ z)⟩
        · rcases List.mem_append.mp ha with z | z
          · rcases List.mem_append.mp z with z | z
            · exact .inl ⟨sub a (List.mem_append_left _ z), fun q => out a (List.mem_append_left _ z) (g3 a q)⟩
            · exact (k3 a z).imp (fun q => ⟨subm a q.1, q.2⟩) id
          · exact .inl ⟨sub a (List.mem_append_right _ z), fun q => out a (List.mem_append_right _ z) (g3 a q)⟩
    cases h with
    | d h => cases p <;> cases e
    | dic _ _ _ => cases p <;> cases e
    | @lst b vs ts fl h1 h2 h3 =>
      cases p with
      | f x => cases e
      | i n =>
        have e : (match ts[n]? with
          | some t => subT π t
          | none => none) = some s := e
        cases z : ts[n]? with
        | none => rw [z] at e; cases e
        | some t1 =>
          rw [z] at e
          obtain ⟨u, f1, fm, f2, a1, a2, a3, a4⟩ := trl_at h3 z
          obtain ⟨v', fs, c0, c1, c2, c3, c4, c5⟩ := core (b := b) (by rw [a2]) a3 e
          refine ⟨v', fs, (pathV_lst h1 a1).trans c0, c1, c2, fun a ha => by rw [a2]; simp [c3 a ha], fun H' s' fs' h' nd' d k => ?_⟩
          obtain ⟨fm', k1, k2, k3, k4, k5⟩ := c5 H' s' fs' h' nd' d k
          refine ⟨b :: (f1 ++ fm' ++ f2), ?_, k2, k5⟩
          show TR K mg F H' _ (match ts[n]? with
            | some t => .lst (ts.set n (setP π t s'))
            | none => .lst ts) _
          rw [z]
          exact .lst (k4 _ h1) h2 (a4 H' _ fm' k1 k3)
    | @tup b vs ts fl h1 h2 h3 =>
      cases p with
      | f x => cases e
      | i n =>
        have e : (match ts[n]? with
          | some t => subT π t
          | none => none) = some s := e
        cases z : ts[n]? with
        | none => rw [z] at e; cases e
        | some t1 =>
          rw [z] at e
          obtain ⟨u, f1, fm, f2, a1, a2, a3, a4⟩ := trl_at h3 z
          obtain ⟨v', fs, c0, c1, c2, c3, c4, c5⟩ := core (b := b) (by rw [a2]) a3 e
          refine ⟨v', fs, (pathV_tup h1 a1).trans c0, c1, c2, fun a ha => by rw [a2]; simp [c3 a ha], fun H' s' fs' h' nd' d k => ?_⟩
          obtain ⟨fm', k1, k2, k3, k4, k5⟩ := c5 H' s' fs' h' nd' d k
          refine ⟨b :: (f1 ++ fm' ++ f2), ?_, k2, k5⟩
          show TR K mg F H' _ (match ts[n]? with
            | some t => .tup (ts.set n (setP π t s'))
            | none => .tup ts) _
          rw [z]
          exact .tup (k4 _ h1) h2 (a4 H' _ fm' k1 k3)
    | @ins b C dx vs c ts fl h1 h2 hm h3 =>
      cases p with
      | i n => cases e
      | f x =>
        have e : (match ts.lookup x with
          | some t => subT π t
          | none => none) = some s := e
        cases z : ts.lookup x with
        | none => rw [z] at e; cases e
        | some t1 =>
          rw [z] at e
          obtain ⟨u, f1, fm, f2, a1, a2, a3, a4⟩ := trf_at h3 z
          obtain ⟨v', fs, c0, c1, c2, c3, c4, c5⟩ := core (b := b) (by rw [a2]) a3 e
          refine ⟨v', fs, (pathV_ins h1 a1).trans c0, c1, c2, fun a ha => by rw [a2]; simp [c3 a ha], fun H' s' fs' h' nd' d k => ?_⟩
          obtain ⟨fm', k1, k2, k3, k4, k5⟩ := c5 H' s' fs' h' nd' d k
          refine ⟨b :: (f1 ++ fm' ++ f2), ?_, k2, k5⟩
          show TR K mg F H' _ (match ts.lookup x with
            | some t => .ins c (putT x (setP π t s') ts)
            | none => .ins c ts) _
          rw [z]
          exact .ins (k4 _ h1) h2 hm (a4 H' _ fm' k1 k3)
end
end DL

/-! DL19: places as expressions; what is done at them -/
namespace DL
open PySem L2 PySem.Spec PyProof.Rows
theorem pathV_app {H : Hp} (ρ : List Stp) : ∀ (π : List Stp) {v u : V}, pathV H π v = some u → pathV H (π ++ ρ) v = pathV H ρ u := by
  intro π
  induction π with
  | nil => intro v u e; cases e; rfl
  | cons p π ih =>
    intro v u e
    cases p with
    | i n =>
      cases v with
      | ref a =>
        have e : (match H a with
          | some (.lst vs) => (match vs[n]? with
            | some v => pathV H π v
            | none => none)
          | some (.tup vs) => (match vs[n]? with
            | some v => pathV H π v
            | none => none)
          | _ => none) = some u := e
        split at e
        · rename_i vs h
          split at e
          · rename_i y hy
            rw [List.cons_append, pathV_lst h hy]; exact ih e
          · cases e
        · rename_i vs h
          split at e
          · rename_i y hy
            rw [List.cons_append, pathV_tup h hy]; exact ih e
          · cases e
        · cases e
      | _ => cases e
    | f x =>
      cases v with
      | ref a =>
        have e : (match H a with
          | some (.ins _ _ fs) => (match fs.lookup x with
            | some v => pathV H π v
            | none => none)
          | _ => none) = some u := e
        split at e
        · rename_i fs h
          split at e
          · rename_i y hy
            rw [List.cons_append, pathV_ins h hy]; exact ih e
          · cases e
        · cases e
      | _ => cases e
theorem subT_app (ρ : List Stp) : ∀ (π : List Stp) {t s : T}, subT π t = some s → subT (π ++ ρ) t = subT ρ s := by
  intro π
  induction π with
  | nil => intro t s e; cases e; rfl
  | cons p π ih =>
    intro t s e
    cases p with
    | i n =>
      cases t with
      | lst ts =>
        have e : (match ts[n]? with
          | some t => subT π t
          | none => none) = some s := e
        show (match ts[n]? with
          | some t => subT (π ++ ρ) t
          | none => none) = _
        split at e
        · exact ih e
        · cases e
      | tup ts =>
        have e : (match ts[n]? with
          | some t => subT π t
          | none => none) = some s := e
        show (match ts[n]? with
          | some t => subT (π ++ ρ) t
          | none => none) = _
        split at e
        · exact ih e
        · cases e
      | _ => cases e
    | f x =>
      cases t with
      | ins c fs =>
        have e : (match fs.lookup x with
          | some t => subT π t
          | none => none) = some s := e
        show (match fs.lookup x with
          | some t => subT (π ++ ρ) t
          | none => none) = _
        split at e
        · exact ih e
        · cases e
      | _ => cases e
abbrev Loc := Nat × List Stp
abbrev DenP := Ev → Mst → Option Loc
abbrev DenV := Ev → Mst → Option D
def atL (M : Mst) (l : Loc) : Option T := match M[l.1]? with
  | some t => subT l.2 t
  | none => none
def setL (M : Mst) (l : Loc) (s : T) : Mst := match M[l.1]? with
  | some t => M.set l.1 (setP l.2 t s)
  | none => M
def rdP (X : Cx) (F : DenP) : TE := fun σ H Q => ∃ w ρ M, MR X.K X.mg w H M ∧ ER X.K X.mg w M σ ρ ∧ ∃ l, F ρ M = some l ∧ ∀ v s, atL M l = some s → pathV H l.2 (.ref (w.α l.1)) = some v → Q v H
/-- a simple value: nothing is done -/
def rdV (X : Cx) (F : DenV) : TE := fun σ H Q => ∃ w ρ M, MR X.K X.mg w H M ∧ ER X.K X.mg w M σ ρ ∧ ∃ d, F ρ M = some d ∧ ∀ v, Dp X.K X.mg w.F v d → Q v H
def DP (X : Cx) (e : Expr) (F : DenP) : Prop := PE X e (rdP X F)
def DV (X : Cx) (e : Expr) (F : DenV) : Prop := PE X e (rdV X F)
section
variable {X : Cx} {W : WX} {σ : L2.St} {fs gs : List Addr} {w w2 : Wd} {H H2 : Hp} {M M2 : Mst}
variable {e o i : Expr} {es : List Expr} {Fe Fv : Den} {Fo : DenP} {Fi : DenV} {A : DenA} {pos p apos : Pos} {x m f : Str} {k : Nat} {cs : List Str}
theorem atL_at {l : Loc} {s : T} (m : MR X.K X.mg w H M) (e : atL M l = some s) : ∃ t v fs, M[l.1]? = some t ∧ pathV H l.2 (.ref (w.α l.1)) = some v ∧ TR X.K X.mg w.F H v s fs ∧ fs.Nodup ∧ (∀ a ∈ fs, a ∈ w.φ l.1) ∧
    ∀ H' s' fs', TR X.K X.mg w.F H' v s' fs' → fs'.Nodup → (∀ a ∈ fs', a ∈ fs ∨ a ∉ w.φ l.1) → (∀ a ∈ w.φ l.1, a ∉ fs → ∀ o, H a = some o → H' a = some o) →
      ∃ fp', TR X.K X.mg w.F H' (.ref (w.α l.1)) (setP l.2 t s') fp' ∧ fp'.Nodup ∧ ∀ a ∈ fp', (a ∈ w.φ l.1 ∧ a ∉ fs) ∨ a ∈ fs' := by
  unfold atL at e
  split at e
  · rename_i t ht
    obtain ⟨q1, q2⟩ := m.obj _ _ ht
    obtain ⟨v, fs, g0, g1, g2, g3, g4⟩ := tr_path l.2 q1 q2 e
    exact ⟨t, v, fs, ht, g0, g1, g2, g3, g4⟩
  · cases e
/-- a list within a tree: what stands there, how it is written anew -/
theorem put_loc {l : Loc} {ts : List T} (m : MR X.K X.mg w H M) (e : atL M l = some (.lst ts)) : ∃ a vs fl, pathV H l.2 (.ref (w.α l.1)) = some (.ref a) ∧ H a = some (.lst vs) ∧ TRL X.K X.mg w.F H vs ts fl ∧ (a :: fl).Nodup ∧ (∀ b ∈ a :: fl, b ∈ w.φ l.1) ∧ l.1 < M.length ∧
    ∀ vs' ts' fl' fs, TRL X.K X.mg w.F H vs' ts' fl' → fl'.Nodup → (∀ b ∈ fl', b ∈ fl ∨ (b ∈ fs ∧ ∀ j, j < M.length → b ∉ w.φ j)) →
      ∃ w', Ext fs w H M w' (upd H a (.lst vs')) (setL M l (.lst ts')) ∧ MR X.K X.mg w' (upd H a (.lst vs')) (setL M l (.lst ts')) := by
  obtain ⟨t, v, ff, h1, h2, h3, h4, h5, h6⟩ := atL_at m e
  have hk : l.1 < M.length := (List.getElem?_eq_some_iff.mp h1).1
  cases h3 with
  | @lst a vs _ fl g1 g2 g3 =>
    obtain ⟨n1, n2⟩ := List.nodup_cons.mp h4
    refine ⟨a, vs, fl, h2, g1, g3, h4, h5, hk, fun vs' ts' fl' fs q nd d => ?_⟩
    have ha : a ∈ w.φ l.1 := h5 a List.mem_cons_self
    have na : a ∉ fl' := fun z => (d a z).elim n1 fun z => z.2 l.1 hk ha
    have q' : TRL X.K X.mg w.F (upd H a (.lst vs')) vs' ts' fl' := q.stay (Same.refl _) fun b hb => ⟨(q.fp b hb).1, fun o ho => by rw [upd_ne (show b ≠ a from fun z => na (z ▸ hb))]; exact ho⟩
    obtain ⟨fp', k1, k2, k3⟩ := h6 (upd H a (.lst vs')) (.lst ts') (a :: fl') (.lst upd_same g2 q') (List.nodup_cons.mpr ⟨na, nd⟩)
      (fun b hb => by
        rcases List.mem_cons.mp hb with rfl | hb
        · exact .inl List.mem_cons_self
        · exact (d b hb).imp (List.mem_cons_of_mem _) fun z => z.2 l.1 hk)
      fun b hb hn o ho => by rw [upd_ne (show b ≠ a from fun z => hn (z ▸ List.mem_cons_self))]; exact ho
    have inn : ∀ b ∈ fp', b ∈ w.φ l.1 ∨ (b ∈ fs ∧ ∀ j, j < M.length → b ∉ w.φ j) := fun b hb => by
      rcases k3 b hb with z | z
      · exact .inl z.1
      · rcases List.mem_cons.mp z with rfl | z
        · exact .inl ha
        · exact (d b z).imp (fun z => h5 b (List.mem_cons_of_mem _ z)) id
    obtain ⟨w', e1, m1, _, _⟩ := put_obj (fs := fs) m h1 ha k1 k2 g2 (fun b hb j hj hjk z => (inn b hb).elim (fun y => hjk (m.dis j l.1 b hj hk z y)) fun y => y.2 j hj z)
      fun b hb => (inn b hb).elim (fun y => .inr (.inl ⟨l.1, hk, y⟩)) fun y => .inr (.inr y.1)
    refine ⟨w', ?_⟩
    unfold setL
    rw [h1]
    exact ⟨e1, m1⟩
/-! ### places, simple values -/
def pVar (i : Nat) : DenP := fun ρ _ => match ρ[i]? with
  | some (some (.h k)) => some (k, [])
  | _ => none
theorem dp_var (i : Nat) (h : PE X e (tVar i)) : DP X e (pVar i) := h.mono fun σ H Q ⟨w, ρ, M, m, er, l, hl, k⟩ => by
  unfold pVar at hl
  split at hl
  · rename_i j hj
    cases hl
    obtain ⟨v, h1, h2, h3⟩ := er.at_ i _ hj
    obtain ⟨x, hx⟩ : ∃ x, M[j]? = some x := ⟨M[j], List.getElem?_eq_getElem h2⟩
    refine ⟨v, h1, k v x ?_ (by rw [h3]; rfl)⟩
    show (match M[j]? with
      | some t => subT [] t
      | none => none) = _
    rw [hx]; rfl
  · cases hl
def vVar (i : Nat) : DenV := fun ρ _ => match ρ[i]? with
  | some (some (.d x)) => some x
  | _ => none
def vC (x : D) : DenV := fun _ _ => some x
theorem dv_var (i : Nat) (h : PE X e (tVar i)) : DV X e (vVar i) := h.mono fun σ H Q ⟨w, ρ, M, m, er, d, hd, k⟩ => by
  unfold vVar at hd
  split at hd
  · rename_i j hj
    cases hd
    obtain ⟨v, h1, h2⟩ := er.at_ i _ hj
    exact ⟨v, h1, k v h2⟩
  · cases hd
theorem dv_const {v : V} {x : D} (h : PE X e (tC v)) (hd : ∀ F, Dp X.K X.mg F v x) : DV X e (vC x) := h.mono fun σ H Q ⟨w, ρ, M, m, er, d, hd', k⟩ => by
  cases hd'
  exact k v (hd _)
/-- o[i] as a place -/
def pSub (Fo : DenP) (Fi : DenV) : DenP := fun ρ M => match Fo ρ M, Fi ρ M with
  | some l, some (.int i) => (match atL M l with
    | some (.lst ts) => (match ixN ts.length i with
      | some j => if (ts[j]?).isSome = true then some (l.1, l.2 ++ [.i j]) else none
      | none => none)
    | _ => none)
  | _, _ => none
theorem dp_sub (ho : DP X o Fo) (hi : DV X i Fi) (hs : PlainIx i := by exact fun _ _ => rfl) : DP X (.Subscript o i pos) (pSub Fo Fi) := (pe_ix (ix_list (X := X)) ho hi hs).mono fun σ H Q ⟨w, ρ, M, m, er, l, hl, k⟩ => by
  unfold pSub at hl
  split at hl
  · rename_i l0 i0 hl0 hi0
    split at hl
    · rename_i ts hts
      split at hl
      · rename_i j hj
        split at hl
        · rename_i zz
          cases hl
          obtain ⟨a, vs, fl, h1, h2, h3, _, _, _, _⟩ := put_loc m hts
          refine ⟨w, ρ, M, m, er, l0, hl0, fun v s hs hv => ?_⟩
          rw [h1] at hv
          cases hv
          refine ⟨w, ρ, M, m, er, _, hi0, fun v hv => ?_⟩
          cases hv
          have hlen := h3.length
          obtain ⟨t1, ht1⟩ := Option.isSome_iff_exists.mp zz
          obtain ⟨u, f1, fm, f2, b1, b2, b3, _⟩ := trl_at h3 ht1
          refine ⟨a, vs, i0, u, rfl, rfl, SqL.of h2, by unfold atI; rw [hlen, hj]; exact b1, k u t1 ?_ ?_⟩
          · unfold atL at hts ⊢
            show (match M[l0.1]? with
              | some t => subT (l0.2 ++ [Stp.i j]) t
              | none => none) = _
            split at hts
            · rename_i t ht
              -- known
              show subT (l0.2 ++ [Stp.i j]) t = _
              rw [subT_app _ _ hts]
              show (match ts[j]? with
                | some t => subT [] t
                | none => none) = _
              rw [ht1]; rfl
            · cases hts
          · show pathV H (l0.2 ++ [Stp.i j]) _ = _
            rw [pathV_app _ _ h1, pathV_lst h2 b1]; rfl
        · cases hl
      · cases hl
    · cases hl
  · cases hl
/-! ### o[i] = v at a place -/
def gItemP (Fo : DenP) (Fi : DenV) : DenG := fun r ρ M => match Fo ρ (frzM M r), Fi ρ (frzM M r) with
  | some l, some (.int i) => (match atL (frzM M r) l with
    | some (.lst ts) => (match ixN ts.length i with
      | some j => some (ρ, setL (frzM M r) l (.lst (ts.set j (treeT M r))))
      | none => none)
    | _ => none)
  | _, _ => none
theorem dg_itemP (ho : DP X o Fo) (hi : DV X i Fi) (ha : ∀ v, assign (.Subscript o i pos) X.env v = (do
      let ov ← holding [v] (eval o X.env)
      let iv ← holding [v, ov] (eval i X.env)
      standAt pos
      holding [v, ov, iv] (setItem ov iv v)
      release [v, ov, iv] []) := by intro _; rfl) : DG X W (.Subscript o i pos) (gItemP Fo Fi) := (pg_sub ho hi set_list ha).mono fun v σ H Q h => by
  obtain ⟨w, ρ, M, r, fp, m, er, q, p⟩ := h
  obtain ⟨w3, e3, m3, t3, nd3, dj3⟩ := treeT_ok m q
  have er3 := er.stay e3
  unfold gItemP at p
  split at p
  · rename_i l i0 hl hi0
    split at p
    · rename_i ts hts
      split at p
      · rename_i j hj
        obtain ⟨a, vs, fl, h1, h2, h3, h4, h5, hk, h6⟩ := put_loc m3 hts
        refine ⟨w3, ρ, _, m3, er3, l, hl, fun v' s hs hv' => ?_⟩
        rw [h1] at hv'
        cases hv'
        refine ⟨w3, ρ, _, m3, er3, _, hi0, fun v' hv' => ?_⟩
        cases hv'
        obtain ⟨n1, n2⟩ := List.nodup_cons.mp h4
        have djk : ∀ b ∈ fp, b ∉ a :: fl := fun b hb z => dj3 b hb l.1 hk (h5 b z)
        obtain ⟨f', i1, i2, i3⟩ := trl_set (j := j) h3 t3 n2 nd3 fun b hb z => djk b hb (List.mem_cons_of_mem _ z)
        obtain ⟨w4, e4, m4⟩ := h6 _ _ f' fp i1 i2 fun b hb => (i3 b hb).imp id fun z => ⟨z, fun j hj => dj3 b z j hj⟩
        refine ⟨a, vs, i0, j, rfl, rfl, h2, by rw [h3.length]; exact hj, ?_⟩
        exact p w4 _ σ ((e3.mono fun _ z => nomatch z).trans e4 fun b hb => .inr (.inr hb)) m4 (er3.stay e4)
      · exact p.elim
    · exact p.elim
  · exact p.elim
end
end DL

/-! DL20: lists changed by their methods; dicts written out and read -/
namespace DL
open PySem L2 PySem.Spec PyProof.Rows
section
variable {X : Cx} {W : WX} {σ : L2.St} {fs gs : List Addr} {w w2 : Wd} {H H2 : Hp} {M M2 : Mst}
variable {e o i : Expr} {es : List Expr} {Fe Fv Fa Fb : Den} {Fo : DenP} {Fi : DenV} {A : DenA} {pos p apos cpos : Pos} {x m f : Str} {k : Nat} {cs : List Str}
theorem lst_ty {a : Addr} {vs : List V} (h : H a = some (.lst vs)) : tyV X.K "list" (.ref a) H := .inl ⟨rfl, vs, SqL.of h⟩
/-! ### at a place -/
def eAppP (Fo : DenP) (Fi : DenV) : Den := fun ρ M => match Fo ρ M, Fi ρ M with
  | some l, some d => (match atL M l with
    | some (.lst ts) => if ts.length + 1 ≤ 1000000 then .ok (.t (.d .non)) (setL M l (.lst (ts ++ [.d d]))) else .bad
    | _ => .bad)
  | _, _ => .bad
theorem de_appP (ho : DP X o Fo) (hv : DV X e Fi) (hbase : attributeBase o "append" X.env (eval o X.env) = eval o X.env := by rfl)
    (hfew : ((backTo cpos (starEach [e] X.env)).all (fun x => !x.1) && (backToKw cpos (keywordEach [] X.env)).all (fun x => x.1.isSome)
      && decide ([e].length + ([] : List Keyword).length + (if ([] : List Keyword).isEmpty then 0 else 1) < 30)) = true := by rfl)
    (hline : (apos.endLine == cpos.line) = true := by rfl) (hs : starEach [e] X.env = (false, eval e X.env) :: starEach [] X.env := by rfl) (hplain : (backTo cpos (starEach [] X.env)).any (·.1) = false := by rfl) :
    DE X W (.Call (.Attribute o "append" apos) [e] [] cpos) (eAppP Fo Fi) :=
  (pe_bm PySem.F.plainAttrs_list PySem.F.slot_list_append PySem.F.type_list_append mt_append ho (pa_cons hv pa_nil hs) hbase hfew hline hs hplain).mono fun σ H Q ⟨w, ρ, M, m, er, p⟩ => by
    unfold eAppP at p
    split at p
    · rename_i l d hl hd
      split at p
      · rename_i ts hts
        split at p
        · rename_i hn
          obtain ⟨a, vs, fl, h1, h2, h3, h4, h5, hk, h6⟩ := put_loc m hts
          refine ⟨w, ρ, M, m, er, l, hl, fun v s hs hv => ?_⟩
          rw [h1] at hv
          cases hv
          refine ⟨lst_ty h2, w, ρ, M, m, er, d, hd, fun v hv => ?_⟩
          obtain ⟨w4, e4, m4⟩ := h6 (vs ++ [v]) (ts ++ [.d d]) (fl ++ ([] ++ [])) [] (trl_app h3 (.cons (.d hv) .nil)) (by simpa using (List.nodup_cons.mp h4).2) fun b hb => .inl (by simpa using hb)
          refine ⟨a, vs, v, rfl, rfl, h2, by have := big_le hn; rw [h3.length]; omega, ?_⟩
          exact p w4 _ e4 m4 .non [] (rr_d .non) fun _ z => nomatch z
        · exact p.elim
      · exact p.elim
    · exact p.elim
def eClearP (Fo : DenP) : Den := fun ρ M => match Fo ρ M with
  | some l => (match atL M l with
    | some (.lst ts) => .ok (.t (.d .non)) (setL M l (.lst []))
    | _ => .bad)
  | _ => .bad
theorem de_clearP (ho : DP X o Fo) (hbase : attributeBase o "clear" X.env (eval o X.env) = eval o X.env := by rfl) (hline : (apos.endLine == cpos.line) = true := by rfl) :
    DE X W (.Call (.Attribute o "clear" apos) [] [] cpos) (eClearP Fo) :=
  (pe_bm0 PySem.F.plainAttrs_list PySem.F.slot_list_clear PySem.F.type_list_clear (mt_clear) ho hbase hline).mono fun σ H Q ⟨w, ρ, M, m, er, p⟩ => by
    unfold eClearP at p
    split at p
    · rename_i l hl
      split at p
      · rename_i ts hts
        obtain ⟨a, vs, fl, h1, h2, h3, h4, h5, hk, h6⟩ := put_loc m hts
        refine ⟨w, ρ, M, m, er, l, hl, fun v s hs hv => ?_⟩
        rw [h1] at hv
        cases hv
        obtain ⟨w4, e4, m4⟩ := h6 [] [] [] [] .nil List.nodup_nil fun _ z => nomatch z
        exact ⟨lst_ty h2, a, vs, rfl, rfl, h2, p w4 _ e4 m4 .non [] (rr_d .non) fun _ z => nomatch z⟩
      · exact p.elim
    · exact p.elim
/-- o.pop() of plain items -/
def ePopP (Fo : DenP) : Den := fun ρ M => match Fo ρ M with
  | some l => (match atL M l with
    | some (.lst ts) => (match allD ts with
      | some ds => (match ds[ds.length - 1]? with
        | some d => .ok (.t (.d d)) (setL M l (.lst (ds.dropLast.map T.d)))
        | none => .bad)
      | none => .bad)
    | _ => .bad)
  | _ => .bad
theorem DpL.dropLast {F : Hp} {vs : List V} {ds : List D} (h : DpL X.K X.mg F vs ds) : DpL X.K X.mg F vs.dropLast ds.dropLast := by
  rw [List.dropLast_eq_take, List.dropLast_eq_take, h.length]
  exact h.take _
theorem de_popP (ho : DP X o Fo) (hbase : attributeBase o "pop" X.env (eval o X.env) = eval o X.env := by rfl) (hline : (apos.endLine == cpos.line) = true := by rfl) :
    DE X W (.Call (.Attribute o "pop" apos) [] [] cpos) (ePopP Fo) :=
  (pe_bm0 PySem.F.plainAttrs_list PySem.F.slot_list_pop PySem.F.type_list_pop (mt_pop) ho hbase hline).mono fun σ H Q ⟨w, ρ, M, m, er, p⟩ => by
    unfold ePopP at p
    split at p
    · rename_i l hl
      split at p
      · rename_i ts hts
        split at p
        · rename_i ds hds
          split at p
          · rename_i d hd
            obtain ⟨a, vs, fl, h1, h2, h3, h4, h5, hk, h6⟩ := put_loc m hts
            refine ⟨w, ρ, M, m, er, l, hl, fun v s hs hv => ?_⟩
            rw [h1] at hv
            cases hv
            have hD := allD_at h3 hds
            obtain ⟨u, hu, hud⟩ := hD.get hd
            obtain ⟨w4, e4, m4⟩ := h6 vs.dropLast (ds.dropLast.map T.d) [] [] hD.dropLast.trees List.nodup_nil fun _ z => nomatch z
            exact ⟨lst_ty h2, a, vs, u, rfl, rfl, h2, by rw [hD.length]; exact hu, p w4 _ e4 m4 u [] (rr_d (Dp.mono e4.F hud)) fun _ z => nomatch z⟩
          · exact p.elim
        · exact p.elim
      · exact p.elim
    · exact p.elim
/-! ### of a thing that nobody holds -/
def eAppT (Fe : Den) (Fi : DenV) : Den := fun ρ M => (Fe ρ M).bind fun r M1 => match r, Fi ρ M1 with
  | .t (.lst ts), some d => if ts.length + 1 ≤ 1000000 then .ok (.t (.d .non)) M1 else .bad
  | _, _ => .bad
theorem de_appT (ho : DE X W o Fe) (hv : DV X e Fi) (hbase : attributeBase o "append" X.env (eval o X.env) = eval o X.env := by rfl)
    (hfew : ((backTo cpos (starEach [e] X.env)).all (fun x => !x.1) && (backToKw cpos (keywordEach [] X.env)).all (fun x => x.1.isSome)
      && decide ([e].length + ([] : List Keyword).length + (if ([] : List Keyword).isEmpty then 0 else 1) < 30)) = true := by rfl)
    (hline : (apos.endLine == cpos.line) = true := by rfl) (hs : starEach [e] X.env = (false, eval e X.env) :: starEach [] X.env := by rfl) (hplain : (backTo cpos (starEach [] X.env)).any (·.1) = false := by rfl) :
    DE X W (.Call (.Attribute o "append" apos) [e] [] cpos) (eAppT Fe Fi) :=
  (pe_bm PySem.F.plainAttrs_list PySem.F.slot_list_append PySem.F.type_list_append mt_append ho (pa_cons hv pa_nil hs) hbase hfew hline hs hplain).mono fun σ H Q ⟨w, ρ, M, m, er, p⟩ => by
    refine ⟨w, ρ, M, m, er, p.bindF.imp fun w1 H1 M1 r _ _ z => ?_⟩
    obtain ⟨e1, m1, p1⟩ := z
    intro v fp q hf
    replace p1 := p1 fp hf
    split at p1
    · rename_i ts d hd
      split at p1
      · rename_i hn
        obtain ⟨q1, q2, q3⟩ := q
        cases q1 with
        | @lst a vs _ fl h1 h2 h3 =>
          refine ⟨lst_ty h1, w1, ρ, M1, m1, er.stay e1, d, hd, fun v hv => ?_⟩
          refine ⟨a, vs, v, rfl, rfl, h1, by have := big_le hn; rw [h3.length]; omega, ?_⟩
          exact p1 w1 _ (Ext.put List.mem_cons_self) (m1.put h2 fun k hk z => q3 a List.mem_cons_self k hk z) .non [] (rr_d .non) fun _ z => nomatch z
      · exact p1.elim
    · exact p1.elim
def eClearT (Fe : Den) : Den := fun ρ M => (Fe ρ M).bind fun r M1 => match r with
  | .t (.lst ts) => .ok (.t (.d .non)) M1
  | _ => .bad
theorem de_clearT (ho : DE X W o Fe) (hbase : attributeBase o "clear" X.env (eval o X.env) = eval o X.env := by rfl) (hline : (apos.endLine == cpos.line) = true := by rfl) :
    DE X W (.Call (.Attribute o "clear" apos) [] [] cpos) (eClearT Fe) :=
  (pe_bm0 PySem.F.plainAttrs_list PySem.F.slot_list_clear PySem.F.type_list_clear (mt_clear) ho hbase hline).mono fun σ H Q ⟨w, ρ, M, m, er, p⟩ => by
    refine ⟨w, ρ, M, m, er, p.bindF.imp fun w1 H1 M1 r _ _ z => ?_⟩
    obtain ⟨e1, m1, p1⟩ := z
    intro v fp q hf
    replace p1 := p1 fp hf
    split at p1
    · rename_i ts
      obtain ⟨q1, q2, q3⟩ := q
      cases q1 with
      | @lst a vs _ fl h1 h2 h3 =>
        refine ⟨lst_ty h1, a, vs, rfl, rfl, h1, ?_⟩
        exact p1 w1 _ (Ext.put List.mem_cons_self) (m1.put h2 fun k hk z => q3 a List.mem_cons_self k hk z) .non [] (rr_d .non) fun _ z => nomatch z
    · exact p1.elim
/-! ### a held list by its name, any value appended -/
def eAppV (i : Nat) (Fv : Den) : Den := fun ρ M => match ρ[i]? with
  | some (some (.h k)) => (match M[k]? with
    | some (.lst _) => (Fv ρ M).bind fun r M1 => (match (frzM M1 r)[k]? with
      | some (.lst ts) => if ts.length + 1 ≤ 1000000 then .ok (.t (.d .non)) ((frzM M1 r).set k (.lst (ts ++ [treeT M1 r]))) else .bad
      | _ => .bad)
    | _ => .bad)
  | _ => .bad
theorem de_appV (i : Nat) (ho : PE X o (tVar i)) (hv : DE X W e Fv) (hbase : attributeBase o "append" X.env (eval o X.env) = eval o X.env := by rfl)
    (hfew : ((backTo cpos (starEach [e] X.env)).all (fun x => !x.1) && (backToKw cpos (keywordEach [] X.env)).all (fun x => x.1.isSome)
      && decide ([e].length + ([] : List Keyword).length + (if ([] : List Keyword).isEmpty then 0 else 1) < 30)) = true := by rfl)
    (hline : (apos.endLine == cpos.line) = true := by rfl) (hs : starEach [e] X.env = (false, eval e X.env) :: starEach [] X.env := by rfl) (hplain : (backTo cpos (starEach [] X.env)).any (·.1) = false := by rfl) :
    DE X W (.Call (.Attribute o "append" apos) [e] [] cpos) (eAppV i Fv) :=
  (pe_bm PySem.F.plainAttrs_list PySem.F.slot_list_append PySem.F.type_list_append mt_append ho (pa_cons hv pa_nil hs) hbase hfew hline hs hplain).mono fun σ H Q ⟨w, ρ, M, m, er, p⟩ => by
    unfold eAppV at p
    split at p
    · rename_i k hk
      obtain ⟨v, hv1, hv2, hv3⟩ := er.at_ i _ hk
      split at p
      · rename_i ts0 hts0
        obtain ⟨vs0, fk0, b1, _⟩ := open_lst m hts0
        refine ⟨v, hv1, by rw [hv3]; exact lst_ty b1, ?_⟩
        refine ⟨w, ρ, M, m, er, p.bindF.imp fun w1 H1 M1 r _ _ z => ?_⟩
        obtain ⟨e1, m1, p1⟩ := z
        intro u fp q hf
        replace p1 := p1 fp hf
        obtain ⟨w3, e3, m3, t3, nd3, dj3⟩ := treeT_ok m1 q
        split at p1
        · rename_i ts hts
          split at p1
          · rename_i hn
            have hk3 : k < (frzM M1 r).length := (List.getElem?_eq_some_iff.mp hts).1
            obtain ⟨vs, fk, g1, g2, g3, g4, g5, g6⟩ := open_lst m3 hts
            have hal : w3.α k = w.α k := (e3.al k (by rw [frzM_length] at hk3; exact hk3)).trans (e1.al k hv2)
            obtain ⟨g5a, g5b⟩ := List.nodup_cons.mp g5
            have djk : ∀ a ∈ fp, a ∉ w3.α k :: fk := fun a ha hb => dj3 a ha k hk3 (by rw [g3]; exact hb)
            have nd' : (fk ++ (fp ++ [])).Nodup := by
              rw [List.append_nil, List.nodup_append]
              exact ⟨g5b, nd3, fun a ha b hb z => djk b hb (List.mem_cons_of_mem _ (z ▸ ha))⟩
            have i3 : ∀ a ∈ fk ++ (fp ++ []), a ∈ fk ∨ a ∈ fp := fun a ha => by simpa using ha
            obtain ⟨w4, e4, m4, _, _⟩ := put_lst (fs := fp) (ts' := ts ++ [treeT M1 r]) (vs' := vs ++ [u]) m3 hts (trl_app g4 (.cons t3 .nil)) (List.nodup_cons.mpr ⟨fun z => (i3 _ z).elim g5a fun z => djk _ z List.mem_cons_self, nd'⟩)
              (fun a ha j hj hjk => (i3 a ha).elim (fun z => g6 a (List.mem_cons_of_mem _ z) j hj hjk) fun z => dj3 a z j hj)
              fun a ha => (i3 a ha).elim (fun z => .inr (.inl ⟨k, hk3, by rw [g3]; exact List.mem_cons_of_mem _ z⟩)) fun z => .inr (.inr z)
            refine ⟨w3.α k, vs, u, by rw [hv3, hal], rfl, g1, by have := big_le hn; rw [g4.length]; omega, ?_⟩
            exact p1 w4 _ ((e3.mono fun _ z => nomatch z).trans e4 fun b hb => .inr (.inr hb)) m4 .non [] (rr_d .non) fun _ z => nomatch z
          · exact p1.elim
        · exact p1.elim
      · exact p.elim
    · exact p.elim
/-! ### dicts -/
def DPs (X : Cx) (W : WX) (pos : Pos) (keys : List (Option Expr)) (values : List Expr) (ks : List Key) (A : DenA) : Prop :=
  ∃ trs, PPs X pos keys values trs ∧ ∀ σ H Q, rdA X W A σ H (fun vs H' => Q ((ks.map kV).zip vs) H') → tPairs trs σ H Q
theorem dps_nil : DPs X W pos [] [] [] eNil := ⟨[], pps_nil, fun σ H Q ⟨w, ρ, M, m, er, p⟩ => p.now m [] [] .nil fun _ z => nomatch z⟩
theorem dps_cons {key v : Expr} {keys : List (Option Expr)} {values : List Expr} {k : Key} {ks : List Key} (hk : PE X key (tC (kV k))) (hv : DE X W v Fv) (hr : DPs X W pos keys values ks A) : DPs X W pos (some key :: keys) (v :: values) (k :: ks) (eCons Fv A) := by
  obtain ⟨trs, h1, h2⟩ := hr
  refine ⟨_, pps_cons hk hv h1, fun σ H Q h => ?_⟩
  show rdE X W Fv σ H fun y H2 => tPairs trs σ H2 fun ps H3 => Q ((kV k, y) :: ps) H3
  have h := rd_cons h
  obtain ⟨w, ρ, M, m, er, p⟩ := h
  refine ⟨w, ρ, M, m, er, p.imp fun w' H' M' r _ _ z => ?_⟩
  intro v fp q hf
  exact h2 σ H' _ (z v fp q hf)
def dicT : List Key → List T → List (Key × T)
  | k :: ks, t :: ts => (k, t) :: dicT ks ts
  | _, _ => []
def eDict (ks : List Key) (A : DenA) : Den := fun ρ M => (A ρ M).bind fun rs M1 => if rs.length = ks.length ∧ ks.length ≤ 15 ∧ ks.Nodup then .ok (.t (.dic (dicT ks (treesM rs M1).1))) (treesM rs M1).2 else .bad
theorem trk_zip {F : Hp} : ∀ {ks : List Key} {vs : List V} {ts : List T} {fp : List Addr}, TRL X.K X.mg F H vs ts fp → vs.length = ks.length → TRK X.K X.mg F H (ks.zip vs) (dicT ks ts) fp
  | [], _, _, _, .nil, _ => .nil
  | k :: ks, _, _, _, .nil, e => by simp at e
  | [], _, _, _, .cons _ _, e => by simp at e
  | k :: ks, _, _, _, .cons h r, e => .cons h (trk_zip r (by simpa using e))
theorem merge_nodup : ∀ (more kvs : List (Key × V)), ((kvs ++ more).map (·.1)).Nodup → mergeK kvs more = kvs ++ more
  | [], kvs, _ => by simp [mergeK]
  | (k, v) :: r, kvs, nd => by
    have hn : (kvs.any fun kv => decide (kv.1 = k)) = false := by
      rw [List.any_eq_false]
      intro kv hkv z
      rw [List.map_append, List.nodup_append] at nd
      exact nd.2.2 kv.1 (List.mem_map_of_mem hkv) k (by simp) (by simpa using z)
    have e : putK kvs k v = kvs ++ [(k, v)] := by unfold putK; rw [hn]; rfl
    show mergeK (putK kvs k v) r = _
    rw [e, merge_nodup r (kvs ++ [(k, v)]) (by simpa using nd)]
    simp
theorem de_dict {keys : List (Option Expr)} {values : List Expr} {ks : List Key} (h : DPs X W pos keys values ks A) (hall : keys.all (·.isSome) = true := by rfl) (hl : keys.length = values.length := by rfl) (h0 : keys ≠ [] := by simp) (h15 : keys.length ≤ 15 := by decide) :
    DE X W (.Dict keys values pos) (eDict ks A) := by
  obtain ⟨trs, h1, h2⟩ := h
  refine (pe_disp h1 hall hl h0 h15).mono fun σ H Q ⟨w, ρ, M, m, er, q⟩ => ?_
  intro p hp
  refine h2 σ _ _ ?_
  have m0 := m.new (o := .dK []) hp
  have e0 : Ext [] w H M w (upd H p (.dK [])) M := Ext.new m hp
  have np : w.F p = none := by
    cases z : w.F p with
    | none => rfl
    | some o => rw [m.sub p o z] at hp; cases hp
  have npφ : ∀ k, k < M.length → p ∉ w.φ k := fun k hk z => by
    obtain ⟨x, hx⟩ : ∃ x, M[k]? = some x := ⟨M[k], List.getElem?_eq_getElem hk⟩
    obtain ⟨_, o, e⟩ := (m.obj k x hx).1.fp _ z
    rw [e] at hp; cases hp
  refine ⟨w, ρ, M, m0, er.stay e0, (Post.from q.bindF e0 (gs := []) fun _ z => nomatch z).imp fun w1 H1 M1 rs e1 m1 z => ?_⟩
  obtain ⟨e01, _, p1⟩ := z
  intro vs fp q hf
  have keepP : ∀ a, a = p → ¬ Pm [] w (upd H p (.dK [])) M a := fun a ha z => by
    subst ha
    rcases z with z | ⟨j, hj, z⟩ | z
    · rw [upd_same] at z; cases z
    · exact npφ j hj z
    · cases z
  have hp1 : H1 p = some (.dK []) := e1.keep p _ upd_same (keepP p rfl)
  have nF1 : w1.F p = none := by
    cases z : w1.F p with
    | none => rfl
    | some u =>
      rcases e1.gr p (by rw [z]; exact fun z => nomatch z) with z | z
      · exact absurd np z
      · exact absurd z (keepP p rfl)
  have nφ1 : ∀ k, k < M1.length → p ∉ w1.φ k := fun k hk z => keepP p rfl (e1.ph k hk p z)
  have nfp : p ∉ fp := fun z => keepP p rfl (hf p z)
  replace p1 := p1 (p :: fp) fun a ha => by
    rcases List.mem_cons.mp ha with rfl | ha
    · exact .inl hp
    · exact e0.pm (gs := []) (fun _ z => nomatch z) (hf a ha)
  split at p1
  · rename_i hh
    obtain ⟨hlen, h15', hnd⟩ := hh
    obtain ⟨w2, e2, m2, q2, nd2, na2⟩ := trees_ok m1 q
    have hvs : vs.length = ks.length := by rw [q.length]; exact hlen
    have nF2 : w2.F p = none := by
      cases z : w2.F p with
      | none => rfl
      | some u =>
        rcases e2.gr p (by rw [z]; exact fun z => nomatch z) with z | ⟨z⟩ | ⟨j, hj, z⟩ | z
        · exact absurd nF1 z
        · rw [hp1] at z; cases z
        · exact absurd z (nφ1 j hj)
        · cases z
    have nφ2 : ∀ k, k < (treesM rs M1).2.length → p ∉ w2.φ k := fun k hk z => by
      rcases e2.ph k hk p z with z | ⟨j, hj, z⟩ | z
      · rw [hp1] at z; cases z
      · exact nφ1 j hj z
      · cases z
    refine ⟨hp1, ks.zip vs, ?_, by rw [List.length_zip, hvs]; omega, ?_⟩
    · have zz : ∀ (ks : List Key) (vs : List V), (ks.map kV).zip vs = (ks.zip vs).map fun kv => (kV kv.1, kv.2) := by
        intro ks
        induction ks with
        | nil => intro vs; rfl
        | cons k ks ih =>
          intro vs
          cases vs with
          | nil => rfl
          | cons v vs => rw [List.map_cons, List.zip_cons_cons, List.zip_cons_cons, List.map_cons, ih]
      exact zz ks vs
    · rw [merge_nodup _ [] (by rw [List.nil_append, List.map_fst_zip (by omega)]; exact hnd), List.nil_append]
      have q3 : TR X.K X.mg w2.F (upd H1 p (.dK (ks.zip vs))) (.ref p) (.dic (dicT ks (treesM rs M1).1)) (p :: fp) := .dic upd_same nF2 (trk_zip (q2.stay (Same.refl _) fun a ha => ⟨(q2.fp a ha).1, fun o ho => by rw [upd_ne (show a ≠ p from fun z => nfp (z ▸ ha))]; exact ho⟩) hvs)
      refine p1 w2 _ ((e2.mono fun _ z => nomatch z).trans (Ext.put (fs := [p]) (by simp)) fun a ha => .inr (.inr (by simp at ha; simp [ha]))) (m2.put nF2 nφ2) (.ref p) (p :: fp) ⟨q3, List.nodup_cons.mpr ⟨nfp, nd2⟩, fun a ha k hk z => ?_⟩ fun a ha => ?_
      · rcases List.mem_cons.mp ha with rfl | ha
        · exact nφ2 k hk z
        · exact na2 a ha k hk z
      · rcases List.mem_cons.mp ha with rfl | ha
        · exact .inl hp
        · exact e0.pm (gs := []) (fun _ z => nomatch z) (hf a ha)
  · exact p1.elim
def keyD : D → Option Key
  | .int i => some (.inl i)
  | .str x => some (.inr x)
  | _ => none
def lookK : List (Key × D) → Key → Option D
  | [], _ => none
  | (k', d) :: r, k => if k' = k then some d else lookK r k
def dgetR : R → R → Mst → Out R := fun r1 r2 M => match frzR M r1, keyD (frzR M r2) with
  | .dic kvs, some k => (match lookK kvs k with
    | some d => .ok (.t (.d d)) (frzM M r1)
    | none => .bad)
  | _, _ => .bad
theorem DpK.get {F : Hp} : ∀ {vs : List (Key × V)} {xs : List (Key × D)} {k : Key} {x : D}, DpK X.K X.mg F vs xs → lookK xs k = some x → ∃ v, valV vs k = some v ∧ Dp X.K X.mg F v x
  | _, _, _, _, .nil, e => by cases e
  | _, _, k, x, .cons (f := g) h r, e => by
    unfold lookK at e
    split at e
    · rename_i z
      cases e
      exact ⟨_, valV_pos z, h⟩
    · rename_i z
      obtain ⟨v, h1, h2⟩ := DpK.get r e
      exact ⟨v, by rw [valV_neg z]; exact h1, h2⟩
theorem key_at {F : Hp} {v : V} {d : D} {k : Key} (h : Dp X.K X.mg F v d) (e : keyD d = some k) : v = kV k := by
  cases h <;> cases e <;> rfl
theorem op2_dget : Op2 X dgetR (fun x y H Q => ∃ a v, x = .ref a ∧ DGet H a y (some v) ∧ Q v H) := by
  intro W σ w H M x y r1 r2 f1 f2 Q m q1 q2 _ p
  have s2 := seen m q2
  obtain ⟨w', e', m', d', _⟩ := settle m q1
  unfold dgetR at p
  split at p
  · rename_i kvs k h1 hk
    split at p
    · rename_i d hd
      rw [h1] at d'
      cases d' with
      | dic g1 g2 =>
        obtain ⟨v, e1, e2⟩ := g2.get hd
        rw [key_at s2 hk]
        refine ⟨_, v, rfl, ?_, p w' H (e'.mono fun a ha => List.mem_append_left _ ha) m' v [] (rr_d e2) fun _ z => nomatch z⟩
        have := DGet.k (H := H) (k := k) (m'.sub _ _ g1)
        rw [e1] at this
        exact this
    · exact p.elim
  · exact p.elim
theorem de_dget (hu : X.A.units + 1 < cLine) (ha : DE X W e Fa) (hb : DE X W i Fb) (hs : NoSl i := by exact fun _ _ => rfl) : DE X W (.Subscript e i pos) (eSeq2 dgetR Fa Fb) :=
  (pe_dget hu ha hb hs).mono fun _ _ _ h => rd_op op2_dget h
end
end DL

/-! DL21: enumerate of a tuple -/
namespace DL
open PySem L2 PySem.Spec PyProof.Rows
theorem meets_enumT {v : Value} {o : Obj} {H : Heap → Prop} (B : Begins v o H) :
    Meets (Builtin.«enumerate.__new__» ⟨[.type "enumerate", v], []⟩) (fun _ R s => H s.heap ∧
      R (.ok (.ret (.ref (s.heap.push o).objs.size))) { s with heap := (s.heap.push o).push { cls := .type "enumerate", data := .fields #[.none, .bool false, .ref s.heap.objs.size, rawInt 0, .none, .none] } }) :=
  .of_wp fun prog w A R s h => by
    obtain ⟨hp, g, d, tk, os⟩ := s; obtain ⟨h1, h⟩ := h
    have hsub := sub_enumerate
    have q1 : ∀ {A' : Around} {E : Value → Shared → Prop} {Q : Value → Shared → Prop}, Q (.ref hp.objs.size) ⟨hp.push o, g, d, tk, os⟩ → wpAny (model prog w) A' (pyIter v) Q E ⟨hp, g, d, tk, os⟩ :=
      fun q => B.iter prog w _ _ ⟨hp, g, d, tk, os⟩ _ h1 q
    wp_walk using q1
    refine wpAny_stack_any fun st => wpAny_pure ?_
    split
    · rename_i c _ _ _ _ _
      cases (c == Value.type "enumerate")
      · wp_walk using q1
        exact ⟨_, rfl, h⟩
      · wp_walk using q1
        exact ⟨_, rfl, h⟩
    · wp_walk using q1
      exact ⟨_, rfl, h⟩
theorem enum_beginsT {prog : Program} {w : World} {A : Around} {E : Value → Shared → Prop} {s : Shared} {v : Value} {o : Obj} {H : Heap → Prop} {Q : Value → Shared → Prop} (B : Begins v o H) (h1 : H s.heap)
    (h : ∀ h', IsEnum h' (s.heap.objs.size + 1) s.heap.objs.size 0 .none → h'.get? s.heap.objs.size = some o → h'.objs.size = s.heap.objs.size + 2 →
      (∀ b o, s.heap.get? b = some o → h'.get? b = some o) → Q (.ref (s.heap.objs.size + 1)) { s with heap := h' }) :
    wpAny (model prog w) A (call (.type "enumerate") [v]) Q E s := by
  refine callType_new F.called_enumerate (by decide) (F.typeCall_enumerate_1 _) (F.newCall_enumerate_1 _) (fun obj => F.args_object_init_2 obj _) F.entry_enumerate_new
    (meets_enumT B) ⟨h1, ?_⟩
  have hz : (s.heap.push o).objs.size = s.heap.objs.size + 1 := Heap.size_push ..
  show _ ∧ _
  rw [hz]
  have he : IsEnum ((s.heap.push o).push { cls := .type "enumerate", data := .fields #[.none, .bool false, .ref s.heap.objs.size, rawInt 0, .none, .none] }) (s.heap.objs.size + 1) s.heap.objs.size 0 .none := by
    have := Heap.get?_push_size (s.heap.push o) (o := { cls := .type "enumerate", data := .fields #[.none, .bool false, .ref s.heap.objs.size, rawInt 0, .none, .none] }) rfl
    rw [hz] at this; exact this
  refine ⟨⟨_, he, rfl⟩, h _ he (Heap.get?_push_of_some _ (Heap.get?_push_size _ B.free)) (by rw [Heap.size_push, hz]) fun b o x => Heap.get?_push_of_some _ (Heap.get?_push_of_some _ x)⟩
theorem draws_tuple {prog : Program} {w : World} {A : Around} (hh : A.handled = none) (it l : Addr) (hne : l ≠ it) (items : Array Value) :
    Draws prog w A it [it, l] items.size (fun i v => items[i]? = some v) (fun i h => h.IsTupleIter it l i ∧ h.IsTuple l items) where
  live := fun _ _ st => let ⟨o, ho, _⟩ := st.1; ⟨o, ho⟩
  frame := fun _ _ _ st hk => ⟨st.1.at fun o e => hk it (by simp) o e, st.2.at fun o e => hk l (by simp) o e⟩
  item := fun i s Q E hi st hQ => by
    refine RZ.nextOf_tuple_item st.1 st.2 (x := items[i]) (by simp [hi]) fun h' hit' hs' => ?_
    exact hQ _ h' s.toks (by simp [hi]) ⟨hit', st.2.extBut hs'.extBut hne⟩ hs'
  done := fun s Q E st hE => RZ.nextOf_tuple_end hh st.1 st.2 (by simp) hE
/-- the tuple at a, each item in a new pair -/
def Itet (K : PySem.W.Frag) (a : Addr) : It :=
  ⟨fun i H => ∃ (xs : List V) (x : V), SqT K H a xs ∧ xs[i]? = some x, fun i H v H' => ∃ T x, v = .ref T ∧ H T = none ∧ H' = upd H T (.tup [.int (i : Nat), x]) ∧ ∀ xs, SqT K H a xs → xs[i]? = some x, fun i H => ∃ xs : List V, SqT K H a xs ∧ xs.length ≤ i⟩
theorem turn_enumT {P : Program} {w : World} {K : PySem.W.Frag} {elts : List Expr} {kk : Nat} {tpos : Pos} (a e it : Addr) (hae : a ≠ e) (hai : a ≠ it) :
    Turn P w K (.Tuple elts kk tpos) (Itet K a) [e, it] e (fun i h => (∃ old, IsEnum h e it ((i : Nat) : Int) old) ∧ h.IsTupleIter it a i ∧ e ≠ it) where
  mem := by simp
  obj := fun i h st b hb => by
    obtain ⟨⟨old, he⟩, ⟨o, ho, hc, hd⟩, _⟩ := st
    have e' : b = e ∨ b = it := by simpa using hb
    rcases e' with z | z
    · rw [z]; exact ⟨_, he, fun v q => nomatch q⟩
    · rw [z]; exact ⟨o, ho, fun v q => by rw [hd] at q; cases q⟩
  keep := fun i h h' st k => let ⟨⟨old, he⟩, hi, hne⟩ := st; ⟨⟨old, k e (by simp) _ he⟩, hi.at fun o q => k it (by simp) o q, hne⟩
  item := by
    intro X hP hw hK hc i pins s σ H E I hf st hg
    subst hP hw hK
    obtain ⟨⟨old, he⟩, hit, hne⟩ := st
    obtain ⟨xs, x, hq, hx⟩ := hg
    obtain ⟨its, rv, p, hz⟩ := I.tuple hq
    obtain ⟨u, hu, ru⟩ := rv.get hx
    have hil' : i < its.toArray.size := by simp; exact (List.getElem?_eq_some_iff.mp hu).1
    have hel : e < s.heap.objs.size := Heap.lt_size he
    have hil : it < s.heap.objs.size := by obtain ⟨_, q, _⟩ := hit; exact Heap.lt_size q
    have hh : X.A.in1.handled = none := I.ok.hd hc
    refine wpAny_pyNext_enum_itemD (draws_tuple hh it a hai its.toArray) he ⟨hit, show s.heap.IsTuple a its.toArray from p⟩ hil' hne (by simp [hne, hae.symm]) fun x' h' tk hP' ho hst' hT hsz hk => ?_
    obtain rfl : x' = u := by
      have : its[i]? = some x' := by simpa using hP'
      rw [hu] at this; exact (Option.some.inj this).symm
    refine ⟨_, rfl, wpAny_letOwnedTupleGo_enum (s := { s with heap := h', toks := tk + 1 }) ho fun h'' he' sb => ?_⟩
    have hT2 : h''.get? s.heap.objs.size = some { cls := .type "tuple", data := .seq #[.int i tk, x'] } := (sb.2 _ (Nat.ne_of_gt hel)).trans hT
    have new : ObjOk X.prog X.w (upd H s.heap.objs.size (.tup [.int (i : Nat), x])) h'' s.heap.objs.size (.tup [.int (i : Nat), x]) :=
      ⟨by show 2 ≤ sizeLine; decide, [.int i tk, x'], .cons ⟨_, rfl⟩ (.cons ru .nil), ⟨_, hT2, rfl, _, rfl⟩⟩
    have I1 : Inv X pins σ (upd H s.heap.objs.size (.tup [.int (i : Nat), x])) { s with heap := h'', toks := tk + 1 } :=
      I.turnedNew (ch := [e, it]) (fun b ob hb q => (sb.2 b (fun z => hb (by simp [z]))).trans (hk b ob (fun z => hb (by simp [z])) (fun z => hb (by simp [z])) q)) hf (Nat.le_refl _) new
    refine ⟨.ref s.heap.objs.size, _, I1, rfl, ⟨_, x, rfl, I.hok.fresh (Nat.le_refl _), rfl, fun ys hy => by rw [I.tuple_inj hy hq]; exact hx⟩, ⟨⟨x', ?_⟩, hst'.1.at fun o q => (sb.2 it (Ne.symm hne)).trans q, hne⟩, fun b hb => ?_⟩
    · have e1 : ((i + 1 : Nat) : Int) = (i : Int) + 1 := by omega
      rw [e1]; exact he'
    · have hb' : b < s.heap.objs.size := by
        have e' : b = e ∨ b = it := by simpa using hb
        rcases e' with z | z
        · rw [z]; exact hel
        · rw [z]; exact hil
      rw [upd_ne (Nat.ne_of_lt hb')]
      exact (hf b hb).1
  done := by
    intro X hP hw hK hc i pins s σ H E I hf st hg
    subst hP hw hK
    obtain ⟨⟨old, he⟩, hit, hne⟩ := st
    obtain ⟨xs, hq, hx⟩ := hg
    obtain ⟨its, rv, p, hz⟩ := I.tuple hq
    obtain ⟨f0, f1, f2, f3, f4, f5⟩ := hf it (by simp)
    have hl := rv.length
    have hh : X.A.in1.handled = none := I.ok.hd hc
    have hitN : s.heap.IsTupleIter it a its.toArray.size ∨ its.toArray.size < i := by
      by_cases z : i = its.toArray.size
      · exact .inl (z ▸ hit)
      · exact .inr (by simp at z ⊢; omega)
    unfold pyNext
    have hTy : s.TypeIs (.ref e) "enumerate" := ⟨_, he, rfl⟩
    refine wpAny_bind (wpAny_attempt (wpAny_callSpecial?_slot (name := Str.ofString "__next__") hTy F.slot_enumerate_next
      (wpAny_call_entry F.slot_enumerate_next hTy F.entry_enumerate_next ?_ (F.args_enumerate_next_1 _))))
    show wpAny _ _ (field (.ref e) 2 >>= _) _ _ _
    refine wpAny_bind (wpAny_field he rfl (x := .ref it) rfl ?_)
    refine wpAny_bind (RZ.nextOf_tuple_end hh hit (show s.heap.IsTuple a its.toArray from p) (by simp; omega) fun h' x he' hx' => ?_)
    obtain ⟨o, ho, hcl⟩ := hx'
    refine wpAny_bind (wpAny_isInstance (T := "StopIteration") (b := true) ⟨o, ho, hcl⟩ isSubtype_stop ?_)
    exact wpAny_pure ⟨rfl, I.turned (t' := s.toks) (fun b o hb q => he' b o hb q) f0 f1 f3 f4 f5⟩
  self := fun A i s Q E st h => let ⟨⟨_, he⟩, _⟩ := st; wpAny_pyIter_enum he h
def iEnumTup (K : PySem.W.Frag) (ta : TA) : TI := fun σ H R => ta σ H fun vs H1 => ∃ a xs, vs = [.ref a] ∧ SqT K H1 a xs ∧ R (Itet K a) H1
theorem pi_enumT {X : Cx} {e : Expr} {ta : TA} {p pos tpos : Pos} {elts : List Expr} {kk : Nat} (hg : Gl X "enumerate") (hm : X.mg "enumerate" = none) (ha : PA X [e] ta) (hs : starEach [e] X.env = [(false, eval e X.env)] := by rfl) :
    PI X (.Tuple elts kk tpos) (.Call (.Name "enumerate" p) [e] [] pos) (iEnumTup X.K ta) := by
  refine ⟨fun pins s σ H R I h => ?_⟩
  refine Call_ (ld_blt I hg hm boot_enumerate (PyProof.Rows.callWith_type1 (thn (ha.run pos pins s σ H _ I h) fun us s1 ⟨vs, H1, I1, r1, q1⟩ => ?_) hs rfl))
  obtain ⟨a, xs, ex, hq, q⟩ := q1
  subst ex
  cases r1 with
  | cons r rr =>
    cases rr
    cases r
    obtain ⟨its, rv, p', hz⟩ := I1.tuple hq
    have hal : a < s1.heap.objs.size := by obtain ⟨_, e, _⟩ := p'; exact Heap.lt_size e
    refine enum_beginsT (begins_tuple a its.toArray) (show s1.heap.IsTuple a its.toArray from p') fun h' he hit hsz hk => wpAny_pyIter_enum he ?_
    have I2 : Inv X pins σ H1 { s1 with heap := h' } := I1.kept (t' := s1.toks) hk
    refine ⟨s1.heap.objs.size + 1, [s1.heap.objs.size + 1, s1.heap.objs.size], _, _, H1, rfl, I2, turn_enumT a (s1.heap.objs.size + 1) s1.heap.objs.size (Nat.ne_of_lt (Nat.lt_succ_of_lt hal)) (Nat.ne_of_lt hal), ⟨⟨.none, he⟩, ⟨_, hit, rfl, rfl⟩, Nat.succ_ne_self _⟩, fun b hb => ?_, q⟩
    have e' : b = s1.heap.objs.size + 1 ∨ b = s1.heap.objs.size := by simpa using hb
    have hle : s1.heap.objs.size ≤ b := by
      rcases e' with z | z
      · rw [z]; exact Nat.le_add_right _ _
      · rw [z]; exact Nat.le_refl _
    exact I1.fpOk hle (I1.hok.fresh hle)
end DL

/-! DL22: enumerate of a list or a tuple -/
namespace DL
open PySem L2 PySem.Spec PyProof.Rows
section
variable {X : Cx} {W : WX} {σ : L2.St} {e : Expr} {p pos tpos : Pos}
theorem ItOk.enumT {F1 : Hp} {a : Addr} {vs : List V} {ds : List D} (h : SqT X.K F1 a vs) (l : DpL X.K X.mg F1 vs ds) : ItOk X.K X.mg F1 (Itet X.K a) (enumD ds) where
  go := fun i w H M d m sF hd => by
    unfold enumD at hd
    rw [List.getElem?_zipWith] at hd
    cases z : ds[i]? with
    | none => rw [z] at hd; split at hd <;> simp_all
    | some d' =>
      have hi : i < ds.length := (List.getElem?_eq_some_iff.mp z).1
      rw [z, List.getElem?_eq_getElem (by simpa using hi)] at hd
      simp at hd
      subst hd
      obtain ⟨v, h1, h2⟩ := l.get z
      have hq : SqT X.K H a vs := Same.seqT (sF.trans m.sub) h
      exact ⟨⟨vs, v, hq, h1⟩, fun x H' ⟨T, y, ex, hT, eH, k⟩ => by
        subst ex eH
        have := k vs hq
        rw [h1] at this
        cases this
        exact new_tup m hT (.cons (.int _) (.cons (h2.mono sF) .nil))⟩
  stop := fun i w H M m sF hi => ⟨vs, Same.seqT (sF.trans m.sub) h, by rw [l.length]; simpa [enumD] using hi⟩
def iEnumS (A : DenA) : DenI := fun ρ M => (A ρ M).bind fun rs M1 => match frzRs rs M1 with
  | [.lst ds] => .ok (enumD ds) (frzMs rs M1)
  | [.tupP _ ds] => .ok (enumD ds) (frzMs rs M1)
  | _ => .bad
def iEnumA (K : PySem.W.Frag) (ta : TA) : TI := fun σ H R => ta σ H fun vs H1 => ∃ a xs, vs = [.ref a] ∧ ((SqL K H1 a xs ∧ R (Ite K a) H1) ∨ (SqT K H1 a xs ∧ R (Itet K a) H1))
theorem pi_enumA {elts : List Expr} {kk : Nat} {ta : TA} (hg : Gl X "enumerate") (hm : X.mg "enumerate" = none) (ha : PA X [e] ta) (hs : starEach [e] X.env = [(false, eval e X.env)] := by rfl) :
    PI X (.Tuple elts kk tpos) (.Call (.Name "enumerate" p) [e] [] pos) (iEnumA X.K ta) := by
  refine ⟨fun pins s σ H R I h => ?_⟩
  refine Call_ (ld_blt I hg hm boot_enumerate (PyProof.Rows.callWith_type1 (thn (ha.run pos pins s σ H _ I h) fun us s1 ⟨vs, H1, I1, r1, q1⟩ => ?_) hs rfl))
  obtain ⟨a, xs, ex, q⟩ := q1
  subst ex
  cases r1 with
  | cons r rr =>
    cases rr
    cases r
    rcases q with ⟨hq, q⟩ | ⟨hq, q⟩
    · obtain ⟨its, rv, p', hz⟩ := I1.list hq
      refine call_enumerate_list p'.isList fun h' he hit hsz hk => wpAny_pyIter_enum he ?_
      have I2 : Inv X pins σ H1 { s1 with heap := h' } := I1.kept (t' := s1.toks) hk
      refine ⟨s1.heap.objs.size + 1, [s1.heap.objs.size + 1, s1.heap.objs.size], _, _, H1, rfl, I2, turn_enum a (s1.heap.objs.size + 1) s1.heap.objs.size, ⟨⟨.none, he⟩, hit, Nat.succ_ne_self _⟩, fun b hb => ?_, q⟩
      have e' : b = s1.heap.objs.size + 1 ∨ b = s1.heap.objs.size := by simpa using hb
      have hle : s1.heap.objs.size ≤ b := by
        rcases e' with z | z
        · rw [z]; exact Nat.le_add_right _ _
        · rw [z]; exact Nat.le_refl _
      exact I1.fpOk hle (I1.hok.fresh hle)
    · obtain ⟨its, rv, p', hz⟩ := I1.tuple hq
      have hal : a < s1.heap.objs.size := by obtain ⟨_, e, _⟩ := p'; exact Heap.lt_size e
      refine enum_beginsT (begins_tuple a its.toArray) (show s1.heap.IsTuple a its.toArray from p') fun h' he hit hsz hk => wpAny_pyIter_enum he ?_
      have I2 : Inv X pins σ H1 { s1 with heap := h' } := I1.kept (t' := s1.toks) hk
      refine ⟨s1.heap.objs.size + 1, [s1.heap.objs.size + 1, s1.heap.objs.size], _, _, H1, rfl, I2, turn_enumT a (s1.heap.objs.size + 1) s1.heap.objs.size (Nat.ne_of_lt (Nat.lt_succ_of_lt hal)) (Nat.ne_of_lt hal), ⟨⟨.none, he⟩, ⟨_, hit, rfl, rfl⟩, Nat.succ_ne_self _⟩, fun b hb => ?_, q⟩
      have e' : b = s1.heap.objs.size + 1 ∨ b = s1.heap.objs.size := by simpa using hb
      have hle : s1.heap.objs.size ≤ b := by
        rcases e' with z | z
        · rw [z]; exact Nat.le_add_right _ _
        · rw [z]; exact Nat.le_refl _
      exact I1.fpOk hle (I1.hok.fresh hle)
theorem di_enumS {elts : List Expr} {kk : Nat} {A : DenA} (hg : Gl X "enumerate") (hm : X.mg "enumerate" = none) (ha : DA X W [e] A) (hs : starEach [e] X.env = [(false, eval e X.env)] := by rfl) :
    DI X W (.Tuple elts kk tpos) (.Call (.Name "enumerate" p) [e] [] pos) (iEnumS A) := (pi_enumA hg hm ha hs).mono fun σ H R h => by
  obtain ⟨w, ρ, M, m, er, p⟩ := h
  refine ⟨w, ρ, M, m, er, p.bindF.imp fun w1 H1 M1 rs _ _ z => ?_⟩
  obtain ⟨e1, m1, p1⟩ := z
  intro vs fp q hf
  replace p1 := p1 fp hf
  obtain ⟨w2, e2, m2, d⟩ := settleAll m1 q
  split at p1
  · rename_i ds hd
    rw [hd] at d
    cases d with
    | cons d1 d2 =>
      cases d2
      cases d1 with
      | lst h l => exact ⟨_, _, rfl, .inl ⟨SqL.of (m2.sub _ _ h), p1 w2 H1 e2 m2 _ (ItOk.enum (SqL.of h) l)⟩⟩
  · rename_i ds hd
    rw [hd] at d
    cases d with
    | cons d1 d2 =>
      cases d2
      cases d1 with
      | tupP h l => exact ⟨_, _, rfl, .inr ⟨Same.seqT m2.sub h.1, p1 w2 H1 e2 m2 _ (ItOk.enumT h.1 l)⟩⟩
  · exact p1.elim
end
theorem FldOk.nil {K : PySem.W.Frag} {mg : Mg} {f : Str} : FldOk K mg [] f := ⟨fun _ z => nomatch z⟩
theorem FldOk.cons {K : PySem.W.Frag} {mg : Mg} {f c : Str} {cs : List Str} {C : Addr} (hC : mg c = some (.ref C)) (cl : Cls K C) (na : NoAttr K C f) (h : FldOk K mg cs f) : FldOk K mg (c :: cs) f := ⟨fun c' hc C' hC' => by
  rcases List.mem_cons.mp hc with rfl | hc
  · rw [hC] at hC'; cases hC'; exact ⟨cl, na⟩
  · exact h.ok c' hc C' hC'⟩
end DL

/-! DL23: what stands at a place, looked at -/
namespace DL
open PySem L2 PySem.Spec PyProof.Rows
/-- a thing as it is worth now: nothing is done -/
def rdSn (X : Cx) (F : DenV) : TE := fun σ H Q => ∃ w ρ M, MR X.K X.mg w H M ∧ ER X.K X.mg w M σ ρ ∧ ∃ d, F ρ M = some d ∧ ∀ v, Dp X.K X.mg H v d → Q v H
def DSn (X : Cx) (e : Expr) (F : DenV) : Prop := PE X e (rdSn X F)
section
variable {X : Cx} {W : WX} {σ : L2.St} {fs gs : List Addr} {w w2 : Wd} {H H2 : Hp} {M M2 : Mst}
variable {e o i : Expr} {es : List Expr} {Fe Fv Fa Fb : Den} {Fo : DenP} {Fi : DenV} {A : DenA} {pos p apos cpos : Pos} {x m f : Str} {k : Nat} {cs : List Str}
def snP (Fo : DenP) : DenV := fun ρ M => match Fo ρ M with
  | some l => (atL M l).map frz
  | none => none
theorem dsn_place (ho : DP X o Fo) : DSn X o (snP Fo) := ho.mono fun σ H Q ⟨w, ρ, M, m, er, d, hd, k⟩ => by
  unfold snP at hd
  split at hd
  · rename_i l hl
    refine ⟨w, ρ, M, m, er, l, hl, fun v s hs hv => ?_⟩
    rw [hs] at hd
    cases hd
    obtain ⟨t, v', fs, _, h2, h3, _⟩ := atL_at m hs
    rw [hv] at h2
    cases h2
    exact k v (h3.seen m.sub fun a _ o ho => ho)
  · cases hd
def eFlat (F : DenV) : Den := fun ρ M => match F ρ M with
  | some d => if flatD d = true then .ok (.t (.d d)) M else .bad
  | none => .bad
theorem flat_any {F F' : Hp} {v : V} {d : D} (h : Dp X.K X.mg F v d) (hf : flatD d = true) : Dp X.K X.mg F' v d := by
  cases h with
  | non => exact .non
  | bl b => exact .bl b
  | int i => exact .int i
  | str x => exact .str x
  | lst _ _ => cases hf
  | tupP _ _ => cases hf
  | ins _ _ _ => cases hf
  | glo _ => cases hf
  | ty _ => cases hf
  | dic _ _ => cases hf
  | ro _ _ => cases hf
  | junk _ => cases hf
theorem de_flat (h : DSn X e Fi) : DE X W e (eFlat Fi) := h.mono fun σ H Q ⟨w, ρ, M, m, er, p⟩ => by
  unfold eFlat at p
  split at p
  · rename_i d hd
    split at p
    · rename_i hf
      exact ⟨w, ρ, M, m, er, d, hd, fun v hv => (p.now m) v [] (rr_d (flat_any hv hf)) fun _ z => nomatch z⟩
    · exact p.elim
  · exact p.elim
/-- len(o) of a place -/
def eLenS (F : DenV) : Den := fun ρ M => match F ρ M with
  | some d => (match lenD [d] with
    | some n => (match d with
      | .lst _ => .ok (.t (.d n)) M
      | .tupP _ _ => .ok (.t (.d n)) M
      | _ => .bad)
    | none => .bad)
  | none => .bad
theorem de_lenS (h : DSn X e Fi) (hg : Gl X "len") (hm : X.mg "len" = none) (he : starEach [e] X.env = (false, eval e X.env) :: starEach [] X.env := by rfl) (hpl : (backTo pos (starEach [] X.env)).any (·.1) = false := by rfl) :
    DE X W (.Call (.Name "len" p) [e] [] pos) (eLenS Fi) :=
  (pe_callB call_len hg hm PySem.boot_len (pa_cons h pa_nil he) (by decide) (by decide) he hpl).mono fun σ H Q ⟨w, ρ, M, m, er, q⟩ => by
    unfold eLenS at q
    split at q
    · rename_i d hd
      split at q
      · rename_i n hn
        refine ⟨w, ρ, M, m, er, d, hd, fun v hv => ?_⟩
        split at q
        · cases hv with
          | lst h l => cases hn; exact ⟨_, _, rfl, .inl ⟨_, SqL.of h, l.length.symm⟩, (q.now m) _ [] (rr_d (.int _)) fun _ z => nomatch z⟩
        · cases hv with
          | tupP h l => cases hn; exact ⟨_, _, rfl, .inr ⟨_, h.1, l.length.symm⟩, (q.now m) _ [] (rr_d (.int _)) fun _ z => nomatch z⟩
        · exact q.elim
      · exact q.elim
    · exact q.elim
end
end DL

/-! DL24: an expression that only looks (its answer is plain); a local handed away; places within tuples -/
namespace DL
open PySem L2 PySem.Spec PyProof.Rows
section
variable {X : Cx} {W : WX} {σ : L2.St} {fs gs : List Addr} {w w2 : Wd} {H H2 : Hp} {M M2 : Mst}
variable {e o i : Expr} {es : List Expr} {Fe Fv : Den} {Fo : DenP} {Fi : DenV} {A : DenA} {pos p apos : Pos} {x m f : Str} {k : Nat} {cs : List Str}
/-- the environment as it may be looked at -/
def fzS (M : Mst) : Option SV → Option SV
  | some (.h k) => some (.d (frz (M.getD k (.d .non))))
  | o => o
def ePure (Fe : Den) : Den := fun ρ M => match Fe (ρ.map (fzS M)) [] with
  | .ok (.t (.d d)) _ => if flatD d = true then .ok (.t (.d d)) M else .bad
  | _ => .bad
/-- nobody may change anything: all is frozen -/
def w00 (H : Hp) : Wd := ⟨H, fun _ => default, fun _ => []⟩
theorem mr00 : MR X.K X.mg (w00 H) H [] := ⟨Same.refl _, fun k t e => by simp at e, fun j k a hj => by simp at hj⟩
theorem er00 {ρ : Ev} (m : MR X.K X.mg w H M) (er : ER X.K X.mg w M σ ρ) : ER X.K X.mg (w00 H) [] σ (ρ.map (fzS M)) := ⟨by rw [er.len, List.length_map], fun j x e => by
  rw [List.getElem?_map] at e
  cases z : ρ[j]? with
  | none => rw [z] at e; cases e
  | some y =>
    rw [z] at e
    cases y with
    | none => cases e
    | some y =>
      obtain ⟨v, h1, h2⟩ := er.at_ j y z
      refine ⟨v, h1, ?_⟩
      cases y with
      | d d => cases e; exact Dp.mono m.sub h2
      | h k => cases e; exact seen m (r := .h k) ⟨h2.1, h2.2, rfl⟩⟩
theorem ext00 {w' : Wd} {H' : Hp} {M' : Mst} (m : MR X.K X.mg w H M) (e1 : Ext [] (w00 H) H [] w' H' M') (m1 : MR X.K X.mg w' H' M') : Ext [] w H M w H' M ∧ MR X.K X.mg w H' M := by
  have hs : Same H H' := fun a o h => m1.sub a o (e1.F a o h)
  refine ⟨⟨Same.refl _, Nat.le_refl _, fun _ _ => rfl, fun a o h _ => hs a o h, fun k hk a ha => .inr (.inl ⟨k, hk, ha⟩), fun _ h => .inl h, fun a h => ?_⟩, ⟨m.sub.trans hs, fun k t e => ?_, m.dis⟩⟩
  · cases z : H a with
    | none => rfl
    | some o => rw [hs a o z] at h; cases h
  · obtain ⟨q1, q2⟩ := m.obj k t e
    exact ⟨q1.stay (Same.refl _) fun a ha => ⟨(q1.fp a ha).1, fun o ho => hs a o ho⟩, q2⟩
theorem de_pure (h : DE X W e Fe) : DE X W e (ePure Fe) := h.mono fun σ H Q ⟨w, ρ, M, m, er, p⟩ => by
  unfold ePure at p
  split at p
  · rename_i d M1 hd
    split at p
    · rename_i hf
      refine ⟨w00 H, _, [], mr00, er00 m er, ?_⟩
      rw [hd]
      intro w' H' e1 m1 v fp q hp
      obtain ⟨e2, m2⟩ := ext00 m e1 m1
      obtain ⟨q1, _⟩ := q
      cases q1 with
      | d q1 => exact p w H' e2 m2 v [] (rr_d (flat_any q1 hf)) fun _ z => nomatch z
    · exact p.elim
  · exact p.elim
/-- a local, handed away -/
def eMove (i : Nat) : Den := fun ρ M => match ρ[i]? with
  | some (some (.h k)) => (match M[k]? with
    | some t => .ok (.t t) (M.set k (.d .junk))
    | none => .bad)
  | some (some (.d x)) => .ok (.t (.d x)) M
  | _ => .bad
theorem de_move (i : Nat) (h : PE X e (tVar i)) : DE X W e (eMove i) := h.mono fun σ H Q ⟨w, ρ, M, m, er, p⟩ => by
  unfold eMove at p
  split at p
  · rename_i k hk
    obtain ⟨v, h1, h2⟩ := er.at_ i _ hk
    split at p
    · rename_i t ht
      obtain ⟨q1, q2⟩ := m.obj k t ht
      have hkl : k < M.length := h2.1
      have sub : ∀ j, ∀ a ∈ (if j = k then ([] : List Addr) else w.φ j), j ≠ k ∧ a ∈ w.φ j := fun j a ha => by
        split at ha
        · cases ha
        · rename_i z; exact ⟨z, ha⟩
      refine ⟨v, h1, p ⟨w.F, w.α, fun j => if j = k then [] else w.φ j⟩ H ⟨Same.refl _, by simp, fun _ _ => rfl, fun _ _ h _ => h, fun j hj a ha => ?_, fun _ h => .inl h, fun _ h => h⟩ ⟨m.sub, fun j u e => ?_, fun i j a hi hj g1 g2 => ?_⟩ v (w.φ k) ⟨?_, q2, fun a ha j hj z => ?_⟩ fun a ha => .inr (.inl ⟨k, hkl, ha⟩)⟩
      · rw [List.length_set] at hj
        exact .inr (.inl ⟨j, hj, (sub j a ha).2⟩)
      · by_cases hjk : k = j
        · subst hjk
          rw [List.getElem?_set_self hkl] at e
          cases e
          show TR X.K X.mg w.F _ _ _ (if k = k then _ else w.φ k) ∧ (if k = k then _ else w.φ k).Nodup
          rw [if_pos rfl]
          exact ⟨.d (.junk _), List.nodup_nil⟩
        · rw [List.getElem?_set_ne hjk] at e
          show TR X.K X.mg w.F _ _ _ (if j = k then _ else w.φ j) ∧ (if j = k then _ else w.φ j).Nodup
          rw [if_neg (Ne.symm hjk)]
          exact m.obj j u e
      · rw [List.length_set] at hi hj
        exact m.dis i j a hi hj (sub i a g1).2 (sub j a g2).2
      · rw [h2.2]; exact q1
      · rw [List.length_set] at hj
        exact (sub j a z).1 (m.dis j k a hj hkl (sub j a z).2 ha)
    · exact p.elim
  · rename_i x hx
    obtain ⟨v, h1, h2⟩ := er.at_ i _ hx
    exact ⟨v, h1, (p.now m) v [] (rr_d h2) fun _ z => nomatch z⟩
  · exact p.elim
/-- o[i] within a tuple, as a place -/
def pTup (Fo : DenP) (Fi : DenV) : DenP := fun ρ M => match Fo ρ M, Fi ρ M with
  | some l, some (.int i) => (match atL M l with
    | some (.tup ts) => (match ixN ts.length i with
      | some j => if (ts[j]?).isSome = true then some (l.1, l.2 ++ [.i j]) else none
      | none => none)
    | _ => none)
  | _, _ => none
theorem at_tup {l : Loc} {ts : List T} (m : MR X.K X.mg w H M) (e : atL M l = some (.tup ts)) : ∃ a vs fl, pathV H l.2 (.ref (w.α l.1)) = some (.ref a) ∧ H a = some (.tup vs) ∧ TRL X.K X.mg w.F H vs ts fl := by
  obtain ⟨t, v, ff, h1, h2, h3, h4, h5, h6⟩ := atL_at m e
  cases h3 with
  | @tup a vs _ fl g1 g2 g3 => exact ⟨a, vs, fl, h2, g1, g3⟩
theorem dp_tup (ho : DP X o Fo) (hi : DV X i Fi) (hs : PlainIx i := by exact fun _ _ => rfl) : DP X (.Subscript o i pos) (pTup Fo Fi) := (pe_ix (ix_seq (X := X)) ho hi hs).mono fun σ H Q ⟨w, ρ, M, m, er, l, hl, k⟩ => by
  unfold pTup at hl
  split at hl
  · rename_i l0 i0 hl0 hi0
    split at hl
    · rename_i ts hts
      split at hl
      · rename_i j hj
        split at hl
        · rename_i zz
          cases hl
          obtain ⟨a, vs, fl, h1, h2, h3⟩ := at_tup m hts
          refine ⟨w, ρ, M, m, er, l0, hl0, fun v s hs hv => ?_⟩
          rw [h1] at hv
          cases hv
          refine ⟨w, ρ, M, m, er, _, hi0, fun v hv => ?_⟩
          cases hv
          have hlen := h3.length
          obtain ⟨t1, ht1⟩ := Option.isSome_iff_exists.mp zz
          obtain ⟨u, f1, fm, f2, b1, b2, b3, _⟩ := trl_at h3 ht1
          refine .inr (.inl ⟨a, vs, i0, u, rfl, rfl, SqT.of h2, by unfold atI; rw [hlen, hj]; exact b1, k u t1 ?_ ?_⟩)
          · unfold atL at hts ⊢
            show (match M[l0.1]? with
              | some t => subT (l0.2 ++ [Stp.i j]) t
              | none => none) = _
            split at hts
            · rename_i t ht
              try rw [ht]
              show subT (l0.2 ++ [Stp.i j]) t = _
              rw [subT_app _ _ hts]
              show (match ts[j]? with
                | some t => subT [] t
                | none => none) = _
              rw [ht1]; rfl
            · cases hts
          · show pathV H (l0.2 ++ [Stp.i j]) _ = _
            rw [pathV_app _ _ h1, pathV_tup h2 b1]; rfl
        · cases hl
      · cases hl
    · cases hl
  · cases hl
end
end DL

/-! DL25: operators that the text's own classes write -/
namespace DL
open PySem L2 PySem.Spec PyProof.Rows
structure OwnD (P : Program) (w : World) (K : PySem.W.Frag) (mg : Mg) (base : Heap) (c m : Str) (k : Nat) (ps : List Str) (G : Fn) : Prop where
  ex : ∃ C f, mg c = some (.ref C) ∧ PySem.W.selfFirst K C = true ∧ Meth K C m f ∧ FOk P w K mg base k f ps G
def insC (c : Str) (M : Mst) (r : R) : Bool := match insOf M r with
  | some (c', _) => decide (c' = c)
  | none => false
def gOwn (c : Str) (G : Fn) : R → R → Mst → Out R := fun r1 r2 M => if insC c M r1 = true ∧ insC c M r2 = true then noX (G [svR r1, svR r2] M) else .bad
def gOwn1 (c : Str) (G : Fn) : R → Mst → Out R := fun r M => if insC c M r = true then noX (G [svR r] M) else .bad
section
variable {X : Cx} {W : WX} {σ : L2.St} {fs gs : List Addr} {w w2 : Wd} {H H2 : Hp} {M M2 : Mst}
variable {e a b : Expr} {es : List Expr} {Fa Fb : Den} {pos p apos : Pos} {x m f c : Str} {k : Nat} {ps : List Str} {G : Fn}
theorem insC_at {v : V} {r : R} {fp : List Addr} {C : Addr} (hC : X.mg c = some (.ref C)) (m : MR X.K X.mg w H M) (h : RR X.K X.mg w H M v r fp) (e : insC c M r = true) : ∃ a dx fs, v = .ref a ∧ H a = some (.ins C dx fs) := by
  unfold insC at e
  split at e
  · rename_i c' ns hi
    have e := of_decide_eq_true e
    subst e
    obtain ⟨a, C', dx, fs, rfl, ha, hC', _⟩ := ins_at m h hi
    obtain rfl : C = C' := by rw [hC] at hC'; cases hC'; rfl
    exact ⟨a, dx, fs, rfl, ha⟩
  · cases e
def rOwn (X : Cx) (C : Addr) (G : Fn) : R2 := fun x y H Q => ∃ a b dx dy fs gs, x = .ref a ∧ y = .ref b ∧ H a = some (.ins C dx fs) ∧ H b = some (.ins C dy gs) ∧ spD X.K X.mg 2 G [x, y] H Q (fun _ _ _ => False)
def rOwn1 (X : Cx) (C : Addr) (G : Fn) : V → Hp → VK → Prop := fun x H Q => ∃ a dx fs, x = .ref a ∧ H a = some (.ins C dx fs) ∧ spD X.K X.mg 1 G [x] H Q (fun _ _ _ => False)
theorem post_own {E : XK} {vs : List V} {rs : List R} {fp : List Addr} {Q : VK} (m : MR X.K X.mg w H M) (q : RRL X.K X.mg w H M vs rs fp) (p : Post X W σ fp w H M (noX (G (rs.map svR) M)) (CE X fp w H M Q)) : spD X.K X.mg rs.length G vs H Q E := by
  obtain ⟨w3, e3, m3, v3⟩ := settleL m q
  refine ⟨w3, _, M, m3, v3, q.length, ?_⟩
  cases z : G (rs.map svR) M with
  | bad => rw [z] at p; exact p.elim
  | exc x M' => rw [z] at p; exact p.elim
  | ok r M' =>
    rw [z] at p
    intro w' H' v fp' e' m' q' hq
    refine p w' H' (e3.trans0 e') m' v fp' q' fun a ha => ?_
    exact e3.pm (gs := []) (fun _ z => nomatch z) (hq a ha)
theorem op2_own {C : Addr} (hC : X.mg c = some (.ref C)) : Op2 X (gOwn c G) (rOwn X C G) := by
  intro W σ w H M x y r1 r2 f1 f2 Q m q1 q2 dj p
  unfold gOwn at p
  split at p
  · rename_i hi
    obtain ⟨a, dx, fs, rfl, ha⟩ := insC_at hC m q1 hi.1
    obtain ⟨b, dy, gs, rfl, hb⟩ := insC_at hC m q2 hi.2
    refine ⟨a, b, dx, dy, fs, gs, rfl, rfl, ha, hb, ?_⟩
    have q : RRL X.K X.mg w H M [V.ref a, V.ref b] [r1, r2] (f1 ++ (f2 ++ [])) := .cons q1 (.cons q2 .nil fun _ _ z => nomatch z) (by simpa using dj)
    rw [List.append_nil] at q
    exact post_own m q p
  · exact p.elim
theorem own_run {g : Addr} (F : FOk X.prog X.w X.K X.mg X.base k g ps G) (hr : Room k X.A) {pins : List (Addr × Obj)} {s : Shared} {Q : VK} {us : List Value} {vs : List V} (I : Inv X pins σ H s) (r : Vals vs us)
    (h : spD X.K X.mg ps.length G vs H Q (fun _ _ _ => False)) : wpAny (model X.prog X.w) X.A (call (.ref g) us) (EP X pins σ Q) X.xe s := by
  obtain ⟨fd, F, hb⟩ := F
  exact run_fnS (E := fun σ => fun _ _ _ => False) F hr hb (fun pins _ s e s' I hq => by
    obtain ⟨_, _, _, _, _, _, _, _, _, _, _, _, z⟩ := hq
    exact z.elim) I r h
theorem rel_ni {v : V} {u : Value} (h : RelV v u) : u ≠ .notImplemented := fun e => by
  subst e
  cases v with
  | int _ => obtain ⟨_, h⟩ := h; cases h
  | str _ => obtain ⟨_, h⟩ := h; cases h
  | byt _ => obtain ⟨_, h⟩ := h; cases h
  | flt _ => obtain ⟨_, h⟩ := h; cases h
  | _ => cases h
theorem back_of {pins : List (Addr × Obj)} {Q : VK} {u : Value} {s' : Shared} (z : EP X pins σ Q u s') : PySem.W.CmpBack (EP X pins σ Q) u s' := by
  obtain ⟨v, H', I', rv, q⟩ := id z
  have := rel_ni rv
  cases u <;> first | exact absurd rfl this | exact z
theorem op_own {op : Operator} {C g : Addr} (hs : PySem.W.selfFirst X.K C = true) (hm : Meth X.K C (PySem.dunder op.info.2) g) (F : FOk X.prog X.w X.K X.mg X.base k g ps G) (hl : ps.length = 2) (hr : Room k X.A) : OpR X (binaryOp op) (rOwn X C G) := by
  intro pins s σ H x y v u Q I rx ry ⟨a, b, dx, dy, fs, gs, hx, hy, ha, hb, h⟩
  subst hx; subst hy
  cases rx; cases ry
  obtain ⟨mA, J, _⟩ := ins_get I.hok ha
  obtain ⟨mB, J', _⟩ := ins_get I.hok hb
  obtain ⟨od, J, _⟩ := J.look
  obtain ⟨od', J', _⟩ := J'.look
  obtain ⟨m', hF⟩ := I.fr
  refine PySem.W.binop_K hF I.ok.mod.kin J J'.type hs hm.at_ hm.fn ?_
  exact wpAny_mono (own_run F hr I (us := [.ref a, .ref b]) (vs := [.ref a, .ref b]) (.cons rfl (.cons rfl .nil)) (by rw [hl]; exact h)) (fun u s' z => back_of z) fun _ _ e => e
/-- a + b .. by the class's own def -/
theorem de_own {op : Operator} (D : OwnD X.prog X.w X.K X.mg X.base c (PySem.dunder op.info.2) k ps G) (hr : Room k X.A) (ha : DE X W a Fa) (hb : DE X W b Fb) (hl : ps.length = 2 := by rfl) : DE X W (.BinOp a op b pos) (eSeq2 (gOwn c G) Fa Fb) := by
  obtain ⟨C, g, hC, hs, hm, F⟩ := D.ex
  exact de_op (op_own hs hm F hl hr) (op2_own hC) ha hb
theorem op1_own {C : Addr} (hC : X.mg c = some (.ref C)) : Op1 X (gOwn1 c G) (rOwn1 X C G) := by
  intro W σ w H M x r1 f1 Q m q1 p
  unfold gOwn1 at p
  split at p
  · rename_i hi
    obtain ⟨a, dx, fs, rfl, ha⟩ := insC_at hC m q1 hi
    refine ⟨a, dx, fs, rfl, ha, ?_⟩
    have q : RRL X.K X.mg w H M [V.ref a] [r1] (f1 ++ []) := .cons q1 .nil fun _ _ z => nomatch z
    rw [List.append_nil] at q
    exact post_own m q p
  · exact p.elim
theorem un_own {C g : Addr} (hm : Meth X.K C "__neg__" g) (F : FOk X.prog X.w X.K X.mg X.base k g ps G) (hl : ps.length = 1) (hr : Room k X.A) : UnR X (unaryOp .USub) (rOwn1 X C G) := by
  intro pins s σ H x v Q I rx ⟨a, dx, fs, hx, ha, h⟩
  subst hx
  cases rx
  obtain ⟨mA, J, _⟩ := ins_get I.hok ha
  obtain ⟨od, J, _⟩ := J.look
  obtain ⟨m', hF⟩ := I.fr
  refine PySem.W.ksp_neg hF I.ok.mod.kin J hm.at_ hm.fn ?_
  exact own_run F hr I (us := [.ref a]) (vs := [.ref a]) (.cons rfl .nil) (by rw [hl]; exact h)
theorem de_ownNeg (D : OwnD X.prog X.w X.K X.mg X.base c "__neg__" k ps G) (hr : Room k X.A) (ha : DE X W a Fa) (hl : ps.length = 1 := by rfl) : DE X W (.UnaryOp .USub a pos) (eSeq1 (gOwn1 c G) Fa) := by
  obtain ⟨C, g, hC, hs, hm, F⟩ := D.ex
  exact de_un (un_own hm F hl hr) (op1_own hC) ha
/-- a == b by the class's own def -/
theorem op_ownEq {C g : Addr} (hm : Meth X.K C "__eq__" g) (F : FOk X.prog X.w X.K X.mg X.base k g ps G) (hl : ps.length = 2) (hr : Room k X.A) : OpR X (compareOp .Eq) (rOwn X C G) := by
  intro pins s σ H x y v u Q I rx ry ⟨a, b, dx, dy, fs, gs, hx, hy, ha, hb, h⟩
  subst hx; subst hy
  cases rx; cases ry
  obtain ⟨mA, J, _⟩ := ins_get I.hok ha
  obtain ⟨mB, J', _⟩ := ins_get I.hok hb
  obtain ⟨od, J, _⟩ := J.look
  obtain ⟨od', J', _⟩ := J'.look
  obtain ⟨m', hF⟩ := I.fr
  show wpAny (model X.prog X.w) X.A (richCompare .Eq _ _) _ _ _
  refine PySem.W.cmp_K (op := .Eq) (tb := .ref C) hr.units0 hF I.ok.mod.kin J J'.type (by simp [PySem.W.notFirst]) hm.at_ hm.fn ?_
  exact wpAny_mono (own_run F hr I (us := [.ref a, .ref b]) (vs := [.ref a, .ref b]) (.cons rfl (.cons rfl .nil)) (by rw [hl]; exact h)) (fun u s' z => back_of z) fun _ _ e => e
end
end DL

/-! DL26: != where the class writes == alone -/
namespace DL
open PySem L2 PySem.Spec PyProof.Rows PySem.W PySem.Calls Builtin
section
variable {prog : Program} {w : World} {A : Around} {E : Value → Shared → Prop} {s : Shared} {K : Frag} {x C L f : Addr} {h₀ : Heap} {m : Str → Option Value} {ox : Obj} {od : Option Obj} {b : Value}
theorem ne_builtin {Q : Value → Shared → Prop} (hu : A.units + 1 < cLine) (X : K.In s.heap) (I : InstAt s.heap x ox C od) (hob : mroIn K C (.type "object") = some true) (hs : findIn K (.ref C) "__eq__" = some (some (.ref f))) (hf : isFn K (.ref f) = true)
    (h : wpAny (model prog w) A.in1 (call (.ref f) [.ref x, b]) (fun v s' => ∃ r, v = .bool r ∧ Q (.bool (!r)) s') E s) : wpAny (model prog w) A (call (.builtin "object.__ne__") [.ref x, b]) Q E s := by
  have hi : Looks (model prog w) s.heap (isInstance (.ref x) (.type "object")) true := I.type.andThen (looks_mroIn X hob)
  refine wpAny_call (codeAny_call_builtin F.cmp_object.ne.plain F.cmpEntry_ne (check_slot F.cmpKind_ne F.cmpSplit_ne hi (F.cmpArgs_ne _ _) ?_))
  unfold Builtin.«object.__ne__»
  repeat (first
    | with_reducible refine wpAny_cRoomFor hu ?_
    | (refine wpAny_bind (m := callSpecialIfBound? (.ref x) (Str.ofString "__eq__") [b]) (ifBound_K X I hs hf (wpAny_mono h (fun r s' hr => by
          obtain ⟨b, rfl, hq⟩ := hr
          repeat (first | exact hq | exact wpAny_pure hq | exact wpAny_truthy_bool hq | (refine wpAny_bind (m := truthy (.bool _)) (wpAny_truthy_bool ?_)) | wp_step)) fun _ _ e => e)))
    | wp_step)
theorem ne_K {Q : Value → Shared → Prop} (hu : A.units + 1 < cLine) (Fm : Fr h₀ L s.heap m) (X₀ : K.In h₀) (I : InstAt s.heap x ox C od) (hb : Looks (model prog w) s.heap (typeOf b) (.ref C)) (hne : findIn K (.ref C) "__ne__" = some (some (.builtin "object.__ne__")))
    (hob : mroIn K C (.type "object") = some true) (hs : findIn K (.ref C) "__eq__" = some (some (.ref f))) (hf : isFn K (.ref f) = true)
    (h : wpAny (model prog w) A.in1 (call (.ref f) [.ref x, b]) (fun v s' => ∃ r, v = .bool r ∧ Q (.bool (!r)) s') E s) : wpAny (model prog w) A (richCompare .NotEq (.ref x) b) Q E s := by
  have X := X₀.keeps Fm.keep
  have one : wpAny (model prog w) A (tryCompare (.ref x) "__ne__" b) (fun r s' => ∃ v, r = some v ∧ Q v s') E s := by
    unfold tryCompare callSpecialIfBound? bindSpecialIfBound?
    have fin : wpAny (model prog w) A (call (.builtin "object.__ne__") ([.ref x] ++ [b]) >>= fun v => pure (some v)) (fun r s' => wpAny (model prog w) A (match r with
        | some .notImplemented | none => pure none
        | some v => pure (some v)) (fun r s' => ∃ v, r = some v ∧ Q v s') E s') E s := by
      refine wpAny_bind (ne_builtin hu X I hob hs hf (wpAny_mono h (fun v s' hv => ?_) fun _ _ e => e))
      obtain ⟨r, rfl, q⟩ := hv
      exact ⟨r, rfl, wpAny_pure (wpAny_pure ⟨_, rfl, q⟩)⟩
    refine wpAny_bind (wpAny_holding (wpAny_bind (wpAny_bind (wpAny_bind (I.type.here ((looks_findIn X hne).here ?_))))))
    refine wpAny_bind (wpAny_askSetting (wpAny_ite ?_))
    split
    · refine wpAny_bind ?_
      rw [F.cmp_object.ne.bind]
      exact wpAny_pure (wpAny_pure fin)
    · refine wpAny_tryCatch (wpAny_bind ?_)
      rw [F.cmp_object.ne.bind]
      exact wpAny_pure (wpAny_pure fin)
  unfold richCompare
  simp only [oneThing_ref]
  refine wpAny_holding (wpAny_bind (wpAny_cRoomFor (Nat.lt_of_succ_lt hu) ?_))
  refine wpAny_bind (I.type.here (wpAny_bind (hb.here ?_)))
  rw [if_neg (by simp)]
  refine wpAny_bind (wpAny_pure ?_)
  simp only [Bool.false_eq_true, if_false]
  refine wpAny_bind (wpAny_mono one (fun r s' z => ?_) fun _ _ e => e)
  obtain ⟨v, rfl, hq⟩ := z
  exact wpAny_pure hq
end
end DL

/-! DL27: a != b, the class's own == within -/
namespace DL
open PySem L2 PySem.Spec PyProof.Rows
def notB : R → Mst → Out R
  | .t (.d (.bl b)), M => .ok (.t (.d (.bl (!b)))) M
  | _, _ => .bad
def gOwnNe (c : Str) (G : Fn) : R → R → Mst → Out R := fun r1 r2 M => if insC c M r1 = true ∧ insC c M r2 = true then (noX (G [svR r1, svR r2] M)).bind notB else .bad
structure OwnNe (P : Program) (w : World) (K : PySem.W.Frag) (mg : Mg) (base : Heap) (c : Str) (k : Nat) (ps : List Str) (G : Fn) : Prop where
  ex : ∃ C f, mg c = some (.ref C) ∧ PySem.W.findIn K (.ref C) "__ne__" = some (some (.builtin "object.__ne__")) ∧ PySem.W.mroIn K C (.type "object") = some true ∧ Meth K C "__eq__" f ∧ FOk P w K mg base k f ps G
section
variable {X : Cx} {W : WX} {σ : L2.St} {fs gs : List Addr} {w w2 : Wd} {H H2 : Hp} {M M2 : Mst}
variable {e a b : Expr} {es : List Expr} {Fa Fb : Den} {pos p apos : Pos} {x m f c : Str} {k : Nat} {ps : List Str} {G : Fn}
def rOwnNe (X : Cx) (C : Addr) (G : Fn) : R2 := fun x y H Q => ∃ a b dx dy fs gs, x = .ref a ∧ y = .ref b ∧ H a = some (.ins C dx fs) ∧ H b = some (.ins C dy gs) ∧ spD X.K X.mg 2 G [x, y] H (fun v H' => ∃ r, v = .bl r ∧ Q (.bl (!r)) H') (fun _ _ _ => False)
theorem op2_ownNe {C : Addr} (hC : X.mg c = some (.ref C)) : Op2 X (gOwnNe c G) (rOwnNe X C G) := by
  intro W σ w H M x y r1 r2 f1 f2 Q m q1 q2 dj p
  unfold gOwnNe at p
  split at p
  · rename_i hi
    obtain ⟨a, dx, fs, rfl, ha⟩ := insC_at hC m q1 hi.1
    obtain ⟨b, dy, gs, rfl, hb⟩ := insC_at hC m q2 hi.2
    refine ⟨a, b, dx, dy, fs, gs, rfl, rfl, ha, hb, ?_⟩
    have q : RRL X.K X.mg w H M [V.ref a, V.ref b] [r1, r2] (f1 ++ (f2 ++ [])) := .cons q1 (.cons q2 .nil fun _ _ z => nomatch z) (by simpa using dj)
    rw [List.append_nil] at q
    refine post_own (W := W) (σ := σ) m q ?_
    show Post X W σ (f1 ++ f2) w H M (noX (G [svR r1, svR r2] M)) _
    cases z : noX (G [svR r1, svR r2] M) with
    | bad => rw [z] at p; exact p.elim
    | exc x M' =>
      exfalso
      cases y : G [svR r1, svR r2] M <;> (rw [y] at z; cases z)
    | ok r M' =>
      rw [z] at p
      have p : Post X W σ (f1 ++ f2) w H M (notB r M') (CE X (f1 ++ f2) w H M Q) := p
      unfold notB at p
      split at p
      · intro w' H' e' m' v fp' q' hq
        obtain ⟨q', _⟩ := rr_dat q'
        cases q'
        exact ⟨_, rfl, p w' H' e' m' _ [] (rr_d (.bl _)) fun _ z => nomatch z⟩
      · exact p.elim
  · exact p.elim
theorem own_runA {g : Addr} {A : Around} (hr : Room k A) (hfr : A.frames = X.A.frames) (F : FOk X.prog X.w X.K X.mg X.base k g ps G) {pins : List (Addr × Obj)} {s : Shared} {Q : VK} {us : List Value} {vs : List V} (I : Inv X pins σ H s) (r : Vals vs us)
    (h : spD X.K X.mg ps.length G vs H Q (fun _ _ _ => False)) : wpAny (model X.prog X.w) A (call (.ref g) us) (EP X pins σ Q) X.xe s := by
  obtain ⟨fd, F, hb⟩ := F
  have e0 : Env0 X.prog X.w X.K X.mg X.base A X.stack s H := by
    have e := I.env0
    exact ⟨by rw [hfr]; exact e.frames, e.mod, e.bs, e.bsz, e.funs, e.frf, e.hok, e.bare⟩
  have hl := F.len _ _ _ _ h
  refine wpAny_call (codeAny_mono (F.run A X.stack s H ⟨us, []⟩ us vs _ _ hr e0 (by
    have := hb s us I.kIn (by rw [List.append_nil, ← r.length]; exact hl)
    simpa using this) r h) fun r s' hq => ?_)
  cases r with
  | error e =>
    obtain ⟨_, _, _, _, _, _, _, _, _, _, _, _, z⟩ := hq
    exact z.elim
  | ok fl =>
    cases fl with
    | ret u =>
      obtain ⟨z, H', I', rz, ez⟩ := I.after hq
      exact ⟨z, H', I', rz, ez⟩
    | next => exact False.elim hq
    | brk => exact False.elim hq
    | cont => exact False.elim hq
theorem op_ownNe {C g : Addr} (hne : PySem.W.findIn X.K (.ref C) "__ne__" = some (some (.builtin "object.__ne__"))) (hob : PySem.W.mroIn X.K C (.type "object") = some true) (hm : Meth X.K C "__eq__" g) (F : FOk X.prog X.w X.K X.mg X.base k g ps G) (hl : ps.length = 2) (hr : Room (k + 1) X.A) : OpR X (compareOp .NotEq) (rOwnNe X C G) := by
  intro pins s σ H x y v u Q I rx ry ⟨a, b, dx, dy, fs, gs, hx, hy, ha, hb, h⟩
  subst hx; subst hy
  cases rx; cases ry
  obtain ⟨mA, J, _⟩ := ins_get I.hok ha
  obtain ⟨mB, J', _⟩ := ins_get I.hok hb
  obtain ⟨od, J, _⟩ := J.look
  obtain ⟨od', J', _⟩ := J'.look
  obtain ⟨m', hF⟩ := I.fr
  show wpAny (model X.prog X.w) X.A (richCompare .NotEq _ _) _ _ _
  refine ne_K (by have := hr.un; omega) hF I.ok.mod.kin J J'.type hne hob hm.at_ hm.fn ?_
  refine wpAny_mono (own_runA hr.in1 rfl F I (us := [.ref a, .ref b]) (vs := [.ref a, .ref b]) (.cons rfl (.cons rfl .nil)) (by rw [hl]; exact h)) (fun u s' z => ?_) fun _ _ e => e
  obtain ⟨v, H', I', rv, r, hv, q⟩ := z
  subst hv
  cases rv
  exact ⟨r, rfl, .bl (!r), H', I', rfl, q⟩
theorem de_ownNe (D : OwnNe X.prog X.w X.K X.mg X.base c k ps G) (hr : Room (k + 1) X.A) (ha : DE X W a Fa) (hb : DE X W b Fb) (hl : ps.length = 2 := by rfl) : DE X W (.Compare a [.NotEq] [b] pos) (eSeq2 (gOwnNe c G) Fa Fb) := by
  obtain ⟨C, g, hC, hne, hob, hm, F⟩ := D.ex
  exact de_cmp (op_ownNe hne hob hm F hl hr) (op2_ownNe hC) ha hb (nomark _)
theorem dt_ownNe (D : OwnNe X.prog X.w X.K X.mg X.base c k ps G) (hr : Room (k + 1) X.A) (ha : DE X W a Fa) (hb : DE X W b Fb) (hl : ps.length = 2 := by rfl) : DT X W (.Compare a [.NotEq] [b] pos) (eTB (eSeq2 (gOwnNe c G) Fa Fb)) := by
  obtain ⟨C, g, hC, hne, hob, hm, F⟩ := D.ex
  exact dt_cmp (op_ownNe hne hob hm F hl hr) (op2_ownNe hC) ha hb (nomark _)
theorem de_ownEq (D : OwnD X.prog X.w X.K X.mg X.base c "__eq__" k ps G) (hr : Room k X.A) (ha : DE X W a Fa) (hb : DE X W b Fb) (hl : ps.length = 2 := by rfl) : DE X W (.Compare a [.Eq] [b] pos) (eSeq2 (gOwn c G) Fa Fb) := by
  obtain ⟨C, g, hC, hs, hm, F⟩ := D.ex
  exact de_cmp (op_ownEq hm F hl hr) (op2_own hC) ha hb (nomark _)
theorem dt_ownEq (D : OwnD X.prog X.w X.K X.mg X.base c "__eq__" k ps G) (hr : Room k X.A) (ha : DE X W a Fa) (hb : DE X W b Fb) (hl : ps.length = 2 := by rfl) : DT X W (.Compare a [.Eq] [b] pos) (eTB (eSeq2 (gOwn c G) Fa Fb)) := by
  obtain ⟨C, g, hC, hs, hm, F⟩ := D.ex
  exact dt_cmp (op_ownEq hm F hl hr) (op2_own hC) ha hb (nomark _)
end
end DL

/-! DL28: f-strings -/
namespace DL
open PySem L2 PySem.Spec PyProof.Rows
def fmtD : D → Option Str
  | .str y => if y.length ≤ 1000000 then some y else none
  | .int i => if i.natAbs.log2 < 1920 then some (toString i) else none
  | _ => none
/-- {e} -/
def eFmt (F : Den) : Den := fun ρ M => (F ρ M).bind fun r M1 => match fmtD (frzR M1 r) with
  | some y => .ok (.t (.d (.str y))) M1
  | none => .bad
def eJs : List Den → Str → Ev → Mst → Out Str
  | [], acc, _, M => .ok acc M
  | F :: Fs, acc, ρ, M => (F ρ M).bind fun r M1 => match frzR M1 r with
    | .str y => if (acc ++ y).length ≤ 1000000 then eJs Fs (acc ++ y) ρ M1 else .bad
    | _ => .bad
/-- f'..' -/
def eFStr (Fs : List Den) : Den := fun ρ M => (eJs Fs Str.empty ρ M).bind fun y M1 => .ok (.t (.d (.str y))) M1
inductive DJ (X : Cx) (W : WX) : List Expr → List Den → Prop
  | nil : DJ X W [] []
  | cons {e : Expr} {F : Den} {es : List Expr} {Fs : List Den} : DE X W e F → DJ X W es Fs → DJ X W (e :: es) (F :: Fs)
section
variable {X : Cx} {W : WX} {σ : L2.St} {fs gs : List Addr} {w w2 : Wd} {H H2 : Hp} {M M2 : Mst}
variable {e a b : Expr} {es : List Expr} {Fe Fa Fb : Den} {Fs : List Den} {pos p apos : Pos} {x m f c : Str} {k : Nat} {ps : List Str} {G : Fn}
theorem de_fmt (h : DE X W e Fe) : DE X W (.FormattedValue e (-1) none pos) (eFmt Fe) := (pe_fmt h).mono fun σ H Q ⟨w, ρ, M, m, er, p⟩ => by
  refine ⟨w, ρ, M, m, er, p.bindF.imp fun w1 H1 M1 r _ _ z => ?_⟩
  obtain ⟨e1, m1, p1⟩ := z
  intro v fp q hf
  replace p1 := p1 fp hf
  have s := seen m1 q
  split at p1
  · rename_i y hy
    have fin : Q (.str y) H1 := p1 w1 H1 (Ext.refl m1) m1 (.str y) [] (rr_d (.str y)) fun _ z => nomatch z
    unfold fmtD at hy
    split at hy
    · rename_i y' hd
      rw [hd] at s
      cases s
      split at hy
      · rename_i hl
        cases hy
        exact .inl ⟨_, rfl, big_le hl, fin⟩
      · cases hy
    · rename_i i hd
      rw [hd] at s
      cases s
      split at hy
      · rename_i hl
        cases hy
        exact .inr ⟨_, rfl, hl, fin⟩
      · cases hy
    · cases hy
  · exact p1.elim
theorem DJ.pj (h : DJ X W es Fs) : PJ X es (Fs.map (rdE X W)) := by
  induction h with
  | nil => exact .nil
  | cons h _ ih => exact .cons h ih
theorem rd_js : ∀ (Fs : List Den) (acc : Str) (σ : L2.St) (H : Hp) (Q : Str → Hp → Prop) (w : Wd) (ρ : Ev) (M : Mst), MR X.K X.mg w H M → ER X.K X.mg w M σ ρ → Post X W σ [] w H M (eJs Fs acc ρ M) (fun _ H' _ y => Q y H') → tJs (Fs.map (rdE X W)) acc σ H Q
  | [], acc, σ, H, Q, w, ρ, M, m, er, p => p w H (Ext.refl m) m
  | F :: Fs, acc, σ, H, Q, w, ρ, M, m, er, p => by
    show rdE X W F σ H fun x H1 => ∃ y : Str, x = .str y ∧ (acc ++ y).length ≤ sizeLine ∧ tJs (Fs.map (rdE X W)) (acc ++ y) σ H1 Q
    have p : Post X W σ [] w H M ((F ρ M).bind fun r M1 => match frzR M1 r with
      | .str y => if (acc ++ y).length ≤ 1000000 then eJs Fs (acc ++ y) ρ M1 else .bad
      | _ => .bad) (fun _ H' _ y => Q y H') := p
    refine ⟨w, ρ, M, m, er, p.bindF.imp fun w1 H1 M1 r _ _ z => ?_⟩
    obtain ⟨e1, m1, p1⟩ := z
    intro v fp q hf
    replace p1 := p1 [] fun _ z => nomatch z
    have s := seen m1 q
    split at p1
    · rename_i y hd
      rw [hd] at s
      cases s
      split at p1
      · rename_i hl
        exact ⟨_, rfl, big_le hl, rd_js Fs _ σ H1 Q w1 ρ M1 m1 (er.stay e1) p1⟩
      · exact p1.elim
    · exact p1.elim
theorem de_fstr {e1 e2 : Expr} {rest : List Expr} (h : DJ X W (e1 :: e2 :: rest) Fs) : DE X W (.JoinedStr (e1 :: e2 :: rest) pos) (eFStr Fs) := (pe_joined h.pj).mono fun σ H Q ⟨w, ρ, M, m, er, p⟩ => by
  refine rd_js Fs _ σ H _ w ρ M m er ?_
  refine p.bindF.imp fun w1 H1 M1 y _ _ z => ?_
  obtain ⟨e1, m1, p1⟩ := z
  exact p1 [] (fun _ z => nomatch z) w1 H1 (Ext.refl m1) m1 (.str y) [] (rr_d (.str y)) fun _ z => nomatch z
theorem de_fstr1 (h : DE X W e Fe) : DE X W (.JoinedStr [e] pos) Fe := pe_joined1 h
end
end DL

/-! DL29: static methods by the class's name -/
namespace DL
open PySem L2 PySem.Spec PyProof.Rows
structure StatD (P : Program) (w : World) (K : PySem.W.Frag) (mg : Mg) (base : Heap) (c m : Str) (k : Nat) (ps : List Str) (G : Fn) : Prop where
  ex : ∃ C mc p g rest, mg c = some (.ref C) ∧ PySem.W.readsIn K C mc = true ∧ PySem.W.specialIn K (.ref C) "__getattribute__" = some (some (.builtin "type.__getattribute__")) ∧
    PySem.W.findCls K (.ref C) mc m = some (.get (.builtin "staticmethod.__get__") (.ref p) .none (.ref C)) ∧ PySem.W.recIn K p "staticmethod" = some (.ref g :: rest) ∧ PySem.W.keepIn K (.ref g) = true ∧ FOk P w K mg base k g ps G
section
variable {X : Cx} {W : WX} {σ : L2.St} {w w2 : Wd} {H H2 : Hp} {M M2 : Mst}
variable {e a b : Expr} {es : List Expr} {A : DenA} {pos p apos : Pos} {x m f c : Str} {k : Nat} {ps : List Str} {G : Fn}
theorem de_stat {pl : Sem Bool} (D : StatD X.prog X.w X.K X.mg X.base c m k ps G) (hr : Room k X.A) (tk : Takes X W) (hg : Gl X c) (ha : DA X W (e :: es) A)
    (hdb : (c == ("__debug__" : Str)) = false := by decide) (hst : starEach (e :: es) X.env = (false, eval e X.env) :: starEach es X.env := by rfl) (hpl : (backTo pos (starEach es X.env)).any (·.1) = false := by rfl)
    (ht : eval (.Call (.Attribute (.Name c p) m apos) (e :: es) [] pos) X.env = (do
      let ov ← eval (.Name c p) X.env
      standAt apos.atName
      let (f, first) ← holding [ov] (getMethod ov m pl)
      callWith pos f first (backTo pos (starEach (e :: es) X.env)) (backToKw pos (keywordEach [] X.env))) := by rfl) :
    DE X W (.Call (.Attribute (.Name c p) m apos) (e :: es) [] pos) (eCall G (eArity ps.length A)) := by
  obtain ⟨C, mc, sp, g, rest, hC, hrd, hga, hf, hrc, hk, F⟩ := D.ex
  refine ⟨fun pins s σ H Q I h => ?_⟩
  have h' := rd_call' h
  have nm : PE X (.Name c p) (tC (.ref C)) := pe_glob hg hC (v := .ref C) rfl hdb
  refine PySem.W.methodCall_KW (pl := pl) (thn (nm.run pins s σ H (fun x H1 => x = .ref C ∧ H1 = H) I ⟨rfl, rfl⟩) fun u s1 ⟨x, H1, I1, rx, ex, eH⟩ => ?_) ht
  subst ex; subst eH
  obtain rfl : u = Value.ref C := rx
  refine PySem.W.method_cls I1.kIn hga (PySem.W.cls_bind I1.kIn hrd hf (wpAny_call (PySem.W.sm_get (s := { s1 with toks := s1.toks + 1 }) I1.kIn hrc (PySem.W.handed_on rfl ?_))))
  refine PySem.W.callWith_K (first := []) (h₀ := X.base) I1.ok.mod.kin hk (thn (ha.run pos pins _ σ H1 _ (I1.tok _) h') fun us s2 ⟨vs, H2, I2, r, q2⟩ => ⟨I2.kIn, ?_⟩) hst hpl
  exact F.run hr tk I2 r q2
end
end DL

/-! DL30: tuples whose objects are known to have no dict; their index -/
namespace DL
open PySem L2 PySem.Spec PyProof.Rows
section
variable {X : Cx} {W : WX} {σ : L2.St} {fs gs : List Addr} {w w2 : Wd} {H H2 : Hp} {M M2 : Mst}
variable {e o : Expr} {es : List Expr} {Fo Fe : Den} {pos apos cpos : Pos} {x m f c : Str} {k : Nat} {name : Str} {id T : String} {to : TE} {t : TA} {r : V → List V → Hp → VK → Prop}
def rTupP (X : Cx) : List V → Hp → VK → Prop := fun xs H Q => ∃ p ys, xs = [.ref p] ∧ ((SqL X.K H p ys ∧ ∀ l o, H l = none → o.dict = none → Q (.ref l) (upd H l (.frz o (.tup ys)))) ∨ (SqT X.K H p ys ∧ Q (.ref p) H))
theorem call_tupleP : CallR X (.type "tuple") (rTupP X) := by
  intro pins s σ H xs us Q I r h
  obtain ⟨p, ys, rfl, h⟩ := h
  obtain ⟨u, rfl, rx⟩ := vals1 r
  cases rx
  rcases h with ⟨hq, q⟩ | ⟨hq, q⟩
  · obtain ⟨its, r', pl, hz⟩ := I.list hq
    have hlen := r'.length
    refine call_tuple_list pl.isList (fun h' kp => ?_) (by simp only [List.size_toArray] <;> omega)
    have I1 : Inv X pins σ H { s with heap := h' } := I.kept (t' := s.toks) kp
    have I2 : Inv X pins σ (upd H h'.objs.size (.frz { cls := .type "tuple", data := .seq its.toArray } (.tup ys))) { s with heap := h'.push { cls := .type "tuple", data := .seq its.toArray } } :=
      I1.laid (t' := s.toks) (fun b o e => Heap.get?_push_of_some _ e) (Nat.le_refl _) (show ObjOk X.prog X.w _ _ _ (.frz _ (.tup ys)) from ⟨Heap.get?_push_size h' rfl, hz, its, r', IsTup.new _ _⟩)
    exact ⟨.ref h'.objs.size, _, I2, rfl, q _ _ (I1.hok.fresh (Nat.le_refl _)) rfl⟩
  · obtain ⟨its, r', pl, hz⟩ := I.tuple hq
    exact call_tuple_same pl ⟨.ref p, H, I, rfl, q⟩
theorem new_frz {l : Addr} {o : HO} (m : MR X.K X.mg w H M) (hl : H l = none) : ∃ w', Ext [] w H M w' (upd H l o) M ∧ MR X.K X.mg w' (upd H l o) M ∧ Same w.F w'.F ∧ w'.F l = some o := by
  have hF : w.F l = none := by
    cases z : w.F l with
    | none => rfl
    | some u => rw [m.sub l u z] at hl; cases hl
  have sF : Same w.F (upd w.F l o) := fun a u e => by rw [upd_ne (ne_of_none e hF)]; exact e
  refine ⟨⟨upd w.F l o, w.α, w.φ⟩, ⟨sF, Nat.le_refl _, fun _ _ => rfl, fun a u e _ => by rw [upd_ne (ne_of_none e hl)]; exact e, fun j hj a ha => .inr (.inl ⟨j, hj, ha⟩), fun a h => ?_, fun a h => ?_⟩, ⟨fun a u e => ?_, fun j t e => ?_, m.dis⟩, sF, upd_same⟩
  · by_cases z : a = l
    · subst z; exact .inr (.inl hl)
    · have h : upd w.F l o a ≠ none := h
      rw [upd_ne z] at h; exact .inl h
  · by_cases z : a = l
    · subst z; exact hl
    · rw [upd_ne z] at h; exact h
  · have e : upd w.F l o a = some u := e
    by_cases z : a = l
    · subst z; rw [upd_same] at e; cases e; exact upd_same
    · rw [upd_ne z] at e ⊢; exact m.sub a u e
  · obtain ⟨q1, q2⟩ := m.obj j t e
    refine ⟨q1.stay sF fun a ha => ?_, q2⟩
    obtain ⟨g1, u, g2⟩ := q1.fp a ha
    have ne := ne_of_none g2 hl
    exact ⟨by show upd w.F l o a = none; rw [upd_ne ne]; exact g1, fun v hv => by rw [upd_ne ne]; exact hv⟩
/-- tuple(x) -/
def tuplePR : List R → Mst → Out R
  | [.t (.d (.tupP p ds))], M => .ok (.t (.d (.tupP p ds))) M
  | [r], M => (match src M r with
    | some (.l ds, M1) => .ok (.t (.d (.tupP true ds))) M1
    | _ => .bad)
  | _, _ => .bad
theorem opL_tupleP : OpL X tuplePR (rTupP X) := by
  intro W σ w H M xs rs fp Q m q p
  unfold tuplePR at p
  split at p
  · rename_i b ds
    obtain ⟨v, hv, q1⟩ := q.one
    subst hv
    obtain ⟨q1, _⟩ := rr_dat q1
    cases q1 with
    | tupP h l => exact ⟨_, _, rfl, .inr ⟨Same.seqT m.sub h.1, CE.dat p (Ext.refl m) m (.tupP h l)⟩⟩
  · rename_i r _
    obtain ⟨v, hv, q1⟩ := q.one
    subst hv
    split at p
    · rename_i ds M4 z
      obtain ⟨w4, e4, m4, a4⟩ := src_ok m q1 z
      obtain ⟨a, vs, rfl, h1, h2⟩ := a4
      refine ⟨a, vs, rfl, .inl ⟨SqL.of h1, fun l o hl hd => ?_⟩⟩
      obtain ⟨w5, e5, m5, s5, f5⟩ := new_frz (o := .frz o (.tup vs)) m4 hl
      exact p w5 _ (e4.trans0 e5) m5 (.ref l) [] (rr_d (.tupP ⟨.inl (.inr ⟨o, f5⟩), fun _ => ⟨o, .inl f5, hd⟩⟩ (h2.mono s5))) fun _ z => nomatch z
    · exact p.elim
  · exact p.elim
/-! ### a method of such a tuple -/
def PlV (K : PySem.W.Frag) (H : Hp) (x : V) : Prop := ∃ a xs o, x = .ref a ∧ SqT K H a xs ∧ (H a = some (.frz o (.tup xs)) ∨ K.lookup a = some o) ∧ o.dict = none
def tBMT (K : PySem.W.Frag) (r : V → List V → Hp → VK → Prop) (to : TE) (t : TA) : TE := fun σ H Q => to σ H fun x H1 => PlV K H1 x ∧ t σ H1 fun xs H2 => r x xs H2 Q
theorem pe_bmT (slot : Slot "tuple" name id) (hty : typeOf (.builtin id) = pure (.type "method_descriptor")) (hm : MtR X id r) (ho : PE X o to) (ha : PA X (e :: es) t)
    (hbase : attributeBase o name X.env (eval o X.env) = eval o X.env := by rfl)
    (hfew : ((backTo cpos (starEach (e :: es) X.env)).all (fun x => !x.1) && (backToKw cpos (keywordEach [] X.env)).all (fun x => x.1.isSome)
      && decide ((e :: es).length + ([] : List Keyword).length + (if ([] : List Keyword).isEmpty then 0 else 1) < 30)) = true := by rfl)
    (hline : (apos.endLine == cpos.line) = true := by rfl) (hs : starEach (e :: es) X.env = (false, eval e X.env) :: starEach es X.env := by rfl) (hplain : (backTo cpos (starEach es X.env)).any (·.1) = false := by rfl) :
    PE X (.Call (.Attribute o name apos) (e :: es) [] cpos) (tBMT X.K r to t) := by
  refine ⟨fun pins s σ H Q I h => ?_⟩
  refine wpAny_Call_method_late hbase hfew hline rfl (thn (ho.run pins s σ H _ I h) fun v s1 ⟨x, H1, I1, r1, ty, q1⟩ => ?_)
  obtain ⟨a, xs, ob, rfl, hq, hp, hd⟩ := ty
  obtain rfl : v = Value.ref a := r1
  obtain ⟨its, _, ⟨o2, g2, c2, _⟩, _⟩ := I1.tuple hq
  have hget : s1.heap.get? a = some ob := by
    rcases hp with hp | hp
    · exact (I1.hok a _ hp).1
    · exact I1.kIn a ob hp
  refine ⟨"tuple", id, PySem.F.plainAttrs_tuple, slot, hty, ⟨o2, g2, c2⟩, fun b e => by cases e; exact ⟨ob, hget, hd⟩, ?_⟩
  have hA := ha.run cpos pins s1 σ H1 _ I1 q1
  rw [hs] at hA ⊢
  refine Calls.callWith_builtin (by show (false || (backTo cpos (starEach es X.env)).any (·.1)) = false; rw [hplain] <;> rfl) (Calls.evalArgs_plain ?_)
  exact thn hA fun us s2 ⟨vs, H2, I2, r2, q2⟩ => hm pins s2 σ H2 (.ref a) vs _ us Q I2 rfl r2 q2
def idxS : List Str → Str → Option Nat
  | [], _ => none
  | y :: ys, z => if y = z then some 0 else (idxS ys z).map (· + 1)
theorem idxS_ok : ∀ {ys : List Str} {z : Str} {j : Nat}, idxS ys z = some j → ys[j]? = some z ∧ ∀ m, m < j → ys[m]? ≠ some z
  | [], _, _, e => nomatch e
  | y :: ys, z, j, e => by
    unfold idxS at e
    split at e
    · rename_i h
      cases e
      exact ⟨by rw [h]; rfl, fun m hm => absurd hm (Nat.not_lt_zero _)⟩
    · rename_i h
      cases z2 : idxS ys z with
      | none => rw [z2] at e; cases e
      | some i =>
        rw [z2] at e
        cases e
        obtain ⟨h1, h2⟩ := idxS_ok z2
        refine ⟨by simpa using h1, fun m hm => ?_⟩
        cases m with
        | zero => intro q; apply h; simpa using q
        | succ m => simpa using h2 m (by have hm : m + 1 < i + 1 := hm; omega)
/-- t.index(x) -/
def eIdx (Fo Fe : Den) : Den := fun ρ M => (Fo ρ M).bind fun r M1 => match r with
  | .t (.d (.tupP true ds)) => (Fe ρ M1).bind fun r2 M2 => (match strsD ds, frzR M2 r2 with
    | some ys, .str z => (match idxS ys z with
      | some j => .ok (.t (.d (.int (j : Nat)))) M2
      | none => .bad)
    | _, _ => .bad)
  | _ => .bad
theorem de_idx (ho : DE X W o Fo) (he : DE X W e Fe) (hbase : attributeBase o "index" X.env (eval o X.env) = eval o X.env := by rfl)
    (hfew : ((backTo cpos (starEach [e] X.env)).all (fun x => !x.1) && (backToKw cpos (keywordEach [] X.env)).all (fun x => x.1.isSome)
      && decide ([e].length + ([] : List Keyword).length + (if ([] : List Keyword).isEmpty then 0 else 1) < 30)) = true := by rfl)
    (hline : (apos.endLine == cpos.line) = true := by rfl) (hs : starEach [e] X.env = (false, eval e X.env) :: starEach [] X.env := by rfl) (hplain : (backTo cpos (starEach [] X.env)).any (·.1) = false := by rfl) :
    DE X W (.Call (.Attribute o "index" apos) [e] [] cpos) (eIdx Fo Fe) :=
  (pe_bmT PySem.F.slot_tuple_index PySem.F.type_tuple_index mt_tup_index ho (pa_cons he pa_nil hs) hbase hfew hline hs hplain).mono fun σ H Q ⟨w, ρ, M, m, er, p⟩ => by
    refine ⟨w, ρ, M, m, er, p.bindF.imp fun w1 H1 M1 r _ _ z => ?_⟩
    obtain ⟨e1, m1, p1⟩ := z
    intro v fp q hf
    replace p1 := p1 [] fun _ z => nomatch z
    split at p1
    · rename_i ds
      obtain ⟨q, _⟩ := rr_dat q
      cases q with
      | @tupP _ a xs _ h l =>
        obtain ⟨ob, hp, hd⟩ := h.2 rfl
        refine ⟨⟨a, xs, ob, rfl, Same.seqT m1.sub h.1, hp.imp (m1.sub a _) id, hd⟩, w1, ρ, M1, m1, er.stay e1, (Post.bindF p1).imp fun w2 H2 M2 r2 _ _ z => ?_⟩
        obtain ⟨e2, m2, p2⟩ := z
        intro v2 f2 q2 hf2
        replace p2 := p2 [] fun _ z => nomatch z
        have s := seen m2 q2
        split at p2
        · rename_i ys z2 hy hz
          rw [hz] at s
          cases s
          split at p2
          · rename_i j hj
            obtain ⟨k1, k2⟩ := idxS_ok hj
            refine ⟨a, ys, _, j, rfl, rfl, ?_, k1, k2, p2 w2 H2 (Ext.refl m2) m2 _ [] (rr_d (.int _)) fun _ z => nomatch z⟩
            rw [← strs_at l hy]
            exact Same.seqT (e2.F.trans m2.sub) h.1
          · exact p2.elim
        · exact p2.elim
    · exact p1.elim
end
end DL

/-! DL31: isinstance(o, C), C a class of the text -/
namespace DL
open PySem L2 PySem.Spec PyProof.Rows
structure IsC (K : PySem.W.Frag) (mg : Mg) (c : Str) : Prop where
  ex : ∃ C, mg c = some (.ref C) ∧ Cls K C ∧ PySem.W.findIn K (.ref C) "__class__" = some (some (.builtin "object.__class__")) ∧ PySem.W.specialIn K (.builtin "object.__class__") "__get__" = some (some (.builtin "getset_descriptor.__get__")) ∧
    PySem.W.takesIn K (.builtin "object.__class__") = some true ∧ PySem.W.mroIn K C (.type "object") = some true
theorem IsC.glo {K : PySem.W.Frag} {mg : Mg} {c : Str} (h : IsC K mg c) : ∃ a, mg c = some (.ref a) := h.ex.imp fun _ q => q.1
def isiCR (c0 : Str) : List R → Mst → Out R
  | [r, .t (.d (.glo c))], M => if c = c0 ∧ insC c M r = true then .ok (.t (.d (.bl true))) M else .bad
  | _, _ => .bad
section
variable {X : Cx} {W : WX} {σ : L2.St} {w w2 : Wd} {H H2 : Hp} {M M2 : Mst} {x : Str} {p : Pos}
theorem de_glo (h : ∃ a, X.mg x = some (.ref a)) (hg : Gl X x) (hd : (x == ("__debug__" : Str)) = false := by decide) : DE X W (.Name x p) (eC (.glo x)) :=
  let ⟨a, h⟩ := h; de_const (v := .ref a) (pe_glob hg h rfl hd) fun F => .glo h
theorem opL_isiC {c0 : Str} (D : IsC X.K X.mg c0) : OpL X (isiCR c0) (rIsi X.K) := by
  obtain ⟨C, hC0, cl, k1, k2, k3, k4⟩ := D.ex
  intro W σ w H M xs rs fp Q m q p
  unfold isiCR at p
  split at p
  · rename_i r c
    obtain ⟨v, v', f, f', rfl, q1, q2, _, _⟩ := q.two
    split at p
    · rename_i hi
      obtain ⟨rfl, hi⟩ := hi
      obtain ⟨q2, _⟩ := rr_dat q2
      cases q2 with
      | @glo _ a' hC =>
        obtain rfl : C = a' := by rw [hC0] at hC; cases hC; rfl
        obtain ⟨a, dx, fs, rfl, ha⟩ := insC_at hC0 m q1 hi
        exact ⟨.ref a, .ref C, .ref C, .ref C, true, rfl, .own C, .base (.ins ha cl k1 k2 k3 k4), by unfold PySem.W.kitOne; rw [if_pos (by simp)], (p.now m).val (C := fun _ => r) (.bl _)⟩
    · exact p.elim
  · exact p.elim
end
end DL

/-! DL32: what is not None of a display of trees, kept as trees; a loop over trees that spoils pairs of lists -/
namespace DL
open PySem L2 PySem.Spec PyProof.Rows
def keepT : List T → Option (List T)
  | [] => some []
  | .d x :: r => if isNonD x = true then keepT r else none
  | .lst a :: r => (keepT r).map (T.lst a :: ·)
  | .tup a :: r => (keepT r).map (T.tup a :: ·)
  | .ins c f :: r => (keepT r).map (T.ins c f :: ·)
  | .dic f :: r => (keepT r).map (T.dic f :: ·)
def keepV (vs : List V) : List V := vs.filter fun v => !decide (v = .non)
section
variable {K : PySem.W.Frag} {mg : Mg} {F H H' : Hp}
theorem isNon_v {v : V} {x : D} (h : Dp K mg F v x) (e : isNonD x = true) : v = .non := by
  cases h with
  | non => rfl
  | _ => cases e
theorem keepV_non (vs : List V) : keepV (.non :: vs) = keepV vs := rfl
theorem keepV_ref (a : Addr) (vs : List V) : keepV (.ref a :: vs) = .ref a :: keepV vs := rfl
theorem trl_keep : ∀ {vs : List V} {ts us : List T} {fp : List Addr}, TRL K mg F H vs ts fp → keepT ts = some us → fp.Nodup → ∃ fp', TRL K mg F H (keepV vs) us fp' ∧ (∀ a ∈ fp', a ∈ fp) ∧ fp'.Nodup
  | _, _, us, _, .nil, e, nd => by
    have e : some [] = some us := e
    cases e
    exact ⟨[], .nil, fun _ z => z, nd⟩
  | _, _, us, _, .cons (t := t) (ts := ts) (f1 := f1) (f2 := f2) h r, e, nd => by
    obtain ⟨n1, n2, n3⟩ := List.nodup_append.mp nd
    have go : ∀ a : Addr, keepT (t :: ts) = (keepT ts).map (t :: ·) → TR K mg F H (.ref a) t f1 → ∃ fp', TRL K mg F H (keepV (.ref a :: _)) us fp' ∧ (∀ a ∈ fp', a ∈ f1 ++ f2) ∧ fp'.Nodup := fun a e2 h => by
      rw [e2] at e
      cases z : keepT ts with
      | none => rw [z] at e; cases e
      | some us' =>
        rw [z] at e
        cases e
        obtain ⟨fp', q, s, n⟩ := trl_keep r z n2
        refine ⟨f1 ++ fp', .cons h q, fun b hb => ?_, List.nodup_append.mpr ⟨n1, n, fun x hx y hy => n3 x hx y (s y hy)⟩⟩
        rcases List.mem_append.mp hb with z | z
        · exact List.mem_append_left _ z
        · exact List.mem_append_right _ (s b z)
    cases h with
    | @d v x hd =>
      have e : (if isNonD x = true then keepT ts else none) = some us := e
      split at e
      · rename_i hx
        obtain rfl := isNon_v hd hx
        obtain ⟨fp', q, s, n⟩ := trl_keep r e n2
        exact ⟨fp', q, fun b hb => s b hb, n⟩
      · cases e
    | lst h1 h2 h3 => exact go _ rfl (.lst h1 h2 h3)
    | tup h1 h2 h3 => exact go _ rfl (.tup h1 h2 h3)
    | ins h1 h2 hm h3 => exact go _ rfl (.ins h1 h2 hm h3)
    | dic h1 h2 h3 => exact go _ rfl (.dic h1 h2 h3)
theorem keepV_len (vs : List V) : (keepV vs).length ≤ vs.length := List.length_filter_le ..
theorem keepV_take {vs : List V} {i : Nat} {v : V} (h : vs[i]? = some v) : keepV (vs.take (i + 1)) = if v = .non then keepV (vs.take i) else keepV (vs.take i) ++ [v] := by
  rw [List.take_add_one, h]
  unfold keepV
  rw [List.filter_append]
  by_cases e : v = .non
  · rw [if_pos e]; subst e; simp
  · rw [if_neg e]; simp [e]
end
def eKeep (F : Den) : Den := fun ρ M => (F ρ M).bind fun r M1 => match r with
  | .t (.lst ts) => if ts.length ≤ 1000000 then (match keepT ts with
    | some us => .ok (.t (.lst us)) M1
    | none => .bad) else .bad
  | _ => .bad
section
variable {X : Cx} {W : WX} {σ : L2.St} {fs gs : List Addr} {w w2 : Wd} {H H2 : Hp} {M M2 : Mst}
variable {elt tg iter e e2 : Expr} {ifs : List Expr} {scope : Scope} {own : List (Str × Nat)} {pos p : Pos} {F : Den} {own2 : List Nat} {j : Nat}
theorem rd_keep {Q : VK} (hj : j ∈ own2) (hl : j < σ.length) (h : rdE X W (eKeep F) σ H Q) : tLc (iList X.K (rdE X W F)) (gName j) (tTest (tOp (fun x y H Q => y = .non ∧ Q (.bl (!decide (x = .non))) H) (tVar j) (tC .non))) (tVar j) own2 σ H Q := by
  obtain ⟨w, ρ, M, m, er, p⟩ := h
  refine ⟨w, ρ, M, m, er, p.bindF.imp fun w1 H1 M1 r _ _ z => ?_⟩
  obtain ⟨e1, m1, p1⟩ := z
  intro v fp q hf
  replace p1 := p1 fp hf
  cases r with
  | h k => exact p1.elim
  | t x =>
    cases x with
    | lst ts =>
      have p1 : Post X W σ fp w1 H1 M1 (if ts.length ≤ 1000000 then (match keepT ts with
        | some us => .ok (.t (.lst us)) M1
        | none => .bad) else .bad) (CE X [] w H M Q) := p1
      obtain ⟨q1, q2, q3⟩ := q
      cases q1 with
      | @lst a vs _ fl g1 g2 g3 =>
        split at p1
        · rename_i hlen
          cases z : keepT ts with
          | none => rw [z] at p1; exact p1.elim
          | some us =>
            rw [z] at p1
            have p1 : Post X W σ (a :: fl) w1 H1 M1 (.ok (.t (.lst us)) M1) (CE X [] w H M Q) := p1
            obtain ⟨nd1, nd2⟩ := List.nodup_cons.mp q2
            obtain ⟨fp', t1, t2, t3⟩ := trl_keep g3 z nd2
            refine ⟨a, rfl, ⟨vs, SqL.of g1⟩, fun L hL => ?_⟩
            have vlen : vs.length = ts.length := g3.length
            have dj : ∀ b ∈ fp', ∀ k, k < M1.length → b ∉ w1.φ k := fun b hb => q3 b (List.mem_cons_of_mem _ (t2 b hb))
            have seq : ∀ ws : List V, upd H1 L (.lst ws) a = some (.lst vs) := fun ws => by rw [upd_ne (ne_of_none g1 hL)]; exact g1
            refine ⟨fun i mm H' => i ≤ vs.length ∧ mm = vs.length - i ∧ H' = upd H1 L (.lst (keepV (vs.take i))), ⟨_, Nat.zero_le _, rfl, rfl⟩, ?_⟩
            rintro i mm H' ⟨hi, rfl, rfl⟩
            by_cases hlt : i < vs.length
            · refine .inr ⟨⟨vs, vs[i], SqL.of (seq _), List.getElem?_eq_getElem hlt⟩, fun H2 => H2 = upd H1 L (.lst (keepV (vs.take (i + 1)))), fun H2 e2 => ⟨_, by omega, hlt, rfl, e2⟩, fun x H2 ⟨e2, y⟩ => ?_⟩
              subst e2
              have hx : vs[i]? = some x := y vs (SqL.of (seq _))
              refine ⟨?_, ?_⟩
              · exact (wipe_set hj).trans (wipe_wipe σ own2)
              · have hl' : j < (L2.wipe σ own2).length := by rw [L2.wipe_length]; exact hl
                refine ⟨x, List.getElem?_set_self hl', rfl, _, rfl, ?_⟩
                rw [keepV_take hx]
                by_cases e3 : x = .non
                · rw [if_pos e3, decide_eq_true e3]
                  exact iteF rfl
                · rw [if_neg e3, decide_eq_false e3]
                  refine (if_pos rfl).mpr ⟨x, List.getElem?_set_self hl', _, upd_same, ?_, by rw [upd_upd]⟩
                  have := keepV_len (vs.take i)
                  rw [List.length_take] at this
                  have := big_le hlen
                  omega
            · have hi' : i = vs.length := by omega
              refine .inl ⟨⟨vs, SqL.of (seq _), by omega⟩, ?_⟩
              rw [hi', List.take_length]
              refine p1 w1 _ (Ext.new m1 hL) (m1.new hL) _ (L :: fp') (RR.newL m1 hL t1 t3 dj) fun b hb => ?_
              rcases List.mem_cons.mp hb with rfl | hb
              · exact .inl (e1.there _ hL)
              · exact hf b (List.mem_cons_of_mem _ (t2 b hb))
        · exact p1.elim
    | _ => exact p1.elim
variable {i x : Nat} {y nx np : Str} {py spos : Pos} {tg0 : Expr}
/-- y = [p for p in E if p is not None], the items trees that are changed later -/
theorem ds_keep {Gd : DenG} (hGd : ∀ v σ H Q, rdG X W Gd v σ H Q → gName i v σ H Q) (hc : X.calm = true) (hN : X.N.Nodup) (hy : X.N[i]? = some y) (hyl : X.env.scope.names.lookup y = some .local)
    (hsw : swapsWith (.ListComp elt [⟨tg, iter, ifs, 0⟩] scope pos) (some (.Name y py)) spos.line X.env = pure true) (hi : DE X W iter F) (ok : BlkOk X.N X.env.scope scope own)
    (hg : ∀ (s : Shared) (H : Hp) (C : Addr) (cl : List (Str × Addr)) (fp : List Addr), PG (Blk X scope s H C cl fp) tg (gName j))
    (ht : ∀ (s : Shared) (H : Hp) (C : Addr) (cl : List (Str × Addr)) (fp : List Addr), PTs (Blk X scope s H C cl fp) ifs (tTest (tOp (fun x y H Q => y = .non ∧ Q (.bl (!decide (x = .non))) H) (tVar j) (tC .non))))
    (he : ∀ (s : Shared) (H : Hp) (C : Addr) (cl : List (Str × Addr)) (fp : List Addr), PE (Blk X scope s H C cl fp) elt (tVar j)) (ho : own.map (·.2) = own2 := by rfl) (hj : j ∈ own2 := by decide) (hjN : j < X.N.length := by decide) (hs : ∀ x, foldedSetIterable iter X.env x = pure x := by intro _; rfl) :
    DS X W (.Assign [.Name y py] (.ListComp elt [⟨tg, iter, ifs, 0⟩] scope pos) spos) (sAsg (eKeep F) Gd) := by
  subst ho
  refine ⟨fun pins s σ H D I h => (ps_setLc (wi := iList X.K (rdE X W F)) hc hN hy hyl hsw (pi_list hi) ok hg ht he hs).run pins s σ H D I ?_⟩
  have hl : j < σ.length := by rw [I.len]; exact hjN
  exact rd_keep hj hl (rd_asg hGd h)
end
/-! ### a loop over the trees of a list: each a tuple of two lists; the first gets None, the second is cleared -/
def spoil1 : T → Option T
  | .tup [.lst xs, .lst ys] => if xs.length + 1 ≤ 1000000 then some (.tup [.lst (xs ++ [.d .non]), .lst []]) else none
  | _ => none
def spoilL : List T → Option (List T)
  | [] => some []
  | t :: r => match spoil1 t, spoilL r with
    | some u, some us => some (u :: us)
    | _, _ => none
def sSpoil (x p : Nat) : DenS := fun ρ M => match ρ[x]? with
  | some (some (.h k)) => (match M[k]? with
    | some (.lst ts) => (match spoilL ts with
      | some us => some (.nx (ρ.set p none), M.set k (.lst us))
      | none => none)
    | _ => none)
  | _ => none
theorem spoilL_len : ∀ {ts us : List T}, spoilL ts = some us → us.length = ts.length
  | [], us, e => by cases e; rfl
  | t :: r, us, e => by
    unfold spoilL at e
    split at e
    · rename_i u us' h1 h2
      cases e
      simp [spoilL_len h2]
    · cases e
theorem spoilL_at : ∀ {ts us : List T} {i : Nat} {t : T}, spoilL ts = some us → ts[i]? = some t → ∃ u, spoil1 t = some u ∧ us[i]? = some u
  | [], us, i, t, e, h => by simp at h
  | t' :: r, us, i, t, e, h => by
    unfold spoilL at e
    split at e
    · rename_i u us' h1 h2
      cases e
      cases i with
      | zero => simp at h; subst h; exact ⟨u, h1, rfl⟩
      | succ i =>
        obtain ⟨u', k1, k2⟩ := spoilL_at h2 (by simpa using h)
        exact ⟨u', k1, by simpa using k2⟩
    · cases e
/-- the first i are spoilt -/
def mixT (i : Nat) (us ts : List T) : List T := us.take i ++ ts.drop i
theorem mix_at {i : Nat} {us ts : List T} (hl : us.length = ts.length) (hi : i < ts.length) : (mixT i us ts)[i]? = ts[i]? := by
  unfold mixT
  rw [List.getElem?_append_right (by rw [List.length_take]; omega), List.length_take, List.getElem?_drop]
  congr 1
  omega
theorem mix_next {i : Nat} {us ts : List T} {u : T} (hl : us.length = ts.length) (hi : i < ts.length) (hu : us[i]? = some u) : (mixT i us ts).set i u = mixT (i + 1) us ts := by
  unfold mixT
  rw [List.set_append_right _ _ (by rw [List.length_take]; omega), List.length_take, Nat.min_eq_left (by omega), Nat.sub_self, List.drop_eq_getElem_cons hi, List.set_cons_zero, List.take_add_one, hu]
  simp
section
variable {X : Cx} {W : WX} {σ : L2.St} {w w2 : Wd} {H H2 : Hp} {M M2 : Mst}
theorem pair_at {k i : Nat} {ts : List T} {xs ys : List T} (hM : M[k]? = some (.lst ts)) (h : ts[i]? = some (.tup [.lst xs, .lst ys])) : atL M (k, [.i i]) = some (.tup [.lst xs, .lst ys]) ∧ atL M (k, [.i i, .i 0]) = some (.lst xs) ∧ atL M (k, [.i i, .i 1]) = some (.lst ys) := by
  refine ⟨?_, ?_, ?_⟩ <;>
  · unfold atL
    show (match M[k]? with
      | some t => subT _ t
      | none => none) = _
    rw [hM]
    show (match ts[i]? with
      | some t => subT _ t
      | none => none) = _
    rw [h]; rfl
theorem set_pair0 {k i : Nat} {ts : List T} {xs ys xs' : List T} (hM : M[k]? = some (.lst ts)) (h : ts[i]? = some (.tup [.lst xs, .lst ys])) : setL M (k, [.i i, .i 0]) (.lst xs') = M.set k (.lst (ts.set i (.tup [.lst xs', .lst ys]))) := by
  unfold setL
  show (match M[k]? with
    | some t => M.set k (setP [.i i, .i 0] t (.lst xs'))
    | none => M) = _
  rw [hM]
  show M.set k (match ts[i]? with
    | some t => .lst (ts.set i (setP [.i 0] t (.lst xs')))
    | none => .lst ts) = _
  rw [h]; rfl
theorem set_pair1 {k i : Nat} {ts : List T} {xs ys ys' : List T} (hM : M[k]? = some (.lst ts)) (h : ts[i]? = some (.tup [.lst xs, .lst ys])) : setL M (k, [.i i, .i 1]) (.lst ys') = M.set k (.lst (ts.set i (.tup [.lst xs, .lst ys']))) := by
  unfold setL
  show (match M[k]? with
    | some t => M.set k (setP [.i i, .i 1] t (.lst ys'))
    | none => M) = _
  rw [hM]
  show M.set k (match ts[i]? with
    | some t => .lst (ts.set i (setP [.i 1] t (.lst ys')))
    | none => .lst ts) = _
  rw [h]; rfl
/-- where the i-th pair stands -/
theorem pair_v {k i : Nat} {ts : List T} {xs ys : List T} (m : MR X.K X.mg w H M) (hM : M[k]? = some (.lst ts)) (h : ts[i]? = some (.tup [.lst xs, .lst ys])) :
    ∃ vs b a1 a2, H (w.α k) = some (.lst vs) ∧ vs.length = ts.length ∧ vs[i]? = some (.ref b) ∧ H b = some (.tup [.ref a1, .ref a2]) ∧ pathV H [.i i, .i 0] (.ref (w.α k)) = some (.ref a1) ∧ pathV H [.i i, .i 1] (.ref (w.α k)) = some (.ref a2) := by
  obtain ⟨q, _⟩ := m.obj k _ hM
  generalize hα : w.α k = α at q
  generalize w.φ k = φ at q
  cases q with
  | @lst _ vs _ fl g1 g2 g3 =>
    obtain ⟨v, f1, fm, f2, e1, _, e3, _⟩ := trl_at g3 h
    cases e3 with
    | @tup b us _ fl' k1 k2 k3 =>
      cases k3 with
      | @cons v1 vs1 _ _ _ _ t1 r1 =>
        cases r1 with
        | @cons v2 vs2 _ _ _ _ t2 r2 =>
          cases r2
          cases t1 with
          | @lst a1 _ _ _ _ _ _ =>
            cases t2 with
            | @lst a2 _ _ _ _ _ _ =>
              refine ⟨vs, b, a1, a2, g1, g3.length, e1, k1, ?_, ?_⟩
              · rw [pathV_lst g1 e1, pathV_tup k1 (show [V.ref a1, V.ref a2][0]? = some (V.ref a1) from rfl)]; rfl
              · rw [pathV_lst g1 e1, pathV_tup k1 (show [V.ref a1, V.ref a2][1]? = some (V.ref a2) from rfl)]; rfl
theorem ds_spoil {tg iter : Expr} {bd : List Stmt} {pos : Pos} {x p : Nat} (hp : PassesOwn (model X.prog X.w) X.A X.env X.xe) (hc : X.calm = true) (hxp : x ≠ p) (hi : PE X iter (tVar x)) (hg : PG X tg (gName p))
    (hb : PSs X bd (tSeq (tDrop (tBM X.K "list" rAppend (tOp (rIx X.K) (tVar p) (tC (.int 0))) (tCons (tC .non) tNil))) (tDrop (tBM0 X.K "list" rClear (tOp (rIx X.K) (tVar p) (tC (.int 1)))))))
    (hs : ∀ x, foldedSetIterable iter X.env x = pure x := by intro _; rfl) (hpN : p < X.N.length := by decide) : DS X W (.For tg iter bd [] pos) (sSpoil x p) := by
  refine ⟨fun pins s σ H Dn I h => (ps_for hp hc (pi_list hi) hg hb hs).run pins s σ H Dn I ?_⟩
  have hpl : p < σ.length := by rw [I.len]; exact hpN
  obtain ⟨w, ρ, M, m, er, q⟩ := h
  unfold sSpoil at q
  split at q
  · rename_i k hk
    split at q
    · rename_i ts hts
      split at q
      · rename_i us hus
        obtain ⟨v, hv, hkl, rfl⟩ := er.at_ x _ hk
        have ul := spoilL_len hus
        obtain ⟨q0, _⟩ := m.obj k _ hts
        have sl : ∃ vs, H (w.α k) = some (.lst vs) := by
          generalize w.α k = α at q0
          generalize w.φ k = φ at q0
          cases q0 with
          | @lst _ vs _ fl g1 g2 g3 => exact ⟨vs, g1⟩
        obtain ⟨vs0, hvs0⟩ := sl
        refine ⟨_, hv, w.α k, rfl, ⟨vs0, SqL.of hvs0⟩, ?_⟩
        have q : ∀ w' H' σ', Ext [] w H M w' H' (M.set k (.lst us)) → MR X.K X.mg w' H' (M.set k (.lst us)) → ER X.K X.mg w' (M.set k (.lst us)) σ' (ρ.set p none) → Dn.nx σ' H' := q
        refine ⟨fun i mm σ' H' => i ≤ ts.length ∧ mm = ts.length - i ∧ σ'.length = σ.length ∧ (∀ j, j ≠ p → σ'[j]? = σ[j]?) ∧ ∃ w', Ext [] w H M w' H' (M.set k (.lst (mixT i us ts))) ∧ MR X.K X.mg w' H' (M.set k (.lst (mixT i us ts))),
          ⟨_, Nat.zero_le _, rfl, rfl, fun _ _ => rfl, w, ?_, ?_⟩, ?_⟩
        · have e0 : M.set k (.lst (mixT 0 us ts)) = M := by
            unfold mixT
            simp only [List.take_zero, List.drop_zero, List.nil_append]
            apply List.ext_getElem?
            intro z
            rw [List.getElem?_set]
            split
            · rename_i e; subst e; first | exact hts.symm | (rw [if_pos hkl]; exact hts.symm)
            · rfl
          rw [e0]; exact Ext.refl m
        · have e0 : M.set k (.lst (mixT 0 us ts)) = M := by
            unfold mixT
            simp only [List.take_zero, List.drop_zero, List.nil_append]
            apply List.ext_getElem?
            intro z
            rw [List.getElem?_set]
            split
            · rename_i e; subst e; first | exact hts.symm | (rw [if_pos hkl]; exact hts.symm)
            · rfl
          rw [e0]; exact m
        · rintro i mm σ' H' ⟨hil, rfl, hσl, hσ, w', e', m'⟩
          have hkl' : k < (M.set k (.lst (mixT i us ts))).length := by rw [List.length_set]; exact hkl
          have hMk : (M.set k (.lst (mixT i us ts)))[k]? = some (.lst (mixT i us ts)) := List.getElem?_set_self hkl
          have hα : w'.α k = w.α k := e'.al k hkl
          by_cases hlt : i < ts.length
          · obtain ⟨t, ht⟩ : ∃ t, ts[i]? = some t := ⟨ts[i], List.getElem?_eq_getElem hlt⟩
            obtain ⟨u, hu1, hu2⟩ := spoilL_at hus ht
            unfold spoil1 at hu1
            split at hu1
            · rename_i xs ys
              split at hu1
              · rename_i hcap
                cases hu1
                have hmi : (mixT i us ts)[i]? = some (.tup [.lst xs, .lst ys]) := (mix_at ul hlt).trans ht
                obtain ⟨vs, b, a1, a2, c1, c2, c3, c4, c5, c6⟩ := pair_v m' hMk hmi
                rw [hα] at c1 c5 c6
                refine .inr ⟨⟨vs, .ref b, SqL.of c1, c3⟩, fun σ2 H2 => σ2.length = σ.length ∧ (∀ j, j ≠ p → σ2[j]? = σ[j]?) ∧ ∃ w2, Ext [] w H M w2 H2 (M.set k (.lst (mixT (i + 1) us ts))) ∧ MR X.K X.mg w2 H2 (M.set k (.lst (mixT (i + 1) us ts))), fun σ2 H2 ⟨z1, z2, z3⟩ => ⟨_, by omega, hlt, rfl, z1, z2, z3⟩, fun v H2 ⟨e2, y⟩ => ?_⟩
                subst e2
                have hvb := y vs (SqL.of c1)
                rw [c3] at hvb
                cases hvb
                have hp' : p < σ'.length := by rw [hσl]; exact hpl
                show tSeq _ _ _ (σ'.set p (some (.ref b))) H2
                obtain ⟨p1, p2, p3⟩ := pair_at hMk hmi
                obtain ⟨a, vs1, fl1, h1, h2, h3, h4, h5, hk6, h6⟩ := put_loc m' p2
                have h1 : pathV H2 [.i i, .i 0] (.ref (w'.α k)) = some (.ref a) := h1
                rw [hα, c5] at h1
                cases h1
                obtain ⟨w4, e4, m4⟩ := h6 (vs1 ++ [.non]) (xs ++ [.d .non]) (fl1 ++ ([] ++ [])) [] (trl_app h3 (.cons (.d .non) .nil)) (by simpa using (List.nodup_cons.mp h4).2) fun b hb => .inl (by simpa using hb)
                rw [set_pair0 hMk hmi, List.set_set] at e4 m4
                refine ⟨.ref b, List.getElem?_set_self hp', .inr (.inl ⟨b, _, 0, .ref a1, rfl, rfl, SqT.of c4, rfl, lst_ty h2, a1, vs1, .non, rfl, rfl, h2, ?_, ?_⟩)⟩
                · rw [h3.length]; have := big_le hcap; omega
                · have hMk2 : (M.set k (.lst ((mixT i us ts).set i (.tup [.lst (xs ++ [.d .non]), .lst ys]))))[k]? = some (.lst ((mixT i us ts).set i (.tup [.lst (xs ++ [.d .non]), .lst ys]))) := List.getElem?_set_self hkl
                  have hil2 : i < (mixT i us ts).length := (List.getElem?_eq_some_iff.mp hmi).1
                  have hmi2 : ((mixT i us ts).set i (.tup [.lst (xs ++ [.d .non]), .lst ys]))[i]? = some (.tup [.lst (xs ++ [.d .non]), .lst ys]) := List.getElem?_set_self hil2
                  have hα4 : w4.α k = w.α k := (e4.al k hkl').trans hα
                  obtain ⟨vs', b', a1', a2', d1, d2, d3, d4, d5, d6⟩ := pair_v m4 hMk2 hmi2
                  rw [hα4] at d1 d5 d6
                  have nb : ∀ {z : Addr} {o : HO}, H2 z = some o → (∀ l, o ≠ .lst l) → upd H2 a1 (.lst (vs1 ++ [.non])) z = some o := fun {z o} hz hn => by
                    rw [upd_ne (fun e => by rw [e, h2] at hz; cases hz; exact hn _ rfl)]; exact hz
                  have na : w.α k ≠ a1 := fun e => by
                    have d0 := pathV_lst (H := H2) (π := [.i 0]) c1 c3
                    rw [c5] at d0
                    have hb4 := nb c4 (fun _ z => nomatch z)
                    rw [e, upd_same] at d1
                    injection d1 with d1
                    injection d1 with d1
                    rw [e, h2] at c1
                    injection c1 with c1
                    injection c1 with c1
                    subst c1
                    have := congrArg List.length d1
                    rw [List.length_append, d2, List.length_set, ← c2] at this
                    simp at this
                  rw [upd_ne na, c1] at d1
                  cases d1
                  rw [c3] at d3
                  cases d3
                  rw [nb c4 (fun _ z => nomatch z)] at d4
                  cases d4
                  obtain ⟨r1, r2, r3⟩ := pair_at hMk2 hmi2
                  obtain ⟨a', vs2, fl2, g1, g2, g3, g4, g5, gk6, g6⟩ := put_loc m4 r3
                  have g1 : pathV (upd H2 a1 (.lst (vs1 ++ [.non]))) [.i i, .i 1] (.ref (w4.α k)) = some (.ref a') := g1
                  rw [hα4, d6] at g1
                  cases g1
                  obtain ⟨w5, e5, m5⟩ := g6 [] [] [] [] .nil List.nodup_nil fun _ z => nomatch z
                  rw [set_pair1 hMk2 hmi2, List.set_set, List.set_set, mix_next ul hlt hu2] at e5 m5
                  refine ⟨.ref b, List.getElem?_set_self hp', .inr (.inl ⟨b, _, 1, .ref a2, rfl, rfl, SqT.of (nb c4 (fun _ z => nomatch z)), rfl, lst_ty g2, a2, vs2, rfl, rfl, g2, ?_⟩)⟩
                  exact ⟨by rw [List.length_set]; exact hσl, fun j hj => by rw [List.getElem?_set_ne (Ne.symm hj)]; exact hσ j hj, w5, (e'.trans0 e4).trans0 e5, m5⟩
              · cases hu1
            · cases hu1
          · have hi' : i = ts.length := by omega
            have em : mixT i us ts = us := by
              unfold mixT
              rw [hi', List.drop_length, List.append_nil, ← ul, List.take_length]
            rw [em] at e' m' hMk
            refine .inl ⟨?_, ?_⟩
            · obtain ⟨q1, _⟩ := m'.obj k _ hMk
              rw [hα] at q1
              generalize hz : w.α k = α at q1
              generalize w'.φ k = φ at q1
              cases q1 with
              | @lst _ vs _ fl g1 g2 g3 => exact ⟨vs, SqL.of g1, by rw [g3.length, ul]; omega⟩
            · refine q w' H' σ' e' m' ⟨by rw [hσl, List.length_set]; exact er.len, fun j y hy => ?_⟩
              have hjp : j ≠ p := fun e => by
                rw [e] at hy
                by_cases z : p < ρ.length
                · rw [List.getElem?_set_self z] at hy; cases hy
                · rw [List.getElem?_eq_none (by simpa using z)] at hy; cases hy
              rw [List.getElem?_set_ne (Ne.symm hjp)] at hy
              obtain ⟨v, h1, h2⟩ := er.at_ j y hy
              exact ⟨v, (hσ j hjp).trans h1, h2.stay e'⟩
      · exact q.elim
    · exact q.elim
  · exact q.elim
end
/-! ### x in (A, B): data of any depth in a tuple -/
section
variable {X : Cx}
def rInT (K : PySem.W.Frag) : R2 := fun x y H Q => ∃ d ds, L2.Dp K H x d ∧ L2.Dp K H y (.tuple ds) ∧ SeqAt.shaped d = true ∧ SeqAt.shaped (.list ds) = true ∧ Q (.bl (ds.any fun z => PyData.eqv z d)) H
theorem op_inT (hu : X.A.units + 65 < cLine) : OpR X (compareOp .In) (rInT X.K) := by
  intro pins s σ H x y v u Q I rx ry h
  obtain ⟨d, ds, hd, he, sd, se, q⟩ := h
  obtain ⟨as, r1⟩ := L2.Dp.reads I d x v hd rx
  obtain ⟨bs, r2⟩ := L2.Dp.reads I (.tuple ds) y u he ry
  exact SeqAt.in_tuple_reads r2 r1 (SeqAt.canLay_of_shaped se) (SeqAt.canLay_of_shaped sd) (room_in_shaped sd hu) ⟨.bl _, H, I, rfl, q⟩
def inTOp (x c : D) : Option D := match c with
  | .tupP _ ds => if okD 12 x = true ∧ okD 12 (.lst ds) = true then some (.bl (memD x ds)) else none
  | _ => none
theorem op2_inT : Op2 X (sc2 inTOp) (rInT X.K) := op2_sc fun F H x y d1 d2 d Q h1 h2 hd q => by
  unfold inTOp at hd
  split at hd
  · split at hd
    · rename_i p ds hk
      cases hd
      have hk2 : okD 12 (.tupP p ds) = true := hk.2
      have h2' := Dp.py 12 h2 hk2
      have s1 := okD_shaped (by decide) hk.1
      have s2 := okD_shaped (by decide) hk.2
      unfold pyd at h2' s2
      exact ⟨_, _, Dp.py 12 h1 hk.1, h2', s1, s2, by rw [mem_py]; exact q _ (.bl _)⟩
    · cases hd
  · cases hd
end
end DL

/-! DL33: methods and classes called by keywords; len and repr by the class's own defs; == with a list; xs[::-1] -/
namespace DL
open PySem L2 PySem.Spec PyProof.Rows
structure MethK (P : Program) (w : World) (K : PySem.W.Frag) (mg : Mg) (base : Heap) (c m : Str) (k : Nat) (ks : List Str) (π : List Nat) (G : Fn) : Prop where
  ex : ∃ C f, mg c = some (.ref C) ∧ Cls K C ∧ Meth K C m f ∧ FOkK P w K mg base k f ks π G
structure MakeK (P : Program) (w : World) (K : PySem.W.Frag) (mg : Mg) (base : Heap) (c : Str) (k : Nat) (ks : List Str) (π : List Nat) (G : Fn) : Prop where
  ex : ∃ C f, mg c = some (.ref C) ∧ Mk K C f ∧ FOkK P w K mg base k f ks π G
def eMethK (c m : Str) (π : List Nat) (G : Fn) (Fo : Den) (A : DenA) : Den := fun ρ M => (Fo ρ M).bind fun r M1 => match insOf M1 r with
  | some (c', ns) => if c' = c ∧ m ∉ ns then (A ρ M1).bind fun rs M2 => if (r :: rs).length = π.length then G (permL π (.d .non) ((r :: rs).map svR)) M2 else .bad else .bad
  | none => .bad
def eMakeK (c : Str) (π : List Nat) (G : Fn) (A : DenA) : Den := fun ρ M => (A ρ M).bind fun rs M1 => if rs.length + 1 = π.length then (cutX M1.length (G (permL π (.d .non) (.h M1.length :: rs.map svR)) (M1 ++ [.ins c []]))).bind fun r M2 => match r with
  | .t (.d .non) => .ok (.t (M2.getD M1.length (.d .non))) (M2.take M1.length)
  | _ => .bad
  else .bad
section
variable {X : Cx} {W : WX} {σ : L2.St} {fs gs : List Addr} {w w2 : Wd} {H H2 : Hp} {M M2 : Mst}
variable {e o : Expr} {es : List Expr} {kws : List Keyword} {Fe Fo Fv : Den} {A : DenA} {pos p apos : Pos} {x m f : Str} {k : Nat} {ps ks : List Str} {π : List Nat} {G : Fn} {cs : List Str} {c : Str}
theorem rd_methK {C : Addr} (hC : X.mg c = some (.ref C)) {Q : VK} (h : rdE X W (eMethK c m π G Fo A) σ H Q) :
    rdE X W Fo σ H fun x H1 => ∃ a dx fs, x = .ref a ∧ H1 a = some (.ins C dx fs) ∧ fs.lookup m = none ∧ rdA X W A σ H1 fun vs H2 => vs.length + 1 = π.length ∧ spD X.K X.mg π.length G (permL π .non (x :: vs)) H2 Q (WE W σ) := by
  obtain ⟨w, ρ, M, wm, er, p⟩ := h
  refine ⟨w, ρ, M, wm, er, p.bindF.imp fun w1 H1 M1 r _ _ z => ?_⟩
  obtain ⟨e1, m1, p1⟩ := z
  intro v fp q hf
  replace p1 := p1 fp hf
  split at p1
  · rename_i c' ns hi
    split at p1
    · rename_i hc
      obtain ⟨rfl, hn⟩ := hc
      obtain ⟨a, C', dx, fs, rfl, ha, hC', hk⟩ := ins_at m1 q hi
      obtain rfl : C = C' := by rw [hC] at hC'; cases hC'; rfl
      refine ⟨a, dx, fs, rfl, ha, no_key (hk ▸ hn), w1, ρ, M1, m1, er.stay e1, (Post.bindF p1).imp fun w2 H2 M2 rs _ _ z => ?_⟩
      obtain ⟨e2, m2, p2⟩ := z
      intro vs f2 q2 hf2
      have dj : ∀ a ∈ fp, a ∉ f2 := q.apart hf2
      have hp : ∀ a ∈ fp ++ f2, Pm fp w1 H1 M1 a := fun a ha => (List.mem_append.mp ha).elim (fun z => .inr (.inr z)) fun z => pm_nil (hf2 a z) _
      have hp' : ∀ a ∈ fp ++ f2, Pm [] w H M a := fun a ha => (List.mem_append.mp ha).elim (hf a) fun z => e1.pm (gs := []) (fun _ z => nomatch z) (hf2 a z)
      replace p2 := p2 _ hp
      split at p2
      · rename_i hl
        have q3 : RRL X.K X.mg w2 H2 M2 (V.ref a :: vs) (r :: rs) (fp ++ f2) := .cons (q.stay e2 fun _ _ z => nomatch z) q2 dj
        obtain ⟨w3, e3, m3, v3⟩ := settleL m2 q3
        exact ⟨by rw [← hl, ← q3.length]; rfl, w3, _, M2, m3, perm_sv v3 π, by simp [permL], PostC.of p2 (e1.trans0 e2) hp' e3⟩
      · exact p2.elim
    · exact p1.elim
  · exact p1.elim
/-- o.m(k = e, ..) -/
theorem de_methK {pl : Sem Bool} (D : MethK X.prog X.w X.K X.mg X.base c m k ks π G) (hr : Room k X.A) (tk : Takes X W) (ho : DE X W o Fo) (hkw : DK X W kws A)
    (hl : 1 + ks.length = π.length := by rfl) (hall : (backToKw pos (keywordEach kws X.env)).all (·.1.isSome) = true := by rfl) (hks : (backToKw pos (keywordEach kws X.env)).filterMap (·.1) = ks := by rfl)
    (hpl : ((backTo pos (starEach [] X.env)).any (·.1) || (backToKw pos (keywordEach kws X.env)).any (·.1.isNone)) = false := by rfl)
    (ht : eval (.Call (.Attribute o m apos) [] kws pos) X.env = (do
      let ov ← eval o X.env
      standAt apos.atName
      let (f, first) ← holding [ov] (getMethod ov m pl)
      callWith pos f first (backTo pos (starEach [] X.env)) (backToKw pos (keywordEach kws X.env))) := by rfl) :
    DE X W (.Call (.Attribute o m apos) [] kws pos) (eMethK c m π G Fo A) := by
  obtain ⟨C, f, hC, cl, hm, F⟩ := D.ex
  refine ⟨fun pins s σ H Q I h => ?_⟩
  refine PySem.W.methodCall_KW (pl := pl) (thn (ho.run pins s σ H _ I (rd_methK hC h)) fun u s1 ⟨x, H1, I1, rx, a, dx, fs, ex, ea, l, q⟩ => ?_) ht
  subst ex
  obtain rfl : u = Value.ref a := rx
  refine getmeth_ok I1 ea cl hm l ?_
  refine PySem.W.callWith_KW0 (first := [.ref a]) (h₀ := X.base) I.ok.mod.kin hm.kp hall (thn (hkw.run pos pins s1 σ H1 _ I1 q) fun ws s2 ⟨zs, H2, I2, rz, hn, q2⟩ => ⟨I2.kIn, ?_⟩) hpl
  rw [hks]
  exact run_K F hr tk I2 (us := [.ref a]) (vs := [.ref a]) (.cons rfl .nil) rz hl (by rw [← rz.length]; omega) q2
theorem run_makeK {C f : Addr} (Mk' : Mk X.K C f) (F : FOkK X.prog X.w X.K X.mg X.base k f ks π G) (hr : Room (k + 1) X.A) (tk : Takes X W) {pins : List (Addr × Obj)} {s : Shared} {Q : VK} {ws : List Value} {zs : List V} (I : Inv X pins σ H s) (rz : Vals zs ws) (h1 : 1 + ks.length = π.length) (h2 : ws.length = ks.length)
    (h : ∀ x dx, H x = none → H dx = none → dx ≠ x → spD X.K X.mg π.length G (permL π .non (.ref x :: zs)) (upd (upd H dx (.own x)) x (.ins C dx [])) (fun v H2 => v = .non ∧ Q (.ref x) H2) (WE W σ)) :
    wpAny (model X.prog X.w) X.A (call (.ref C) [] (ks.zip ws)) (EP X pins σ Q) X.xe s := by
  obtain ⟨fd, ps, hps, F, hb⟩ := F
  have hq := h (s.heap.objs.size + 1) s.heap.objs.size (I.hok.fresh (Nat.le_succ _)) (I.hok.fresh (Nat.le_refl _)) (Nat.ne_of_lt (Nat.lt_succ_self _))
  have I2 := Inv.made (C := C) I
  have r2 : Vals (permL π .non (V.ref (s.heap.objs.size + 1) :: zs)) (permL π .none (Value.ref (s.heap.objs.size + 1) :: ws)) := perm_vals (show Vals (V.ref (s.heap.objs.size + 1) :: zs) (Value.ref (s.heap.objs.size + 1) :: ws) from .cons rfl rz) π
  rw [← hps] at hq
  refine wpAny_call (make_map (f := f) I.kIn Mk'.makes Mk'.init (beq_iff_eq.mp Mk'.fn) (codeAny_mono (F.run _ X.stack _ _ ⟨[Value.ref (s.heap.objs.size + 1)], ks.zip ws⟩ (permL π .none ([Value.ref (s.heap.objs.size + 1)] ++ ws)) (permL π .non (V.ref (s.heap.objs.size + 1) :: zs)) _ (WE W σ) (hr.make C [] (ks.zip ws))
    (I2.env0.make C [] (ks.zip ws)) (hb _ [Value.ref (s.heap.objs.size + 1)] ws h1 h2) r2 hq) fun r s' hq' => ?_))
  cases r with
  | error e => exact (passAt tk σ) pins _ _ e s' I2 hq'
  | ok fl =>
    cases fl with
    | ret u =>
      obtain ⟨v, H', I3, rv, ev, q3⟩ := I2.after hq'
      subst ev
      exact ⟨rv, ⟨V.ref (s.heap.objs.size + 1), H', I3, rfl, q3⟩⟩
    | next => exact False.elim hq'
    | brk => exact False.elim hq'
    | cont => exact False.elim hq'
theorem rd_makeK {C : Addr} (hC : X.mg c = some (.ref C)) {Q : VK} (h : rdE X W (eMakeK c π G A) σ H Q) :
    rdA X W A σ H fun vs H1 => vs.length + 1 = π.length ∧ ∀ x dx, H1 x = none → H1 dx = none → dx ≠ x → spD X.K X.mg π.length G (permL π .non (.ref x :: vs)) (upd (upd H1 dx (.own x)) x (.ins C dx [])) (fun v H2 => v = .non ∧ Q (.ref x) H2) (WE W σ) := by
  obtain ⟨w, ρ, M, wm, er, p⟩ := h
  refine ⟨w, ρ, M, wm, er, p.bindF.imp fun w1 H1 M1 rs _ _ z => ?_⟩
  obtain ⟨e1, m1, p1⟩ := z
  intro vs fp q hf
  replace p1 := p1 fp hf
  split at p1
  · rename_i hl
    refine ⟨by rw [q.length]; exact hl, ?_⟩
    intro x dx hx hdx ne
    obtain ⟨w2, e2, m2, v2⟩ := settleL m1 q
    obtain ⟨w3, e3, m3, a3⟩ := ins_new (c := c) (C := C) m2 hC hx hdx ne
    have v3 : VRL X.K X.mg w3 (M1 ++ [.ins c []]) (V.ref x :: vs) (.h M1.length :: rs.map svR) := .cons ⟨by simp, by rw [a3]⟩ (v2.stay e3)
    refine ⟨w3, permL π (.d .non) (.h M1.length :: rs.map svR), _, m3, perm_sv v3 π, by simp [permL], ?_⟩
    have e23 : Ext fp w1 H1 M1 w3 (upd (upd H1 dx (.own x)) x (.ins C dx [])) (M1 ++ [.ins c []]) := e2.trans0 e3
    cases z : G (permL π (.d .non) (.h M1.length :: rs.map svR)) (M1 ++ [.ins c []]) with
    | bad => rw [z] at p1; exact p1
    | exc ex M' =>
      rw [z] at p1
      intro w' H' cls d e' m' xr
      exact p1 w' H' cls d (e23.trans0 e').take (m'.take _) xr
    | ok r M' =>
      rw [z] at p1
      intro w' H' v fp' e' m' q' hq'
      have p1 : Post X W σ fp w1 H1 M1 (match r with
        | .t (.d .non) => .ok (.t (M'.getD M1.length (.d .non))) (M'.take M1.length)
        | _ => .bad) (CE X [] w H M Q) := p1
      split at p1
      · have e4 := e23.trans0 e'
        obtain ⟨g1, _⟩ := rr_dat q'
        cases g1
        refine ⟨rfl, ?_⟩
        have hlt : M1.length < M'.length := Nat.lt_of_lt_of_le (by simp) e'.len
        have hal : w'.α M1.length = x := (e'.al M1.length (by simp)).trans a3
        obtain ⟨f5, r5, g5⟩ := RR.ret (n := M1.length) (r := .h M1.length) (v := .ref (w'.α M1.length)) (fp := []) (Nat.le_of_lt hlt) m' ⟨hlt, rfl, rfl⟩
        rw [show retR M1.length M' (.h M1.length) = .t (M'.getD M1.length (.d .non)) from if_neg (Nat.lt_irrefl _), hal] at r5
        refine p1 w' H' e4.take (m'.take _) _ f5 r5 fun a ha => ?_
        rcases g5 a ha with z | ⟨k, hk, z⟩
        · cases z
        · exact e1.pm hf (e4.ph k hk a z)
      · exact p1.elim
  · exact p1.elim
/-- C(k = e, ..) -/
theorem de_makeK (D : MakeK X.prog X.w X.K X.mg X.base x k ks π G) (hr : Room (k + 1) X.A) (tk : Takes X W) (hg : Gl X x) (hkw : DK X W kws A)
    (hl : 1 + ks.length = π.length := by rfl) (hall : (backToKw pos (keywordEach kws X.env)).all (·.1.isSome) = true := by rfl) (hks : (backToKw pos (keywordEach kws X.env)).filterMap (·.1) = ks := by rfl)
    (hdb : (x == ("__debug__" : Str)) = false := by decide) (hpl : ((backTo pos (starEach [] X.env)).any (·.1) || (backToKw pos (keywordEach kws X.env)).any (·.1.isNone)) = false := by rfl) :
    DE X W (.Call (.Name x p) [] kws pos) (eMakeK x π G A) := by
  obtain ⟨C, f, hC, mk, F⟩ := D.ex
  refine ⟨fun pins s σ H Q I h => ?_⟩
  refine wpAny_Call_Name_kw (ld_glob I hg hC ?_ hdb)
  refine PySem.W.callWith_KW0 (h₀ := X.base) I.ok.mod.kin mk.kp hall (thn (hkw.run pos pins s σ H _ I (rd_makeK hC h)) fun ws s2 ⟨zs, H2, I2, rz, hn, q2⟩ => ⟨I2.kIn, ?_⟩) hpl
  rw [hks]
  exact run_makeK mk F hr tk I2 rz hl (by rw [← rz.length]; omega) q2
/-! ### len(o), repr(o) -/
def rLenO (X : Cx) (C : Addr) (G : Fn) : List V → Hp → VK → Prop := fun xs H Q => ∃ a dx fs, xs = [.ref a] ∧ H a = some (.ins C dx fs) ∧ spD X.K X.mg 1 G [.ref a] H (fun v H' => ∃ n : Int, v = .int n ∧ (0 ≤ n ∧ n < 2 ^ 63) ∧ Q v H') (fun _ _ _ => False)
def rReprO (X : Cx) (C : Addr) (G : Fn) : List V → Hp → VK → Prop := fun xs H Q => ∃ a dx fs, xs = [.ref a] ∧ H a = some (.ins C dx fs) ∧ spD X.K X.mg 1 G [.ref a] H (fun v H' => ∃ x : Str, v = .str x ∧ Q v H') (fun _ _ _ => False)
def lenBk : R → Mst → Out R
  | .t (.d (.int n)), M => if 0 ≤ n ∧ n < 2 ^ 63 then .ok (.t (.d (.int n))) M else .bad
  | _, _ => .bad
def strBk : R → Mst → Out R
  | .t (.d (.str n)), M => .ok (.t (.d (.str n))) M
  | _, _ => .bad
def gLenO (c : Str) (G : Fn) : List R → Mst → Out R := fun rs M => match rs with
  | [r] => if insC c M r = true then (noX (G [svR r] M)).bind lenBk else .bad
  | _ => .bad
def gReprO (c : Str) (G : Fn) : List R → Mst → Out R := fun rs M => match rs with
  | [r] => if insC c M r = true then (noX (G [svR r] M)).bind strBk else .bad
  | _ => .bad
theorem own_in1 {g : Addr} (F : FOk X.prog X.w X.K X.mg X.base k g ps G) (hr : Room (k + 1) X.A) {pins : List (Addr × Obj)} {s : Shared} {Q : VK} {us : List Value} {vs : List V} (I : Inv X pins σ H s) (r : Vals vs us) {E' : Value → Shared → Prop}
    (h : spD X.K X.mg ps.length G vs H Q (fun _ _ _ => False)) : wpAny (model X.prog X.w) X.A.in1 (call (.ref g) us) (EP X pins σ Q) E' s := by
  obtain ⟨fd, F, hb⟩ := F
  have hl : us.length = ps.length := by rw [← r.length]; exact F.len _ _ _ _ h
  have b := hb s us I.kIn (by rw [List.append_nil]; exact hl)
  rw [List.append_nil] at b
  refine wpAny_call (codeAny_mono (F.run X.A.in1 X.stack s H ⟨us, []⟩ us vs Q (fun _ _ _ => False) hr.in1 I.env0.in1 b r h) fun r s' hq => ?_)
  cases r with
  | error er =>
    obtain ⟨_, _, _, _, _, _, _, _, _, _, _, _, z⟩ := hq
    exact z.elim
  | ok fl =>
    cases fl with
    | ret u => exact I.after hq
    | next => exact False.elim hq
    | brk => exact False.elim hq
    | cont => exact False.elim hq
theorem call_lenO {C g : Addr} (hm : Meth X.K C "__len__" g) (F : FOk X.prog X.w X.K X.mg X.base k g ps G) (hl : ps.length = 1) (hr : Room (k + 1) X.A) : CallR X (.builtin "len") (rLenO X C G) := by
  intro pins s σ H xs us Q I r ⟨a, dx, fs, hx, ha, h⟩
  subst hx
  cases r with
  | @cons _ u _ _ r1 r2 =>
    cases r2
    obtain rfl : u = Value.ref a := r1
    obtain ⟨mA, J, _⟩ := ins_get I.hok ha
    obtain ⟨od, J, _⟩ := J.look
    obtain ⟨m', hF⟩ := I.fr
    refine PySem.W.len_K hF I.ok.mod.kin J hm.at_ hm.fn (wpAny_mono (own_in1 F hr I (us := [.ref a]) (vs := [.ref a]) (.cons rfl .nil) (by rw [hl]; exact h)) (fun v s' z => ?_) fun _ _ e => e)
    obtain ⟨v', H', I', rv, n, rfl, hn, q⟩ := z
    obtain ⟨t, rfl⟩ := rv
    exact ⟨hn, .int n, H', I'.tok _, ⟨_, rfl⟩, q⟩
theorem call_reprO {C g : Addr} (hm : Meth X.K C "__repr__" g) (F : FOk X.prog X.w X.K X.mg X.base k g ps G) (hl : ps.length = 1) (hr : Room (k + 1) X.A) : CallR X (.builtin "repr") (rReprO X C G) := by
  intro pins s σ H xs us Q I r ⟨a, dx, fs, hx, ha, h⟩
  subst hx
  cases r with
  | @cons _ u _ _ r1 r2 =>
    cases r2
    obtain rfl : u = Value.ref a := r1
    obtain ⟨mA, J, _⟩ := ins_get I.hok ha
    obtain ⟨od, J, _⟩ := J.look
    obtain ⟨m', hF⟩ := I.fr
    refine PySem.W.repr_K hr.in1.units0 hF I.ok.mod.kin J hm.at_ hm.fn (wpAny_mono (own_in1 F hr I (us := [.ref a]) (vs := [.ref a]) (.cons rfl .nil) (by rw [hl]; exact h)) (fun v s' z => ?_) fun _ _ e => e)
    obtain ⟨v', H', I', rv, x, rfl, q⟩ := z
    obtain ⟨t, rfl⟩ := rv
    exact ⟨.str x, H', I', ⟨_, rfl⟩, q⟩
theorem opL_lenO {C : Addr} (hC : X.mg c = some (.ref C)) : OpL X (gLenO c G) (rLenO X C G) := by
  intro W σ w H M xs rs fp Q m q p
  unfold gLenO at p
  split at p
  · rename_i r
    split at p
    · rename_i hi
      cases q with
      | @cons v vs _ _ f1 f2 q1 q2 dj =>
        have q0 := q2
        cases q2
        obtain ⟨a, dx, fs, rfl, ha⟩ := insC_at hC m q1 hi
        refine ⟨a, dx, fs, rfl, ha, post_own (E := fun _ _ _ => False) (rs := [r]) (X := X) (W := W) (σ := σ) m (.cons q1 .nil dj) ?_⟩
        show Post X W σ _ w H M (noX (G [svR r] M)) _
        cases z : G [svR r] M with
        | bad => rw [z] at p; exact p.elim
        | exc x M' => rw [z] at p; exact p.elim
        | ok r' M' =>
          rw [z] at p
          have p : Post X W σ (f1 ++ []) w H M (lenBk r' M') (CE X (f1 ++ []) w H M Q) := p
          intro w' H' e' m' v fp' q' hf
          unfold lenBk at p
          split at p
          · rename_i n
            split at p
            · rename_i hn
              have q'' := q'
              obtain ⟨g1, _⟩ := rr_dat q''
              cases g1
              exact ⟨_, rfl, hn, p w' H' e' m' _ fp' q' hf⟩
            · exact p.elim
          · exact p.elim
    · exact p.elim
  · exact p.elim
theorem opL_reprO {C : Addr} (hC : X.mg c = some (.ref C)) : OpL X (gReprO c G) (rReprO X C G) := by
  intro W σ w H M xs rs fp Q m q p
  unfold gReprO at p
  split at p
  · rename_i r
    split at p
    · rename_i hi
      cases q with
      | @cons v vs _ _ f1 f2 q1 q2 dj =>
        have q0 := q2
        cases q2
        obtain ⟨a, dx, fs, rfl, ha⟩ := insC_at hC m q1 hi
        refine ⟨a, dx, fs, rfl, ha, post_own (E := fun _ _ _ => False) (rs := [r]) (X := X) (W := W) (σ := σ) m (.cons q1 .nil dj) ?_⟩
        show Post X W σ _ w H M (noX (G [svR r] M)) _
        cases z : G [svR r] M with
        | bad => rw [z] at p; exact p.elim
        | exc x M' => rw [z] at p; exact p.elim
        | ok r' M' =>
          rw [z] at p
          have p : Post X W σ (f1 ++ []) w H M (strBk r' M') (CE X (f1 ++ []) w H M Q) := p
          intro w' H' e' m' v fp' q' hf
          unfold strBk at p
          split at p
          · rename_i n
            have q'' := q'
            obtain ⟨g1, _⟩ := rr_dat q''
            cases g1
            exact ⟨_, rfl, p w' H' e' m' _ fp' q' hf⟩
          · exact p.elim
    · exact p.elim
  · exact p.elim
/-! ### o == a list -/
def rOwnL (X : Cx) (C : Addr) (G : Fn) : R2 := fun x y H Q => ∃ a b dx fs ys, x = .ref a ∧ y = .ref b ∧ H a = some (.ins C dx fs) ∧ SqL X.K H b ys ∧ spD X.K X.mg 2 G [x, y] H Q (fun _ _ _ => False)
def lstC : D → Bool
  | .lst _ => true
  | _ => false
def gOwnL (c : Str) (G : Fn) : R → R → Mst → Out R := fun r1 r2 M => if insC c M r1 = true ∧ lstC (frzR M r2) = true then noX (G [svR r1, svR r2] M) else .bad
theorem lst_at {v : V} {d : D} (h : Dp X.K X.mg H v d) (e : lstC d = true) : ∃ b ys, v = .ref b ∧ SqL X.K H b ys := by
  cases h with
  | lst h1 h2 => exact ⟨_, _, rfl, SqL.of h1⟩
  | _ => cases e
theorem op2_ownL {C : Addr} (hC : X.mg c = some (.ref C)) : Op2 X (gOwnL c G) (rOwnL X C G) := by
  intro W σ w H M x y r1 r2 f1 f2 Q m q1 q2 dj p
  unfold gOwnL at p
  split at p
  · rename_i hi
    obtain ⟨a, dx, fs, rfl, ha⟩ := insC_at hC m q1 hi.1
    obtain ⟨b, ys, rfl, hb⟩ := lst_at (seen m q2) hi.2
    refine ⟨a, b, dx, fs, ys, rfl, rfl, ha, hb, ?_⟩
    have q : RRL X.K X.mg w H M [V.ref a, V.ref b] [r1, r2] (f1 ++ (f2 ++ [])) := .cons q1 (.cons q2 .nil fun _ _ z => nomatch z) (by simpa using dj)
    rw [List.append_nil] at q
    exact post_own m q p
  · exact p.elim
theorem op_ownEqL {a b : Expr} {C g : Addr} (hn : PySem.W.notFirst X.K C (.type "list") = true) (hm : Meth X.K C "__eq__" g) (F : FOk X.prog X.w X.K X.mg X.base k g ps G) (hl : ps.length = 2) (hr : Room k X.A) : OpR X (compareOp .Eq) (rOwnL X C G) := by
  intro pins s σ H x y v u Q I rx ry ⟨a, b, dx, fs, ys, hx, hy, ha, hb, h⟩
  subst hx; subst hy
  cases rx; cases ry
  obtain ⟨mA, J, _⟩ := ins_get I.hok ha
  obtain ⟨od, J, _⟩ := J.look
  obtain ⟨m', hF⟩ := I.fr
  obtain ⟨its, _, pl, _⟩ := I.list hb
  obtain ⟨ob, n, e1, e2, _⟩ := pl
  have LT : PySem.W.Looks (model X.prog X.w) s.heap (typeOf (.ref b)) (.type "list") := fun A Q E s k q => wpAny_typeOf_ref (k _ _ e1) (by rw [e2]; exact q)
  show wpAny (model X.prog X.w) X.A (richCompare .Eq _ _) _ _ _
  refine PySem.W.cmp_K (op := .Eq) (tb := .type "list") hr.units0 hF I.ok.mod.kin J LT hn hm.at_ hm.fn ?_
  exact wpAny_mono (own_run F hr I (us := [.ref a, .ref b]) (vs := [.ref a, .ref b]) (.cons rfl (.cons rfl .nil)) (by rw [hl]; exact h)) (fun u s' z => back_of z) fun _ _ e => e
/-! ### xs[::-1] -/
def revR : R → Mst → Out R := fun r M => match src M r with
  | some (.l ds, M1) => .ok (.t (.lst (ds.reverse.map T.d))) M1
  | _ => .bad
end
end DL

/-! DL34: xs[::-1]; constants of a class; isinstance of a list; fields kept as trees; what is made of things that stay changeable -/
namespace DL
open PySem L2 PySem.Spec PyProof.Rows
section
variable {X : Cx} {W : WX} {σ : L2.St} {fs gs : List Addr} {w w2 : Wd} {H H2 : Hp} {M M2 : Mst}
variable {e o : Expr} {es : List Expr} {F Fe Fo Fv : Den} {A : DenA} {pos p apos p1 p2 p3 : Pos} {x m f : Str} {k : Nat} {ps ks : List Str} {π : List Nat} {G : Fn} {cs : List Str} {c : Str}
/-! ### xs[::-1] -/
theorem de_revL {k : Nat} (he : DE X W e F) : DE X W (.Subscript e (.Slice none none (some (.UnaryOp .USub (.Constant (.int 1) k p1) p2)) p3) pos) (eSeq1 revR F) :=
  (pe_revL he).mono fun σ H Q h => by
    obtain ⟨w, ρ, M, m, er, p⟩ := h
    refine ⟨w, ρ, M, m, er, p.bindF.imp fun w1 H1 M1 r _ _ z => ?_⟩
    obtain ⟨e1, m1, p1⟩ := z
    intro v fp q hf
    have p2 : Post X W σ fp w1 H1 M1 (revR r M1) (CE X fp w1 H1 M1 Q) := (p1 fp hf).imp fun _ _ _ _ _ _ q => q.from e1 hf
    unfold revR at p2
    cases z : src M1 r with
    | none => rw [z] at p2; exact p2.elim
    | some s =>
      obtain ⟨s, M4⟩ := s
      obtain ⟨w4, e4, m4, a4⟩ := src_ok m1 q z
      rw [z] at p2
      cases s with
      | l ds =>
        obtain ⟨a, vs, rfl, h1, h2⟩ := a4
        exact ⟨a, vs, rfl, SqL.of h1, fun q hq => CE.lst p2 e4 m4 hq h2.reverse⟩
      | ro ds => exact p2.elim
      | t ds => exact p2.elim
      | s x => exact p2.elim
end
/-! ### constants of a class -/
structure CCon (K : PySem.W.Frag) (mg : Mg) (c f : Str) (d : D) : Prop where
  ex : ∃ C mc v u, mg c = some (.ref C) ∧ ClX.CRead K C mc ∧ ClX.CVal K C mc f v u ∧ ∀ F, Dp K mg F v d
section
variable {X : Cx} {W : WX} {σ : L2.St} {fs gs : List Addr} {w w2 : Wd} {H H2 : Hp} {M M2 : Mst}
variable {e o : Expr} {es : List Expr} {F Fe Fo Fv : Den} {A : DenA} {pos p apos p1 p2 p3 : Pos} {x m f : Str} {k : Nat} {ps ks : List Str} {π : List Nat} {G : Fn} {cs : List Str} {c : Str}
theorem de_ccon {d : D} (D : CCon X.K X.mg c f d) (hg : Gl X c) (hd : (c == ("__debug__" : Str)) = false := by decide) (hb : attributeBase (.Name c p) f X.env (eval (.Name c p) X.env) = eval (.Name c p) X.env := by rfl) : DE X W (.Attribute (.Name c p) f pos) (eC d) := by
  obtain ⟨C, mc, v, u, hC, hr, hv, hD⟩ := D.ex
  exact (ClX.pe_cval (pe_glob (v := .ref C) hg hC rfl hd) hb).mono fun σ H Q ⟨w, ρ, M, m, er, p⟩ => ⟨C, mc, v, u, rfl, hr, hv, (p.now m) v [] (rr_d (hD _)) fun _ z => nomatch z⟩
end
/-! ### isinstance: an instance, or a list -/
structure IsCL (K : PySem.W.Frag) (mg : Mg) (c : Str) : Prop where
  ex : ∃ C, mg c = some (.ref C) ∧ PySem.W.typeIn K (.ref C) = some (.type "type") ∧ PySem.W.subIn K (.type "list") (.ref C) = some false
def isiC2R (c0 : Str) : List R → Mst → Out R
  | [r, .t (.d (.glo c))], M => if c = c0 ∧ insC c M r = true then .ok (.t (.d (.bl true))) M else if c = c0 ∧ lstC (frzR M r) = true then .ok (.t (.d (.bl false))) M else .bad
  | _, _ => .bad
section
variable {X : Cx} {W : WX} {σ : L2.St} {fs gs : List Addr} {w w2 : Wd} {H H2 : Hp} {M M2 : Mst}
theorem lst_ty2 {v : V} {d : D} (h : Dp X.K X.mg H v d) (e : lstC d = true) : TyX X.K H v (.type "list") := by
  cases h with
  | lst h1 h2 => exact .base (.lst h1)
  | _ => cases e
theorem opL_isiC2 {c0 : Str} (D : IsC X.K X.mg c0) (D2 : IsCL X.K X.mg c0) : OpL X (isiC2R c0) (rIsi X.K) := by
  intro W σ w H M xs rs fp Q m q p
  unfold isiC2R at p
  split at p
  · rename_i r c
    split at p
    · rename_i hi
      refine opL_isiC D W σ w H M xs _ fp Q m q ?_
      show Post X W σ fp w H M (if c = c0 ∧ insC c M r = true then Out.ok (R.t (.d (.bl true))) M else .bad) _
      rw [if_pos hi]
      exact p
    · split at p
      · rename_i hi
        obtain ⟨rfl, hi⟩ := hi
        obtain ⟨v, v', f, f', rfl, q1, q2, _, _⟩ := q.two
        obtain ⟨C, hC, ht, hs⟩ := D2.ex
        obtain ⟨C', hC', cl, _⟩ := D.ex
        obtain rfl : C = C' := by rw [hC] at hC'; cases hC'; rfl
        obtain ⟨q2, _⟩ := rr_dat q2
        cases q2 with
        | @glo _ a' hC2 =>
          obtain rfl : C = a' := by rw [hC] at hC2; cases hC2; rfl
          refine ⟨v, .ref C, .type "list", .ref C, false, rfl, .own C, lst_ty2 (seen m q1) hi, ?_, (p.now m).val (C := fun _ => r) (.bl _)⟩
          obtain ⟨cd, hcd, _⟩ := PySem.W.any_some cl.hd
          unfold PySem.W.kitOne PySem.W.kitCls
          rw [if_neg (by simp)]
          show (if ((PySem.W.clsIn X.K C).isSome && PySem.W.typeIn X.K (Value.ref C) == some (Value.type "type")) = true then PySem.W.subIn X.K (Value.type "list") (Value.ref C) else none) = some false
          rw [hcd, ht, hs]
          rfl
      · exact p.elim
  · exact p.elim
end
/-! ### o.f = value, the value kept as a tree -/
def sFldT (cs : List Str) (f : Str) (Fv : Den) (j : Nat) : DenS := fun ρ M => bindS (Fv ρ M) ρ fun r M1 => match r, ρ[j]? with
  | .t x, some (some (.h k)) => (match M1[k]? with
    | some (.ins c fs) => if cs.contains c = true ∧ fs.length < 1000 ∧ fs.lookup f = none then some (.nx ρ, M1.set k (.ins c (fs ++ [(f, x)]))) else none
    | _ => none)
  | _, _ => none
section
variable {X : Cx} {W : WX} {σ : L2.St} {fs gs : List Addr} {w w2 : Wd} {H H2 : Hp} {M M2 : Mst}
variable {e o : Expr} {es : List Expr} {F Fe Fo Fv : Den} {A : DenA} {pos p apos p1 p2 p3 : Pos} {x m f : Str} {k : Nat} {ps ks : List Str} {π : List Nat} {G : Fn} {cs : List Str} {c : Str}
theorem putF_new {v : V} : ∀ {vs : List (Str × V)}, vs.lookup f = none → putF f v vs = vs ++ [(f, v)]
  | [], _ => rfl
  | (g, u) :: r, h => by
    rw [List.lookup_cons] at h
    split at h
    · cases h
    · rename_i hne
      have ne : ¬ g = f := fun e => by rw [e] at hne; simp at hne
      unfold putF
      rw [if_neg ne, putF_new h]; rfl
theorem trf_app : ∀ {vs ws : List (Str × V)} {ts us : List (Str × T)} {f1 f2 : List Addr} {F : Hp}, TRF X.K X.mg F H vs ts f1 → TRF X.K X.mg F H ws us f2 → TRF X.K X.mg F H (vs ++ ws) (ts ++ us) (f1 ++ f2)
  | _, _, _, _, _, _, _, .nil, s => s
  | _, _, _, _, _, _, _, .cons h r, s => by rw [List.append_assoc]; exact .cons h (trf_app r s)
theorem trf_none {F : Hp} : ∀ {vs : List (Str × V)} {ts : List (Str × T)} {fp : List Addr}, TRF X.K X.mg F H vs ts fp → ts.lookup f = none → vs.lookup f = none
  | _, _, _, .nil, _ => rfl
  | _, _, _, .cons (f := g) h r, e => by
    rw [List.lookup_cons] at e ⊢
    split at e
    · cases e
    · exact trf_none r e
theorem rd_sfldT {j : Nat} (ok : FldOk X.K X.mg cs f) {Dn : Ends} (h : rdS X W (sFldT cs f Fv j) Dn σ H) : sFld X.K (tVar j) (rdE X W Fv) f Dn σ H := by
  obtain ⟨w, ρ, M, m, er, p⟩ := h
  refine ⟨w, ρ, M, m, er, (PostS.bindF p er).imp fun w1 H1 M1 r _ _ z => ?_⟩
  obtain ⟨e1, m1, p1⟩ := z
  have er1 := er.stay e1
  intro v fp q hf
  replace p1 := p1 fp hf
  split at p1
  · rename_i x k hx
    split at p1
    · rename_i c fs hM
      split at p1
      · rename_i hc
        obtain ⟨u, hu, hk, rfl⟩ := er1.at_ j _ hx
        obtain ⟨q1, q2, q3⟩ := q
        obtain ⟨q4, nd4⟩ := m1.obj k _ hM
        generalize hfk : w1.φ k = fk at q4
        generalize hv : V.ref (w1.α k) = va at q4
        cases q4 with
        | @ins a C dx vs _ _ fp4 h1 h2 h3 h4 =>
          cases hv
          obtain ⟨k1, k2⟩ := ok.ok _ (List.contains_iff_mem.mp hc.1) _ h3
          rw [hfk] at nd4
          obtain ⟨n1, n2⟩ := List.nodup_cons.mp nd4
          have inφ : ∀ a ∈ w1.α k :: fp4, a ∈ w1.φ k := fun a ha => by rw [hfk]; exact ha
          have dj : ∀ a ∈ fp, a ∉ w1.α k :: fp4 := fun a ha z => q3 a ha k hk (inφ a z)
          have hn := trf_none h4 hc.2.2
          have hall : TRF X.K X.mg w1.F H1 (vs ++ [(f, v)]) (fs ++ [(f, x)]) (fp4 ++ (fp ++ [])) := trf_app h4 (.cons q1 .nil)
          rw [List.append_nil] at hall
          have ne : ∀ a ∈ fp4 ++ fp, a ≠ w1.α k := fun a ha z => by
            subst z
            rcases List.mem_append.mp ha with z | z
            · exact n1 z
            · exact dj _ z List.mem_cons_self
          obtain ⟨w4, e4, m4, _, _⟩ := put_obj (fs := fp) (o' := .ins C dx (putF f v vs)) (f' := w1.α k :: (fp4 ++ fp)) (t' := .ins c (fs ++ [(f, x)])) m1 hM (inφ _ List.mem_cons_self)
            (by
              rw [putF_new hn]
              exact .ins upd_same h2 h3 (hall.stay (Same.refl _) fun a ha => ⟨(hall.fp a ha).1, fun o ho => by rw [upd_ne (ne a ha)]; exact ho⟩))
            (List.nodup_cons.mpr ⟨fun z => ne _ z rfl, List.nodup_append.mpr ⟨n2, q2, fun a ha b hb z => dj b hb (List.mem_cons_of_mem _ (z ▸ ha))⟩⟩) h2
            (fun a ha i hi hik z => by
              rcases List.mem_cons.mp ha with rfl | ha
              · exact hik (m1.dis i k _ hi hk z (inφ _ List.mem_cons_self))
              · rcases List.mem_append.mp ha with ha | ha
                · exact hik (m1.dis i k _ hi hk z (inφ _ (List.mem_cons_of_mem _ ha)))
                · exact q3 a ha i hi z)
            (fun a ha => by
              rcases List.mem_cons.mp ha with rfl | ha
              · exact .inr (.inl ⟨k, hk, inφ _ List.mem_cons_self⟩)
              · rcases List.mem_append.mp ha with ha | ha
                · exact .inr (.inl ⟨k, hk, inφ _ (List.mem_cons_of_mem _ ha)⟩)
                · exact .inr (.inr ha))
          exact ⟨_, hu, _, C, dx, vs, rfl, h1, k1, k2, by rw [h4.length]; exact hc.2.1, p1 w4 _ σ e4 m4 (er1.stay e4)⟩
      · exact p1.elim
    · exact p1.elim
  · exact p1.elim
theorem ds_fldT {value : Expr} {pos' : Pos} {j : Nat} (ok : FldOk X.K X.mg cs f) (hv : DE X W value Fv) (ho : PE X o (tVar j)) (hs : swapsWith value (some (.Attribute o f pos')) pos.line X.env = pure false := by rfl) :
    DS X W (.Assign [.Attribute o f pos'] value pos) (sFldT cs f Fv j) := (ps_fld ho hv hs).mono fun _ _ _ h => rd_sfldT ok h
end
/-! ### a thing made while all that may change stands still -/
mutual
/-- no tuple within a tree -/
def ntT : T → Bool
  | .d _ => true
  | .lst ts => ntL ts
  | .tup _ => false
  | .ins _ fs => ntF fs
  | .dic fs => ntK fs
def ntL : List T → Bool
  | [] => true
  | t :: r => ntT t && ntL r
def ntF : List (Str × T) → Bool
  | [] => true
  | (_, t) :: r => ntT t && ntF r
def ntK : List (Key × T) → Bool
  | [] => true
  | (_, t) :: r => ntT t && ntK r
end
mutual
/-- nothing that may be changed in it -/
def ncD : D → Bool
  | .non => true | .bl _ => true | .int _ => true | .str _ => true | .glo _ => true | .ty _ => true
  | .tupP _ ds => ncL ds
  | _ => false
def ncL : List D → Bool
  | [] => true
  | d :: r => ncD d && ncL r
end
mutual
def ncT : T → Bool
  | .d d => ncD d
  | .lst ts => ncTL ts
  | .ins _ fs => ncTF fs
  | _ => false
def ncTL : List T → Bool
  | [] => true
  | t :: r => ncT t && ncTL r
def ncTF : List (Str × T) → Bool
  | [] => true
  | (_, t) :: r => ncT t && ncTF r
end
def eFresh (Fe : Den) : Den := fun ρ M => match Fe (ρ.map (fzS M)) [] with
  | .ok (.t x) _ => if ncT x = true ∧ ntL M = true then .ok (.t x) M else .bad
  | _ => .bad
/-- the trees are frozen for a time -/
def wFz (w : Wd) (H : Hp) (M : Mst) : Wd := ⟨fun a => open Classical in if ∃ k, k < M.length ∧ a ∈ w.φ k then H a else w.F a, fun _ => default, fun _ => []⟩
section
variable {X : Cx} {W : WX} {σ : L2.St} {fs gs : List Addr} {w w2 : Wd} {H H2 : Hp} {M M2 : Mst}
theorem wFz_in {a : Addr} {k : Nat} (hk : k < M.length) (h : a ∈ w.φ k) : (wFz w H M).F a = H a := if_pos ⟨k, hk, h⟩
theorem wFz_out {a : Addr} (h : ∀ k, k < M.length → a ∉ w.φ k) : (wFz w H M).F a = w.F a := if_neg fun ⟨k, hk, z⟩ => h k hk z
theorem wFz_same (m : MR X.K X.mg w H M) : Same w.F (wFz w H M).F := fun a o e => by
  by_cases h : ∃ k, k < M.length ∧ a ∈ w.φ k
  · obtain ⟨k, hk, ha⟩ := h
    obtain ⟨t, ht⟩ : ∃ t, M[k]? = some t := ⟨M[k], List.getElem?_eq_getElem hk⟩
    rw [((m.obj k t ht).1.fp a ha).1] at e; cases e
  · show (if ∃ k, k < M.length ∧ a ∈ w.φ k then H a else w.F a) = some o
    rw [if_neg h]; exact e
theorem mrFz (m : MR X.K X.mg w H M) : MR X.K X.mg (wFz w H M) H [] := ⟨fun a o e => by
  have e : (if ∃ k, k < M.length ∧ a ∈ w.φ k then H a else w.F a) = some o := e
  split at e
  · exact e
  · exact m.sub a o e, fun k t e => by simp at e, fun j k a hj => by simp at hj⟩
theorem erFz {ρ : Ev} (m : MR X.K X.mg w H M) (er : ER X.K X.mg w M σ ρ) : ER X.K X.mg (wFz w H M) [] σ (ρ.map (fzS M)) := ⟨by rw [er.len, List.length_map], fun j x e => by
  rw [List.getElem?_map] at e
  cases z : ρ[j]? with
  | none => rw [z] at e; cases e
  | some y =>
    rw [z] at e
    cases y with
    | none => cases e
    | some y =>
      obtain ⟨v, h1, h2⟩ := er.at_ j y z
      refine ⟨v, h1, ?_⟩
      cases y with
      | d d => cases e; exact Dp.mono (wFz_same m) h2
      | h k =>
        cases e
        obtain ⟨hk, rfl⟩ := h2
        obtain ⟨t, ht⟩ : ∃ t, M[k]? = some t := ⟨M[k], List.getElem?_eq_getElem hk⟩
        show Dp X.K X.mg (wFz w H M).F _ (frz (M.getD k (.d .non)))
        rw [getD_of ht]
        exact (m.obj k t ht).1.seen (wFz_same m) fun a ha o ho => by rw [wFz_in hk ha]; exact ho⟩
/-- what is frozen behind it: what was, and what is new -/
def fBack (F0 H F1 : Hp) : Hp := fun a => match H a with
  | none => F1 a
  | some _ => F0 a
theorem fBack_new {F0 H F1 : Hp} {a : Addr} (h : H a = none) : fBack F0 H F1 a = F1 a := by unfold fBack; rw [h]
theorem fBack_old {F0 H F1 : Hp} {a : Addr} {o : HO} (h : H a = some o) : fBack F0 H F1 a = F0 a := by unfold fBack; rw [h]
mutual
theorem tup_free : ∀ {v : V} {t : T} {fp : List Addr} {F : Hp}, TR X.K X.mg F H v t fp → ntT t = true → ∀ a ∈ fp, ∀ xs, H a ≠ some (.tup xs) ∧ ∀ o, H a ≠ some (.frz o (.tup xs))
  | _, _, _, _, .d _, _ => fun _ h => nomatch h
  | _, _, _, _, .lst h n l, e => fun a ha xs => by
    rcases List.mem_cons.mp ha with rfl | ha
    · rw [h]; exact ⟨(fun z => nomatch z), fun _ z => nomatch z⟩
    · exact tup_freeL l e a ha xs
  | _, _, _, _, .tup _ _ _, e => nomatch e
  | _, _, _, _, .ins h n m l, e => fun a ha xs => by
    rcases List.mem_cons.mp ha with rfl | ha
    · rw [h]; exact ⟨(fun z => nomatch z), fun _ z => nomatch z⟩
    · exact tup_freeF l e a ha xs
  | _, _, _, _, .dic h n l, e => fun a ha xs => by
    rcases List.mem_cons.mp ha with rfl | ha
    · rw [h]; exact ⟨(fun z => nomatch z), fun _ z => nomatch z⟩
    · exact tup_freeK l e a ha xs
theorem tup_freeL : ∀ {v : List V} {t : List T} {fp : List Addr} {F : Hp}, TRL X.K X.mg F H v t fp → ntL t = true → ∀ a ∈ fp, ∀ xs, H a ≠ some (.tup xs) ∧ ∀ o, H a ≠ some (.frz o (.tup xs))
  | _, _, _, _, .nil, _ => fun _ h => nomatch h
  | _, _, _, _, .cons h r, e => fun a ha xs => by
    have e := Bool.and_eq_true_iff.mp e
    rcases List.mem_append.mp ha with ha | ha
    · exact tup_free h e.1 a ha xs
    · exact tup_freeL r e.2 a ha xs
theorem tup_freeF : ∀ {v : List (Str × V)} {t : List (Str × T)} {fp : List Addr} {F : Hp}, TRF X.K X.mg F H v t fp → ntF t = true → ∀ a ∈ fp, ∀ xs, H a ≠ some (.tup xs) ∧ ∀ o, H a ≠ some (.frz o (.tup xs))
  | _, _, _, _, .nil, _ => fun _ h => nomatch h
  | _, _, _, _, .cons h r, e => fun a ha xs => by
    have e := Bool.and_eq_true_iff.mp e
    rcases List.mem_append.mp ha with ha | ha
    · exact tup_free h e.1 a ha xs
    · exact tup_freeF r e.2 a ha xs
theorem tup_freeK : ∀ {v : List (Key × V)} {t : List (Key × T)} {fp : List Addr} {F : Hp}, TRK X.K X.mg F H v t fp → ntK t = true → ∀ a ∈ fp, ∀ xs, H a ≠ some (.tup xs) ∧ ∀ o, H a ≠ some (.frz o (.tup xs))
  | _, _, _, _, .nil, _ => fun _ h => nomatch h
  | _, _, _, _, .cons h r, e => fun a ha xs => by
    have e := Bool.and_eq_true_iff.mp e
    rcases List.mem_append.mp ha with ha | ha
    · exact tup_free h e.1 a ha xs
    · exact tup_freeK r e.2 a ha xs
end
section
variable {F0 F1 : Hp}
/-- tuples behind it -/
theorem rd_back (hk : ∀ a, (∀ xs, F1 a = some (.tup xs) → fBack F0 H F1 a = some (.tup xs)) ∧ ∀ o xs, F1 a = some (.frz o (.tup xs)) → fBack F0 H F1 a = some (.frz o (.tup xs))) {p : Bool} {a : Addr} {xs : List V} (h : SqP X.K F1 p a xs) : SqP X.K (fBack F0 H F1) p a xs := by
  obtain ⟨h1, h2⟩ := h
  refine ⟨?_, fun z => (h2 z).imp fun o q => ⟨q.1.imp (fun y => (hk a).2 o xs y) id, q.2⟩⟩
  rcases h1 with (h1 | ⟨o, h1⟩) | h1
  · exact .inl (.inl ((hk a).1 xs h1))
  · exact .inl (.inr ⟨o, (hk a).2 o xs h1⟩)
  · exact .inr h1
mutual
theorem dp_back (hk : ∀ a, (∀ xs, F1 a = some (.tup xs) → fBack F0 H F1 a = some (.tup xs)) ∧ ∀ o xs, F1 a = some (.frz o (.tup xs)) → fBack F0 H F1 a = some (.frz o (.tup xs))) : ∀ {v : V} {d : D}, Dp X.K X.mg F1 v d → ncD d = true → Dp X.K X.mg (fBack F0 H F1) v d
  | _, _, .non, _ => .non
  | _, _, .bl b, _ => .bl b
  | _, _, .int i, _ => .int i
  | _, _, .str x, _ => .str x
  | _, _, .lst _ _, e => nomatch e
  | _, _, .ro _ _, e => nomatch e
  | _, _, .tupP h l, e => .tupP (rd_back hk h) (dpl_back hk l e)
  | _, _, .ins _ _ _, e => nomatch e
  | _, _, .glo m, _ => .glo m
  | _, _, .ty n, _ => .ty n
  | _, _, .dic _ _, e => nomatch e
  | _, _, .junk _, e => nomatch e
theorem dpl_back (hk : ∀ a, (∀ xs, F1 a = some (.tup xs) → fBack F0 H F1 a = some (.tup xs)) ∧ ∀ o xs, F1 a = some (.frz o (.tup xs)) → fBack F0 H F1 a = some (.frz o (.tup xs))) : ∀ {v : List V} {d : List D}, DpL X.K X.mg F1 v d → ncL d = true → DpL X.K X.mg (fBack F0 H F1) v d
  | _, _, .nil, _ => .nil
  | _, _, .cons h r, e => .cons (dp_back hk h (Bool.and_eq_true_iff.mp e).1) (dpl_back hk r (Bool.and_eq_true_iff.mp e).2)
end
mutual
theorem tr_back (hk : ∀ a, (∀ xs, F1 a = some (.tup xs) → fBack F0 H F1 a = some (.tup xs)) ∧ ∀ o xs, F1 a = some (.frz o (.tup xs)) → fBack F0 H F1 a = some (.frz o (.tup xs))) : ∀ {v : V} {t : T} {fp : List Addr}, TR X.K X.mg F1 H2 v t fp → ncT t = true → (∀ a ∈ fp, fBack F0 H F1 a = none) → TR X.K X.mg (fBack F0 H F1) H2 v t fp
  | _, _, _, .d h, e, _ => .d (dp_back hk h e)
  | _, _, _, .lst h n l, e, z => .lst h (z _ List.mem_cons_self) (trl_back hk l e fun a ha => z a (List.mem_cons_of_mem _ ha))
  | _, _, _, .tup _ _ _, e, _ => nomatch e
  | _, _, _, .ins h n m l, e, z => .ins h (z _ List.mem_cons_self) m (trf_back hk l e fun a ha => z a (List.mem_cons_of_mem _ ha))
  | _, _, _, .dic _ _ _, e, _ => nomatch e
theorem trl_back (hk : ∀ a, (∀ xs, F1 a = some (.tup xs) → fBack F0 H F1 a = some (.tup xs)) ∧ ∀ o xs, F1 a = some (.frz o (.tup xs)) → fBack F0 H F1 a = some (.frz o (.tup xs))) : ∀ {v : List V} {t : List T} {fp : List Addr}, TRL X.K X.mg F1 H2 v t fp → ncTL t = true → (∀ a ∈ fp, fBack F0 H F1 a = none) → TRL X.K X.mg (fBack F0 H F1) H2 v t fp
  | _, _, _, .nil, _, _ => .nil
  | _, _, _, .cons h r, e, z => .cons (tr_back hk h (Bool.and_eq_true_iff.mp e).1 fun a ha => z a (List.mem_append_left _ ha)) (trl_back hk r (Bool.and_eq_true_iff.mp e).2 fun a ha => z a (List.mem_append_right _ ha))
theorem trf_back (hk : ∀ a, (∀ xs, F1 a = some (.tup xs) → fBack F0 H F1 a = some (.tup xs)) ∧ ∀ o xs, F1 a = some (.frz o (.tup xs)) → fBack F0 H F1 a = some (.frz o (.tup xs))) : ∀ {v : List (Str × V)} {t : List (Str × T)} {fp : List Addr}, TRF X.K X.mg F1 H2 v t fp → ncTF t = true → (∀ a ∈ fp, fBack F0 H F1 a = none) → TRF X.K X.mg (fBack F0 H F1) H2 v t fp
  | _, _, _, .nil, _, _ => .nil
  | _, _, _, .cons h r, e, z => .cons (tr_back hk h (Bool.and_eq_true_iff.mp e).1 fun a ha => z a (List.mem_append_left _ ha)) (trf_back hk r (Bool.and_eq_true_iff.mp e).2 fun a ha => z a (List.mem_append_right _ ha))
end
end
theorem nt_at : ∀ {M : Mst} {k : Nat} {t : T}, ntL M = true → M[k]? = some t → ntT t = true
  | [], _, _, _, h => by simp at h
  | t :: r, 0, _, e, h => by simp at h; subst h; exact (Bool.and_eq_true_iff.mp e).1
  | t :: r, k + 1, _, e, h => nt_at (Bool.and_eq_true_iff.mp e).2 (by simpa using h)
variable {e : Expr} {Fe : Den}
theorem de_fresh (h : DE X W e Fe) : DE X W e (eFresh Fe) := h.mono fun σ H Q ⟨w, ρ, M, m, er, p⟩ => by
  unfold eFresh at p
  split at p
  · rename_i x M1 hd
    split at p
    · rename_i hc
      refine ⟨wFz w H M, _, [], mrFz m, erFz m er, ?_⟩
      rw [hd]
      intro w' H' e1 m1 v fp q hp
      obtain ⟨q1, q2, q3⟩ := q
      -- the heap is kept
      have hs : Same H H' := fun a o h => e1.keep a o h fun z => by
        rcases z with z | ⟨j, hj, _⟩ | z
        · rw [h] at z; cases z
        · exact absurd hj (Nat.not_lt_zero _)
        · cases z
      have gr : ∀ a, w'.F a ≠ none → (wFz w H M).F a ≠ none ∨ H a = none := fun a z => by
        rcases e1.gr a z with y | y | ⟨j, hj, _⟩ | y
        · exact .inl y
        · exact .inr y
        · exact absurd hj (Nat.not_lt_zero _)
        · cases y
      have old : ∀ a o, H a = some o → w'.F a ≠ none → (∀ k, k < M.length → a ∉ w.φ k) → w.F a = w'.F a := fun a o h z no => by
        rcases gr a z with y | y
        · rw [wFz_out no] at y
          cases hw : w.F a with
          | none => exact absurd hw y
          | some u => exact (e1.F a u (by rw [wFz_out no]; exact hw)).symm
        · rw [h] at y; cases y
      have hk : ∀ a, (∀ xs, w'.F a = some (.tup xs) → fBack w.F H w'.F a = some (.tup xs)) ∧ ∀ o xs, w'.F a = some (.frz o (.tup xs)) → fBack w.F H w'.F a = some (.frz o (.tup xs)) := fun a => by
        cases hH : H a with
        | none => rw [fBack_new hH]; exact ⟨fun _ z => z, fun _ _ z => z⟩
        | some u =>
          rw [fBack_old hH]
          have no : ∀ xs, (w'.F a = some (.tup xs) ∨ ∃ o, w'.F a = some (.frz o (.tup xs))) → ∀ k, k < M.length → a ∉ w.φ k := fun xs z k hk' y => by
            obtain ⟨t, ht⟩ : ∃ t, M[k]? = some t := ⟨M[k], List.getElem?_eq_getElem hk'⟩
            have tf := tup_free (m.obj k t ht).1 (nt_at hc.2 ht) a y xs
            have eq : w'.F a = H a := by
              rw [e1.F a u (by rw [wFz_in hk' y]; exact hH), hH]
            rcases z with z | ⟨o, z⟩
            · exact tf.1 (by rw [← eq]; exact z)
            · exact tf.2 o (by rw [← eq]; exact z)
          exact ⟨fun xs z => by rw [old a u hH (by rw [z]; exact fun y => nomatch y) (no xs (.inl z))]; exact z, fun o xs z => by rw [old a u hH (by rw [z]; exact fun y => nomatch y) (no xs (.inr ⟨o, z⟩))]; exact z⟩
      have newfp : ∀ a ∈ fp, H a = none := fun a ha => by
        rcases hp a ha with z | ⟨j, hj, _⟩ | z
        · exact z
        · exact absurd hj (Nat.not_lt_zero _)
        · cases z
      have fpn : ∀ a ∈ fp, fBack w.F H w'.F a = none := fun a ha => by rw [fBack_new (newfp a ha)]; exact (q1.fp a ha).1
      have sF : Same w.F (fBack w.F H w'.F) := fun a o z => by rw [fBack_old (m.sub a o z)]; exact z
      have notφ : ∀ a ∈ fp, ∀ k, k < M.length → a ∉ w.φ k := fun a ha k hk' y => by
        obtain ⟨t, ht⟩ : ∃ t, M[k]? = some t := ⟨M[k], List.getElem?_eq_getElem hk'⟩
        obtain ⟨_, o, z⟩ := (m.obj k t ht).1.fp a y
        rw [newfp a ha] at z; cases z
      refine p ⟨fBack w.F H w'.F, w.α, w.φ⟩ H' ⟨sF, Nat.le_refl _, fun _ _ => rfl, fun a o z _ => hs a o z, fun k hk' a ha => .inr (.inl ⟨k, hk', ha⟩), fun a z => ?_, fun a z => ?_⟩ ⟨fun a o z => ?_, fun k t ht => ?_, m.dis⟩ v fp ⟨tr_back hk q1 hc.1 fpn, q2, notφ⟩ fun a ha => .inl (newfp a ha)
      · cases hH : H a with
        | none => exact .inr (.inl hH)
        | some u =>
          have z : fBack w.F H w'.F a ≠ none := z
          rw [fBack_old hH] at z
          exact .inl z
      · cases hH : H a with
        | none => rfl
        | some u => rw [hs a u hH] at z; cases z
      · cases hH : H a with
        | none =>
          have z : fBack w.F H w'.F a = some o := z
          rw [fBack_new hH] at z
          exact m1.sub a o z
        | some u =>
          have z : fBack w.F H w'.F a = some o := z
          rw [fBack_old hH] at z
          exact hs a o (m.sub a o z)
      · obtain ⟨g1, g2⟩ := m.obj k t ht
        refine ⟨g1.stay sF fun a ha => ⟨?_, fun o ho => hs a o ho⟩, g2⟩
        obtain ⟨n0, o, ho⟩ := g1.fp a ha
        show fBack w.F H w'.F a = none
        rw [fBack_old ho]; exact n0
    · exact p.elim
  · exact p.elim
end
end DL

/-! DL35: len(o), repr(o), o == list, as the generator prints them; isinstance over an instance or a list -/
namespace DL
open PySem L2 PySem.Spec PyProof.Rows
structure OwnL (P : Program) (w : World) (K : PySem.W.Frag) (mg : Mg) (base : Heap) (c : Str) (k : Nat) (ps : List Str) (G : Fn) : Prop where
  ex : ∃ C f, mg c = some (.ref C) ∧ PySem.W.notFirst K C (.type "list") = true ∧ Meth K C "__eq__" f ∧ FOk P w K mg base k f ps G
structure SelfD (P : Program) (w : World) (K : PySem.W.Frag) (mg : Mg) (base : Heap) (c m : Str) (k : Nat) (ps : List Str) (G : Fn) : Prop where
  ex : ∃ C f, mg c = some (.ref C) ∧ Meth K C m f ∧ FOk P w K mg base k f ps G
section
variable {X : Cx} {W : WX} {a b e : Expr} {Fa Fb F : Den} {A : DenA} {pos p : Pos} {c x : Str} {k : Nat} {ps : List Str} {G : Fn}
theorem de_lenO (D : SelfD X.prog X.w X.K X.mg X.base c "__len__" k ps G) (hr : Room (k + 1) X.A) (hg : Gl X "len") (hm : X.mg "len" = none) (ha : DA X W [e] A) (hl : ps.length = 1 := by rfl)
    (he : starEach [e] X.env = (false, eval e X.env) :: starEach [] X.env := by rfl) (hpl : (backTo pos (starEach [] X.env)).any (·.1) = false := by rfl) : DE X W (.Call (.Name "len" p) [e] [] pos) (eB (gLenO c G) A) := by
  obtain ⟨C, f, hC, h1, h2⟩ := D.ex
  exact de_callB (call_lenO h1 h2 hl hr) (opL_lenO hC) hg hm (by decide +kernel) ha (by decide) (by decide) he hpl
theorem de_reprO (D : SelfD X.prog X.w X.K X.mg X.base c "__repr__" k ps G) (hr : Room (k + 1) X.A) (hg : Gl X "repr") (hm : X.mg "repr" = none) (ha : DA X W [e] A) (hl : ps.length = 1 := by rfl)
    (he : starEach [e] X.env = (false, eval e X.env) :: starEach [] X.env := by rfl) (hpl : (backTo pos (starEach [] X.env)).any (·.1) = false := by rfl) : DE X W (.Call (.Name "repr" p) [e] [] pos) (eB (gReprO c G) A) := by
  obtain ⟨C, f, hC, h1, h2⟩ := D.ex
  exact de_callB (call_reprO h1 h2 hl hr) (opL_reprO hC) hg hm (by decide +kernel) ha (by decide) (by decide) he hpl
theorem de_ownEqL (D : OwnL X.prog X.w X.K X.mg X.base c k ps G) (hr : Room k X.A) (ha : DE X W a Fa) (hb : DE X W b Fb) (hl : ps.length = 2 := by rfl) : DE X W (.Compare a [.Eq] [b] pos) (eSeq2 (gOwnL c G) Fa Fb) := by
  obtain ⟨C, g, hC, hn, hm, F⟩ := D.ex
  exact de_cmp (op_ownEqL (a := a) (b := b) hn hm F hl hr) (op2_ownL hC) ha hb (nomark _)
theorem dt_ownEqL (D : OwnL X.prog X.w X.K X.mg X.base c k ps G) (hr : Room k X.A) (ha : DE X W a Fa) (hb : DE X W b Fb) (hl : ps.length = 2 := by rfl) : DT X W (.Compare a [.Eq] [b] pos) (eTB (eSeq2 (gOwnL c G) Fa Fb)) := by
  obtain ⟨C, g, hC, hn, hm, F⟩ := D.ex
  exact dt_cmp (op_ownEqL (a := a) (b := b) hn hm F hl hr) (op2_ownL hC) ha hb (nomark _)
end
section
variable {X : Cx} {W : WX} {a b c : Expr} {A : DenA} {pos : Pos} {x y z : Str}
theorem ds_par3 {G1 G2 G3 : DenG} {i j l : Nat} {px py pz pt : Pos} {kt k2 : Nat} {pt2 : Pos} (g1 : GN X W i G1) (g2 : GN X W j G2) (g3 : GN X W l G3) (hc : X.calm = true) (hN : X.N.Nodup) (hi : X.N[i]? = some x) (hj : X.N[j]? = some y) (hl : X.N[l]? = some z) (hij : i ≠ j) (hil : i ≠ l) (hjl : j ≠ l)
    (hx : X.env.scope.names.lookup x = some .local) (hy : X.env.scope.names.lookup y = some .local) (hz : X.env.scope.names.lookup z = some .local) (ha : DA X W [a, b, c] A)
    (hw : swappedStores [.Tuple [.Name x px, .Name y py, .Name z pz] kt pt] (.Tuple [a, b, c] k2 pt2) X.env = pure (some [x, y, z]))
    (hs : swapsWithSole [.Tuple [.Name x px, .Name y py, .Name z pz] kt pt] (.Tuple [a, b, c] k2 pt2) pos.line X.env = pure false := by rfl) :
    DS X W (.Assign [.Tuple [.Name x px, .Name y py, .Name z pz] kt pt] (.Tuple [a, b, c] k2 pt2) pos) (sPar3 G1 G2 G3 A) := (ps_par3 hc hN hi hj hl hij hil hjl hx hy hz ha hw hs).mono fun Dn σ H h => by
  obtain ⟨w, ρ, M, m, er, p⟩ := h
  refine ⟨w, ρ, M, m, er, (p.bindF er).imp fun w1 H1 M1 rs _ _ z => ?_⟩
  obtain ⟨e1, m1, p1⟩ := z
  intro vs fp q hf
  replace p1 := p1 fp hf
  split at p1
  · rename_i r1 r2 r3
    cases q with
    | @cons v vs _ _ f1 f23 q1 q23 dj1 =>
    cases q23 with
    | @cons v' vs' _ _ f2 f3' q2 q3' dj2 =>
    cases q3' with
    | @cons v'' vs'' _ _ f3 f4 q3 q4 dj3 =>
    cases q4
    refine ⟨v, v', v'', rfl, ?_⟩
    refine g1.rd v σ H1 (fun σ1 H2 => Dn.nx ((σ1.set j (some v')).set l (some v'')) H2) ⟨w1, ρ, M1, r1, f1, m1, er.stay e1, q1, ?_⟩
    cases z1 : G1 r1 ρ M1 with
    | none => rw [z1] at p1; exact p1
    | some s =>
      obtain ⟨ρ1, M2⟩ := s
      rw [z1] at p1
      intro w2 H2 σ2 e2 m2 er2
      have d12 : ∀ a ∈ f2, a ∉ f1 := fun a ha hb => dj1 a hb (List.mem_append_left _ ha)
      have d13 : ∀ a ∈ f3, a ∉ f1 := fun a ha hb => dj1 a hb (List.mem_append_right _ (List.mem_append_left _ ha))
      have d23 : ∀ a ∈ f3, a ∉ f2 := fun a ha hb => dj2 a hb (List.mem_append_left _ ha)
      refine g2.rd v' σ2 H2 (fun σ1 H2 => Dn.nx (σ1.set l (some v'')) H2) ⟨w2, ρ1, M2, r2, f2, m2, er2, q2.stay e2 d12, ?_⟩
      dsimp only at p1
      cases z2 : G2 r2 ρ1 M2 with
      | none => rw [z2] at p1; exact p1
      | some s =>
        obtain ⟨ρ2, M3⟩ := s
        rw [z2] at p1
        intro w3 H3 σ3 e3 m3 er3
        refine g3.rd v'' σ3 H3 Dn.nx ⟨w3, ρ2, M3, r3, f3, m3, er3, (q3.stay e2 d13).stay e3 d23, ?_⟩
        dsimp only at p1
        cases z3 : G3 r3 ρ2 M3 with
        | none => rw [z3] at p1; exact p1
        | some s =>
          obtain ⟨ρ3, M4⟩ := s
          rw [z3] at p1
          have e12 := (e2.mono fun a ha => List.mem_append_left f2 ha).trans e3 fun a ha => .inr (.inr (List.mem_append_right _ ha))
          exact fun w4 H4 σ4 e4 m4 er4 => p1 w4 H4 σ4 ((e12.mono fun a ha => by
            rcases List.mem_append.mp ha with h | h
            · exact List.mem_append_left _ h
            · exact List.mem_append_right _ (List.mem_append_left _ h)).trans e4 fun a ha => .inr (.inr (List.mem_append_right _ (List.mem_append_right _ (List.mem_append_left _ ha))))) m4 er4
  · exact p1.elim
end
end DL

/-! What each def does, by plain data (printed by gen.py) -/
namespace Toy
open PySem L2 DL
def t_Table_eq_0 : DenS :=
  (sIf (tOrD (tNotD (eTru (eB (isiC2R "Table") (eCons (eVar 1) (eCons (eC (.glo "Table")) eNil))))) (eTB (eSeq2 neR (eFld ["Table"] "left_kinds" (eVar 0)) (eFld ["Table"] "left_kinds" (eVar 1))))) (sRet (eC (.bl false))) sNil)
def t_Table_eq_1 : DenS :=
  (sRet (eAnd (eSeq2 eqR (eFld ["Table"] "right_kinds" (eVar 0)) (eFld ["Table"] "right_kinds" (eVar 1))) (eSeq2 eqR (eFld ["Table"] "value_rows" (eVar 0)) (eFld ["Table"] "value_rows" (eVar 1)))))
def b_Table_eq : DenS :=
  (sSeq t_Table_eq_0 t_Table_eq_1)
def m_Table_eq : Fn := body 2 b_Table_eq
def t_is_word_0 : DenS :=
  (sIf (tOrD (tNotD (eTru (eB isiR (eCons (eVar 0) (eCons (eC (.ty "str")) eNil))))) (tNotD (eTB (eChain leR leR (eC (.int 1)) (eB (scL lenD) (eCons (eVar 0) eNil)) (eVar 1))))) (sRet (eC (.bl false))) sNil)
def t_is_word_1 : DenS :=
  (sRet (eB (scL allDD) (eCons (eLc (iOf (eVar 0)) (.one 2) [2] tYesD (eSeq2 (sc2 (inOp false)) (eVar 2) (eC (.str "abcdefghijklmnopqrstuvwxyz")))) eNil)))
def b_is_word : DenS :=
  (sSeq t_is_word_0 t_is_word_1)
def m_is_word : Fn := body 3 b_is_word
def b_is_kind : DenS :=
  (sRet (eCall m_is_word (eArity 2 (eCons (eVar 0) (eCons (eC (.int 6)) eNil)))))
def m_is_kind : Fn := body 1 b_is_kind
def b_is_listed : DenS :=
  (sRet (eB isiR (eCons (eVar 0) (eCons (eTup (eCons (eC (.ty "list")) (eCons (eC (.ty "tuple")) eNil))) eNil))))
def m_is_listed : Fn := body 1 b_is_listed
def t_check_kinds_0 : DenS :=
  (sIf (tOrD (tNotD (eTru (eCall m_is_listed (eArity 1 (eCons (eVar 0) eNil))))) (tNotD (eTB (eChain leR leR (eC (.int 1)) (eB (scL lenD) (eCons (eVar 0) eNil)) (eC (.int 5)))))) sBad sNil)
def t_check_kinds_1 : DenS :=
  (sFor (iEnumS (eCons (eVar 0) eNil)) (.many [2, 3]) (sIf (tOrD (tNotD (eTru (eCall m_is_kind (eArity 1 (eCons (eVar 3) eNil))))) (eTB (eSeq2 (sc2 (inOp false)) (eVar 3) (eB listR (eCons (eSl (eVar 0) oNone (oSome (eVar 2))) eNil))))) sBad sNil))
def b_check_kinds : DenS :=
  (sSeq t_check_kinds_0 t_check_kinds_1)
def m_check_kinds : Fn := body 4 b_check_kinds
def b_is_number : DenS :=
  (sRet (eAnd (eB isiR (eCons (eVar 0) (eCons (eC (.ty "int")) eNil))) (eNot (eB isiR (eCons (eVar 0) (eCons (eC (.ty "bool")) eNil))))))
def m_is_number : Fn := body 1 b_is_number
def t_check_values_0 : DenS :=
  (sIf (tOrD (tNotD (eTru (eCall m_is_listed (eArity 1 (eCons (eVar 0) eNil))))) (eTB (eSeq2 neR (eB (scL lenD) (eCons (eVar 0) eNil)) (eVar 1)))) sBad sNil)
def t_check_values_1 : DenS :=
  (sFor (iEnumS (eCons (eVar 0) eNil)) (.many [3, 4]) (sIf (tOrD (tNotD (eTru (eCall m_is_listed (eArity 1 (eCons (eVar 4) eNil))))) (tOrD (eTB (eSeq2 neR (eB (scL lenD) (eCons (eVar 4) eNil)) (eVar 2))) (tNotD (eTru (eB (scL allDD) (eCons (eLc (iOf (eVar 4)) (.one 5) [5] tYesD (eCall m_is_number (eArity 1 (eCons (eVar 5) eNil)))) eNil)))))) sBad sNil))
def b_check_values : DenS :=
  (sSeq t_check_values_0 t_check_values_1)
def m_check_values : Fn := body 6 b_check_values
def t_Table_init_0 : DenS :=
  (sExpr (eCall m_check_kinds (eArity 2 (eCons (eVar 1) (eCons (eC (.str "left")) eNil)))))
def t_Table_init_1 : DenS :=
  (sExpr (eCall m_check_kinds (eArity 2 (eCons (eVar 2) (eCons (eC (.str "right")) eNil)))))
def t_Table_init_2 : DenS :=
  (sExpr (eCall m_check_values (eArity 3 (eCons (eVar 3) (eCons (eB (scL lenD) (eCons (eVar 1) eNil)) (eCons (eB (scL lenD) (eCons (eVar 2) eNil)) eNil))))))
def t_Table_init_3 : DenS :=
  (sFldD ["Table"] "left_kinds" (eB tuplePR (eCons (eVar 1) eNil)) (eVar 0))
def t_Table_init_4 : DenS :=
  (sFldD ["Table"] "right_kinds" (eB tuplePR (eCons (eVar 2) eNil)) (eVar 0))
def t_Table_init_5 : DenS :=
  (sFldD ["Table"] "value_rows" (eB tuplePR (eCons (eLc (iOf (eVar 3)) (.one 4) [4] tYesD (eB tuplePR (eCons (eVar 4) eNil))) eNil)) (eVar 0))
def t_Table_init_6 : DenS :=
  (sFldT ["Table"] "cells" (eLc2 (iOf (eFld ["Table"] "value_rows" (eVar 0))) (.one 4) [4, 5] tYesD (iOf (eVar 4)) (.one 5) [5] tYesD (eVar 5)) 0)
def b_Table_init : DenS :=
  (sSeq t_Table_init_0 (sSeq t_Table_init_1 (sSeq t_Table_init_2 (sSeq t_Table_init_3 (sSeq t_Table_init_4 (sSeq t_Table_init_5 t_Table_init_6))))))
def m_Table_init : Fn := body 6 b_Table_init
def b_Table_len : DenS :=
  (sRet (eB (scL lenD) (eCons (eFld ["Table"] "cells" (eVar 0)) eNil)))
def m_Table_len : Fn := body 1 b_Table_len
def b_Table_repr : DenS :=
  (sRet (eFStr [(eC (.str "Table(")), (eFmt (eB (scL lenD) (eCons (eFld ["Table"] "left_kinds" (eVar 0)) eNil))), (eC (.str " by ")), (eFmt (eB (scL lenD) (eCons (eFld ["Table"] "right_kinds" (eVar 0)) eNil))), (eC (.str ")"))]))
def m_Table_repr : Fn := body 1 b_Table_repr
def t_Table_entry_0 : DenS :=
  (sIf (eTB (eSeq2 (sc2 (inOp true)) (eVar 1) (eFld ["Table"] "left_kinds" (eVar 0)))) sBad sNil)
def t_Table_entry_1 : DenS :=
  (sIf (eTB (eSeq2 (sc2 (inOp true)) (eVar 2) (eFld ["Table"] "right_kinds" (eVar 0)))) sBad sNil)
def t_Table_entry_2 : DenS :=
  (sRet (eSeq2 getR (eSeq2 getR (eFld ["Table"] "value_rows" (eVar 0)) (eIdx (eFld ["Table"] "left_kinds" (eVar 0)) (eVar 1))) (eIdx (eFld ["Table"] "right_kinds" (eVar 0)) (eVar 2))))
def b_Table_entry : DenS :=
  (sSeq t_Table_entry_0 (sSeq t_Table_entry_1 t_Table_entry_2))
def m_Table_entry : Fn := body 3 b_Table_entry
def b_Table_is_square : DenS :=
  (sRet (eSeq2 eqR (eFld ["Table"] "left_kinds" (eVar 0)) (eFld ["Table"] "right_kinds" (eVar 0))))
def m_Table_is_square : Fn := body 1 b_Table_is_square
def b_Table_left : DenS :=
  (sRet (eB listR (eCons (eFld ["Table"] "left_kinds" (eVar 0)) eNil)))
def m_Table_left : Fn := body 1 b_Table_left
def b_Table_right : DenS :=
  (sRet (eB listR (eCons (eFld ["Table"] "right_kinds" (eVar 0)) eNil)))
def m_Table_right : Fn := body 1 b_Table_right
def b_Table_rows : DenS :=
  (sRet (eLc (iOf (eFld ["Table"] "value_rows" (eVar 0))) (.one 1) [1] tYesD (eB listR (eCons (eVar 1) eNil))))
def m_Table_rows : Fn := body 2 b_Table_rows
def t_zdraw_0 : DenS :=
  (sIf (tAndD (eTB (eSeq2 eqR (eSeq2 getR (eVar 0) (eC (.int 2))) (eC (.int 0)))) (eTB (eSeq2 ltR (eSeq2 getR (eVar 0) (eC (.int 1))) (eB (scL lenD) (eCons (eSeq2 getR (eVar 0) (eC (.int 0))) eNil))))) (sSeq (sAsg (eSeq2 getR (eSeq2 getR (eVar 0) (eC (.int 0))) (eSeq2 getR (eVar 0) (eC (.int 1)))) (gSet 2))
    (sSeq (sAsg (eSeq2 addR (eSeq2 getR (eVar 0) (eC (.int 1))) (eC (.int 1))) (gItem (eVar 0) (eC (.int 1))))
    (sIf (eTB (eSeq2 gtR (eVar 2) (eSeq2 powR (eC (.int 10)) (eC (.int 18))))) (sAsg (eVar 2) (gItem (eVar 0) (eC (.int 2)))) (sAsg (eSeq2 modR (eB (scL intD) (eCons (eSeq2 addR (eSeq2 addR (eSeq2 mulR (eSeq2 getR (eVar 0) (eC (.int 3))) (eC (.int 48611))) (eSeq2 mulR (eSeq2 modR (eB (scL intD) (eCons (eVar 2) eNil)) (eC (.int 1000003))) (eC (.int 7919)))) (eC (.int 104729))) eNil)) (eC
        (.int 1000000007))) (gItem (eVar 0) (eC (.int 3))))))) sNil)
def t_zdraw_1 : DenS :=
  (sIf (eTB (eSeq2 gtR (eSeq2 getR (eVar 0) (eC (.int 2))) (eC (.int 0)))) (sSeq (sAsg (eSeq2 modR (eB (scL intD) (eCons (eSeq2 getR (eVar 0) (eC (.int 2))) eNil)) (eVar 1)) (gSet 3))
    (sSeq (sAsg (eSeq2 divR (eSeq2 getR (eVar 0) (eC (.int 2))) (eVar 1)) (gItem (eVar 0) (eC (.int 2))))
    (sRet (eVar 3)))) sNil)
def t_zdraw_2 : DenS :=
  (sAsg (eSeq2 modR (eB (scL intD) (eCons (eSeq2 addR (eSeq2 mulR (eSeq2 getR (eVar 0) (eC (.int 3))) (eSeq2 getR (eVar 0) (eC (.int 3)))) (eSeq2 mulR (eSeq2 getR (eVar 0) (eC (.int 3))) (eC (.int 31)))) eNil)) (eC (.int 1000000007))) (gSet 4))
def t_zdraw_3 : DenS :=
  (sAsg (eSeq2 modR (eB (scL intD) (eCons (eSeq2 addR (eSeq2 addR (eSeq2 mulR (eVar 4) (eC (.int 69621))) (eSeq2 mulR (eSeq2 getR (eVar 0) (eC (.int 3))) (eC (.int 40014)))) (eC (.int 25013))) eNil)) (eC (.int 1000000007))) (gItem (eVar 0) (eC (.int 3))))
def t_zdraw_4 : DenS :=
  (sRet (eSeq2 modR (eB (scL intD) (eCons (eSeq2 addR (eSeq2 divR (eSeq2 getR (eVar 0) (eC (.int 3))) (eC (.int 53))) (eSeq2 mulR (eSeq2 modR (eB (scL intD) (eCons (eSeq2 getR (eVar 0) (eC (.int 3))) eNil)) (eC (.int 9973))) (eC (.int 97)))) eNil)) (eVar 1)))
def b_zdraw : DenS :=
  (sSeq t_zdraw_0 (sSeq t_zdraw_1 (sSeq t_zdraw_2 (sSeq t_zdraw_3 t_zdraw_4))))
def m_zdraw : Fn := body 5 b_zdraw
def t_znumber_0 : DenS :=
  (sAsg (eCall m_zdraw (eArity 2 (eCons (eVar 0) (eCons (eC (.int 4)) eNil)))) (gSet 1))
def t_znumber_1 : DenS :=
  (sIf (eTB (eSeq2 eqR (eVar 1) (eC (.int 0)))) (sRet (eSeq2 subR (eCall m_zdraw (eArity 2 (eCons (eVar 0) (eCons (eC (.int 7)) eNil)))) (eC (.int 3)))) sNil)
def t_znumber_2 : DenS :=
  (sIf (eTB (eSeq2 eqR (eVar 1) (eC (.int 1)))) (sRet (eCall m_zdraw (eArity 2 (eCons (eVar 0) (eCons (eC (.int 2)) eNil))))) sNil)
def t_znumber_3 : DenS :=
  (sIf (eTB (eSeq2 eqR (eVar 1) (eC (.int 2)))) (sRet (eSeq2 subR (eCall m_zdraw (eArity 2 (eCons (eVar 0) (eCons (eSeq2 addR (eSeq2 mulR (eC (.int 2)) (eSeq2 powR (eC (.int 10)) (eC (.int 29)))) (eC (.int 1))) eNil)))) (eSeq2 powR (eC (.int 10)) (eC (.int 29))))) sNil)
def t_znumber_4 : DenS :=
  (sRet (eSeq2 subR (eCall m_zdraw (eArity 2 (eCons (eVar 0) (eCons (eC (.int 2001)) eNil)))) (eC (.int 1000))))
def b_znumber : DenS :=
  (sSeq t_znumber_0 (sSeq t_znumber_1 (sSeq t_znumber_2 (sSeq t_znumber_3 t_znumber_4))))
def m_znumber : Fn := body 2 b_znumber
def b_zof : DenS :=
  (sRet (eSeq2 getR (eVar 1) (eCall m_zdraw (eArity 2 (eCons (eVar 0) (eCons (eB (scL lenD) (eCons (eVar 1) eNil)) eNil))))))
def m_zof : Fn := body 2 b_zof
def t_zspoilt_0 : DenS :=
  (sAsg (eLc (iOf (eVar 1)) (.one 5) [5] tYesD (eB listR (eCons (eVar 5) eNil))) (gSetM 2))
def t_zspoilt_1 : DenS :=
  (sIf (eTB (eSeq2 eqR (eCall m_zdraw (eArity 2 (eCons (eVar 0) (eCons (eC (.int 4)) eNil)))) (eC (.int 0)))) (sSeq (sPar2 (gSet 3) (gSet 4) (eCons (eCall m_zdraw (eArity 2 (eCons (eVar 0) (eCons (eB (scL lenD) (eCons (eVar 2) eNil)) eNil)))) (eCons (eCall m_zdraw (eArity 2 (eCons (eVar 0) (eCons (eLenS (snP (pSub (pVar 2) (vC (.int 0))))) eNil)))) eNil)))
    (sAsg (eSeq2 addR (eFlat (snP (pSub (pSub (pVar 2) (vVar 3)) (vVar 4)))) (eCall m_zof (eArity 2 (eCons (eVar 0) (eCons (eLst (eCons (eC (.int 1)) (eCons (eC (.int 2)) (eCons (eSeq2 subR (eC (.int 0)) (eC (.int 1))) (eCons (eC (.int 5)) eNil))))) eNil))))) (gItemP (pSub (pVar 2) (vVar 3)) (vVar 4)))) sNil)
def t_zspoilt_2 : DenS :=
  (sRet (eVar 2))
def b_zspoilt : DenS :=
  (sSeq t_zspoilt_0 (sSeq t_zspoilt_1 t_zspoilt_2))
def m_zspoilt : Fn := body 6 b_zspoilt
def t_zgrid_0 : DenS :=
  (sAsg (eCall m_zdraw (eArity 2 (eCons (eVar 0) (eCons (eC (.int 8)) eNil)))) (gSet 3))
def t_zgrid_1 : DenS :=
  (sAsg (eLc (iRange1 (eCons (eVar 1) eNil)) (.one 7) [7] tYesD (eCall m_znumber (eArity 1 (eCons (eVar 0) eNil)))) (gSet 4))
def t_zgrid_2 : DenS :=
  (sAsg (eLc (iRange1 (eCons (eVar 2) eNil)) (.one 7) [7] tYesD (eCall m_znumber (eArity 1 (eCons (eVar 0) eNil)))) (gSet 5))
def t_zgrid_3 : DenS :=
  (sIf (eTB (eSeq2 eqR (eVar 3) (eC (.int 0)))) (sRet (eLc (iRange1 (eCons (eVar 1) eNil)) (.one 8) [8] tYesD (eLc (iRange1 (eCons (eVar 2) eNil)) (.one 9) [9] tYesD (eCall m_zdraw (eArity 2 (eCons (eVar 0) (eCons (eC (.int 3)) eNil))))))) sNil)
def t_zgrid_4 : DenS :=
  (sIf (eTB (eSeq2 eqR (eVar 3) (eC (.int 1)))) (sRet (eLc (iRange1 (eCons (eVar 1) eNil)) (.one 8) [8] tYesD (eLc (iRange1 (eCons (eVar 2) eNil)) (.one 9) [9] tYesD (eCall m_znumber (eArity 1 (eCons (eVar 0) eNil)))))) sNil)
def t_zgrid_5 : DenS :=
  (sIf (eTB (eSeq2 eqR (eVar 3) (eC (.int 2)))) (sAsg (eLc (iOf (eVar 4)) (.one 10) [10] tYesD (eLc (iOf (eVar 5)) (.one 11) [11] tYesD (eSeq2 addR (eVar 10) (eVar 11)))) (gSet 6)) (sIf (eTB (eSeq2 eqR (eVar 3) (eC (.int 3)))) (sAsg (eLc (iOf (eVar 4)) (.one 10) [10] tYesD (eLc (iOf (eVar 5)) (.one 11) [11] tYesD (eB (scL maxD) (eCons (eLst (eCons (eVar 10) (eCons (eVar 11) eNil))) eNil))))
        (gSet 6)) (sIf (eTB (eSeq2 eqR (eVar 3) (eC (.int 4)))) (sAsg (eLc (iOf (eVar 4)) (.one 10) [10] tYesD (eLc (iOf (eVar 5)) (.one 11) [11] tYesD (eB (scL minD) (eCons (eLst (eCons (eVar 10) (eCons (eVar 11) eNil))) eNil)))) (gSet 6)) (sIf (eTB (eSeq2 eqR (eVar 3) (eC (.int 5)))) (sAsg (eLc (iOf (eVar 4)) (.one 10) [10] tYesD (eLc (iOf (eVar 5)) (.one 11) [11] tYesD (eVar 10))) (gSet 6))
        (sIf (eTB (eSeq2 eqR (eVar 3) (eC (.int 6)))) (sAsg (eLc (iOf (eVar 4)) (.one 10) [10] tYesD (eB listR (eCons (eVar 5) eNil))) (gSet 6)) (sAsg (eLc (iOf (eVar 4)) (.one 10) [10] tYesD (eLc (iOf (eVar 5)) (.one 11) [11] tYesD (eSeq2 getR (eVar 4) (eC (.int 0))))) (gSet 6)))))))
def t_zgrid_6 : DenS :=
  (sRet (eCall m_zspoilt (eArity 2 (eCons (eVar 0) (eCons (eVar 6) eNil)))))
def b_zgrid : DenS :=
  (sSeq t_zgrid_0 (sSeq t_zgrid_1 (sSeq t_zgrid_2 (sSeq t_zgrid_3 (sSeq t_zgrid_4 (sSeq t_zgrid_5 t_zgrid_6))))))
def m_zgrid : Fn := body 12 b_zgrid
def t_zwords_0 : DenS :=
  (sAsg (eC (.str "abcdefghijklmnopqrstuvwxyz")) (gSet 3))
def t_zwords_1 : DenS :=
  (sAsg (eM1 joinR (eC (.str "")) (eLc (iRange1 (eCons (eCall m_zdraw (eArity 2 (eCons (eVar 0) (eCons (eVar 2) eNil)))) eNil)) (.one 8) [8] tYesD (eCall m_zof (eArity 2 (eCons (eVar 0) (eCons (eVar 3) eNil)))))) (gSet 4))
def t_zwords_2 : DenS :=
  (sAsg (eTup (eCons (eCall m_zdraw (eArity 2 (eCons (eVar 0) (eCons (eSeq2 addR (eB (scL lenD) (eCons (eVar 4) eNil)) (eC (.int 1))) eNil)))) (eCons (eCall m_zdraw (eArity 2 (eCons (eVar 0) (eCons (eC (.int 26)) eNil)))) eNil))) (gTupD 2 (gConsD (gSet 5) (gConsD (gSet 6) gNilD))))
def t_zwords_3 : DenS :=
  (sAsg (eLc (iRange1 (eCons (eVar 1) eNil)) (.one 8) [8] tYesD (eSeq2 addR (eVar 5) (eCall m_zdraw (eArity 2 (eCons (eVar 0) (eCons (eSeq2 addR (eSeq2 subR (eB (scL lenD) (eCons (eVar 4) eNil)) (eVar 5)) (eC (.int 1))) eNil)))))) (gSet 7))
def t_zwords_4 : DenS :=
  (sRet (eLc (iRange1 (eCons (eVar 1) eNil)) (.one 8) [8] tYesD (eSeq2 addR (eSeq2 addR (eSl (eVar 4) oNone (oSome (eVar 5))) (eSeq2 getR (eVar 3) (eSeq2 modR (eB (scL intD) (eCons (eSeq2 addR (eVar 6) (eSeq2 mulR (eC (.int 11)) (eVar 8))) eNil)) (eC (.int 26))))) (eSl (eVar 4) (oSome (eVar 5)) (oSome (eSeq2 getR (eVar 7) (eVar 8)))))))
def b_zwords : DenS :=
  (sSeq t_zwords_0 (sSeq t_zwords_1 (sSeq t_zwords_2 (sSeq t_zwords_3 t_zwords_4))))
def m_zwords : Fn := body 9 b_zwords
def b_zkinds : DenS :=
  (sRet (eCall m_zwords (eArity 3 (eCons (eVar 0) (eCons (eVar 1) (eCons (eC (.int 6)) eNil))))))
def m_zkinds : Fn := body 2 b_zkinds
def t_zplain_look_0 : DenS :=
  (sPar2 (gSet 2) (gSet 3) (eCons (eCall m_zkinds (eArity 2 (eCons (eVar 0) (eCons (eSeq2 addR (eC (.int 1)) (eCall m_zdraw (eArity 2 (eCons (eVar 0) (eCons (eVar 1) eNil))))) eNil)))) (eCons (eCall m_zkinds (eArity 2 (eCons (eVar 0) (eCons (eSeq2 addR (eC (.int 1)) (eCall m_zdraw (eArity 2 (eCons (eVar 0) (eCons (eVar 1) eNil))))) eNil)))) eNil)))
def t_zplain_look_1 : DenS :=
  (sIf (eTB (eSeq2 eqR (eCall m_zdraw (eArity 2 (eCons (eVar 0) (eCons (eC (.int 3)) eNil)))) (eC (.int 0)))) (sAsg (eB listR (eCons (eVar 2) eNil)) (gSet 3)) sNil)
def t_zplain_look_2 : DenS :=
  (sRet (eLst (eCons (eC (.str "places")) (eCons (eVar 2) (eCons (eVar 3) (eCons (eCall m_zgrid (eArity 3 (eCons (eVar 0) (eCons (eB (scL lenD) (eCons (eVar 2) eNil)) (eCons (eB (scL lenD) (eCons (eVar 3) eNil)) eNil))))) (eCons (eC (.str "sum")) (eCons (eC .non) eNil))))))))
def b_zplain_look : DenS :=
  (sSeq t_zplain_look_0 (sSeq t_zplain_look_1 t_zplain_look_2))
def m_zplain_look : Fn := body 4 b_zplain_look
def t_zreel_0 : DenS :=
  (sAsg (eB listR (eCons (eSl (eVar 0) oNone (oSome (eC (.int 63)))) eNil)) (gSet 1))
def t_zreel_1 : DenS :=
  (sRet (eLst (eCons (eVar 1) (eCons (eC (.int 0)) (eCons (eC (.int 0)) (eCons (eSeq2 addR (eC (.int 12011)) (eSeq2 mulR (eC (.int 7)) (eB (scL lenD) (eCons (eVar 1) eNil)))) eNil))))))
def b_zreel : DenS :=
  (sSeq t_zreel_0 t_zreel_1)
def m_zreel : Fn := body 2 b_zreel
def t_zsame_0 (rec : Fn) : DenS :=
  (sIf (tOrD (eTB (eSeq2 (sc2 (isN false)) (eVar 1) (eC .non))) (eTB (eSeq2 (sc2 (isN false)) (eVar 0) (eC .non)))) (sRet (eAnd (eSeq2 (sc2 (isN false)) (eVar 1) (eC .non)) (eSeq2 (sc2 (isN false)) (eVar 0) (eC .non)))) sNil)
def t_zsame_1 (rec : Fn) : DenS :=
  (sIf (eTru (eB isiR (eCons (eVar 1) (eCons (eC (.ty "list")) eNil)))) (sSeq (sIf (tOrD (tNotD (eTru (eB isiR (eCons (eVar 0) (eCons (eC (.ty "list")) eNil))))) (eTB (eSeq2 neR (eB (scL lenD) (eCons (eVar 0) eNil)) (eB (scL lenD) (eCons (eVar 1) eNil))))) (sRet (eC (.bl false))) sNil)
    (sRet (eB (scL allDD) (eCons (eLc (iZipD (eCons (eVar 0) (eCons (eVar 1) eNil))) (.many [2, 3]) [2, 3] tYesD (eCall rec (eArity 2 (eCons (eVar 2) (eCons (eVar 3) eNil))))) eNil)))) sNil)
def t_zsame_2 (rec : Fn) : DenS :=
  (sIf (eTru (eB isiR (eCons (eVar 1) (eCons (eC (.ty "tuple")) eNil)))) (sSeq (sIf (tOrD (tNotD (eTru (eB isiR (eCons (eVar 0) (eCons (eC (.ty "tuple")) eNil))))) (eTB (eSeq2 neR (eB (scL lenD) (eCons (eVar 0) eNil)) (eB (scL lenD) (eCons (eVar 1) eNil))))) (sRet (eC (.bl false))) sNil)
    (sRet (eB (scL allDD) (eCons (eLc (iZipD (eCons (eVar 0) (eCons (eVar 1) eNil))) (.many [2, 3]) [2, 3] tYesD (eCall rec (eArity 2 (eCons (eVar 2) (eCons (eVar 3) eNil))))) eNil)))) sNil)
def t_zsame_3 (rec : Fn) : DenS :=
  (sIf (eTru (eB isiR (eCons (eVar 1) (eCons (eC (.ty "bool")) eNil)))) (sRet (eAnd (eB isiR (eCons (eVar 0) (eCons (eC (.ty "bool")) eNil))) (eSeq2 eqR (eVar 0) (eVar 1)))) sNil)
def t_zsame_4 (rec : Fn) : DenS :=
  (sIf (eTru (eB isiR (eCons (eVar 1) (eCons (eC (.ty "int")) eNil)))) (sRet (eAnd (eB isiR (eCons (eVar 0) (eCons (eC (.ty "int")) eNil))) (eAnd (eNot (eB isiR (eCons (eVar 0) (eCons (eC (.ty "bool")) eNil)))) (eSeq2 eqR (eVar 0) (eVar 1))))) sNil)
def t_zsame_5 (rec : Fn) : DenS :=
  (sRet (eAnd (eB isiR (eCons (eVar 0) (eCons (eC (.ty "str")) eNil))) (eSeq2 eqR (eVar 0) (eVar 1))))
def b_zsame (rec : Fn) : DenS :=
  (sSeq (t_zsame_0 rec) (sSeq (t_zsame_1 rec) (sSeq (t_zsame_2 rec) (sSeq (t_zsame_3 rec) (sSeq (t_zsame_4 rec) (t_zsame_5 rec))))))
def m_zsame : Nat → Fn
  | 0 => fun _ _ => .bad
  | n + 1 => body 4 (b_zsame (m_zsame n))
def t_law_0 : DenS :=
  (sAsg (eCall m_zreel (eArity 1 (eCons (eVar 0) eNil))) (gSetM 1))
def t_law_1 : DenS :=
  (sFor (iRange1 (eCons (eC (.int 3)) eNil)) (.one 2) (sSeq (sAsg (eCall m_zplain_look (eArity 2 (eCons (eVar 1) (eCons (eC (.int 5)) eNil)))) (gSet 3))
    (sSeq (sPar3 (gSetM 4) (gSetM 5) (gSetM 6) (eCons (eB listR (eCons (eSeq2 getR (eVar 3) (eC (.int 1))) eNil)) (eCons (eB listR (eCons (eSeq2 getR (eVar 3) (eC (.int 2))) eNil)) (eCons (eLc (iOf (eSeq2 getR (eVar 3) (eC (.int 3)))) (.one 17) [17] tYesD (eB listR (eCons (eVar 17) eNil))) eNil))))
    (sSeq (sAsg (eFresh (eMake "Table" 4 m_Table_init (eCons (eVar 4) (eCons (eVar 5) (eCons (eVar 6) eNil))))) (gSet 7))
    (sSeq (sExpr (eAppP (pVar 4) (vC (.str "zz"))))
    (sSeq (sExpr (ePopP (pVar 5)))
    (sSeq (sExpr (eAppP (pSub (pVar 6) (vC (.int 0))) (vC .non)))
    (sSeq (sExpr (eAppP (pVar 6) (vC (.int 3))))
    (sSeq (sExpr (eAppT (eMeth "Table" "left" 1 m_Table_left (eVar 7) eNil) (vC .non)))
    (sSeq (sExpr (eClearT (eMeth "Table" "right" 1 m_Table_right (eVar 7) eNil)))
    (sSeq (sAsg (eMeth "Table" "rows" 1 m_Table_rows (eVar 7) eNil) (gSetM 8))
    (sSeq (sExpr (eAppP (pSub (pVar 8) (vC (.int 0))) (vC .non)))
    (sSeq (sAsg (eLst (eCons (eMeth "Table" "left" 1 m_Table_left (eVar 7) eNil) (eCons (eMeth "Table" "right" 1 m_Table_right (eVar 7) eNil) (eCons (eMeth "Table" "rows" 1 m_Table_rows (eVar 7) eNil) (eCons (eB (gLenO "Table" m_Table_len) (eCons (eVar 7) eNil)) (eCons (eB (gReprO "Table" m_Table_repr) (eCons (eVar 7) eNil)) (eCons (eProp "Table" m_Table_is_square (eVar 7)) eNil))))))) (gSet 9))
    (sSeq (sAsg (eSeq2 addR (eSeq2 addR (eSeq2 addR (eSeq2 addR (eC (.str "Table(")) (eB (scL strD) (eCons (eB (scL lenD) (eCons (eSeq2 getR (eVar 3) (eC (.int 1))) eNil)) eNil))) (eC (.str " by "))) (eB (scL strD) (eCons (eB (scL lenD) (eCons (eSeq2 getR (eVar 3) (eC (.int 2))) eNil)) eNil))) (eC (.str ")"))) (gSet 10))
    (sSeq (sAsg (eLst (eCons (eSeq2 getR (eVar 3) (eC (.int 1))) (eCons (eSeq2 getR (eVar 3) (eC (.int 2))) (eCons (eSeq2 getR (eVar 3) (eC (.int 3))) (eCons (eSeq2 mulR (eB (scL lenD) (eCons (eSeq2 getR (eVar 3) (eC (.int 1))) eNil)) (eB (scL lenD) (eCons (eSeq2 getR (eVar 3) (eC (.int 2))) eNil))) (eCons (eVar 10) (eCons (eSeq2 eqR (eSeq2 getR (eVar 3) (eC (.int 1))) (eSeq2 getR (eVar 3) (eC
        (.int 2)))) eNil))))))) (gSet 11))
    (sSeq (sIf (tNotD (eTru (eCall (m_zsame 4) (eArity 2 (eCons (eVar 9) (eCons (eVar 11) eNil)))))) (sRet (eC (.bl false))) sNil)
    (sSeq (sPar2 (gSet 12) (gSet 13) (eCons (eCall m_zdraw (eArity 2 (eCons (eVar 1) (eCons (eB (scL lenD) (eCons (eSeq2 getR (eVar 3) (eC (.int 1))) eNil)) eNil)))) (eCons (eCall m_zdraw (eArity 2 (eCons (eVar 1) (eCons (eB (scL lenD) (eCons (eSeq2 getR (eVar 3) (eC (.int 2))) eNil)) eNil)))) eNil)))
    (sSeq (sAsg (eLst (eCons (eMeth "Table" "entry" 3 m_Table_entry (eVar 7) (eCons (eSeq2 getR (eSeq2 getR (eVar 3) (eC (.int 1))) (eVar 12)) (eCons (eSeq2 getR (eSeq2 getR (eVar 3) (eC (.int 2))) (eVar 13)) eNil))) (eCons (eMethK "Table" "entry" [0, 2, 1] m_Table_entry (eVar 7) (eCons (eSeq2 getR (eSeq2 getR (eVar 3) (eC (.int 2))) (eVar 13)) (eCons (eSeq2 getR (eSeq2 getR (eVar 3) (eC
        (.int 1))) (eVar 12)) eNil))) eNil))) (gSet 9))
    (sSeq (sIf (tNotD (eTru (eCall (m_zsame 4) (eArity 2 (eCons (eVar 9) (eCons (eSeq2 mulR (eLst (eCons (eSeq2 getR (eSeq2 getR (eSeq2 getR (eVar 3) (eC (.int 3))) (eVar 12)) (eVar 13)) eNil)) (eC (.int 2))) eNil)))))) (sRet (eC (.bl false))) sNil)
    (sSeq (sAsg (eMakeK "Table" [0, 3, 2, 1] m_Table_init (eCons (eB tuplePR (eCons (eLc (iOf (eSeq2 getR (eVar 3) (eC (.int 3)))) (.one 17) [17] tYesD (eB tuplePR (eCons (eVar 17) eNil))) eNil)) (eCons (eB tuplePR (eCons (eSeq2 getR (eVar 3) (eC (.int 2))) eNil)) (eCons (eB tuplePR (eCons (eSeq2 getR (eVar 3) (eC (.int 1))) eNil)) eNil)))) (gSet 14))
    (sSeq (sAsg (eLc (iOf (eSeq2 getR (eVar 3) (eC (.int 3)))) (.one 17) [17] tYesD (eB listR (eCons (eVar 17) eNil))) (gSetM 15))
    (sSeq (sAsg (eSeq2 addR (eFlat (snP (pSub (pSub (pVar 15) (vVar 12)) (vVar 13)))) (eC (.int 1))) (gItemP (pSub (pVar 15) (vVar 12)) (vVar 13)))
    (sSeq (sIf (tOrD (eTB (eSeq2 (gOwnNe "Table" m_Table_eq) (eVar 7) (eVar 14))) (tOrD (eTB (eSeq2 (gOwn "Table" m_Table_eq) (eVar 7) (eFresh (eMake "Table" 4 m_Table_init (eCons (eSeq2 getR (eVar 3) (eC (.int 1))) (eCons (eSeq2 getR (eVar 3) (eC (.int 2))) (eCons (eVar 15) eNil))))))) (eTB (eSeq2 (gOwnL "Table" m_Table_eq) (eVar 7) (eSeq2 getR (eVar 3) (eC (.int 3))))))) (sRet (eC
        (.bl false))) sNil)
    (sSeq (sAsg (eMake "Table" 4 m_Table_init (eCons (eSeq1 revR (eSeq2 getR (eVar 3) (eC (.int 1)))) (eCons (eSeq2 getR (eVar 3) (eC (.int 2))) (eCons (eSeq2 getR (eVar 3) (eC (.int 3))) eNil)))) (gSet 16))
    (sIf (eTB (eSeq2 neR (eSeq2 (gOwn "Table" m_Table_eq) (eVar 16) (eVar 7)) (eSeq2 eqR (eB (scL lenD) (eCons (eSeq2 getR (eVar 3) (eC (.int 1))) eNil)) (eC (.int 1))))) (sRet (eC (.bl false))) sNil)))))))))))))))))))))))))
def t_law_2 : DenS :=
  (sRet (eSeq2 eqR (eC (.int 5)) (eC (.int 5))))
def b_law : DenS :=
  (sSeq t_law_0 (sSeq t_law_1 t_law_2))
def m_law : Fn := body 18 b_law
end Toy

/-! The walk: the code does so (printed by gen.py) -/
namespace Toy
open PySem L2 DL
def top (i : Nat) : Stmt := PySem.Challenge.pw_twoabreast_k05_tables_made.main.body.getD i (.Pass ⟨0, 0, 0, 0⟩)
abbrev s_Table_eq : Stmt := inClass (top 25) 16
abbrev s_is_word : Stmt := top 16
abbrev s_is_kind : Stmt := top 17
abbrev s_is_listed : Stmt := top 15
abbrev s_check_kinds : Stmt := top 21
abbrev s_is_number : Stmt := top 14
abbrev s_check_values : Stmt := top 22
abbrev s_Table_init : Stmt := inClass (top 25) 1
abbrev s_Table_len : Stmt := inClass (top 25) 17
abbrev s_Table_repr : Stmt := inClass (top 25) 18
abbrev s_Table_entry : Stmt := inClass (top 25) 7
abbrev s_Table_is_square : Stmt := inClass (top 25) 8
abbrev s_Table_left : Stmt := inClass (top 25) 4
abbrev s_Table_right : Stmt := inClass (top 25) 5
abbrev s_Table_rows : Stmt := inClass (top 25) 6
abbrev s_zdraw : Stmt := top 28
abbrev s_znumber : Stmt := top 33
abbrev s_zof : Stmt := top 29
abbrev s_zspoilt : Stmt := top 34
abbrev s_zgrid : Stmt := top 35
abbrev s_zwords : Stmt := top 31
abbrev s_zkinds : Stmt := top 32
abbrev s_zplain_look : Stmt := top 36
abbrev s_zreel : Stmt := top 27
abbrev s_zsame : Stmt := top 30
abbrev s_law : Stmt := top 37
structure Ad where
  a_Table_eq : Addr
  a_is_word : Addr
  a_is_kind : Addr
  a_is_listed : Addr
  a_check_kinds : Addr
  a_is_number : Addr
  a_check_values : Addr
  a_Table_init : Addr
  a_Table_len : Addr
  a_Table_repr : Addr
  a_Table_entry : Addr
  a_Table_is_square : Addr
  a_Table_left : Addr
  a_Table_right : Addr
  a_Table_rows : Addr
  a_zdraw : Addr
  a_znumber : Addr
  a_zof : Addr
  a_zspoilt : Addr
  a_zgrid : Addr
  a_zwords : Addr
  a_zkinds : Addr
  a_zplain_look : Addr
  a_zreel : Addr
  a_zsame : Addr
  a_law : Addr
structure Txt (K : PySem.W.Frag) (mg : Str → Option Value) (d : Ad) : Prop where
  g_is_word : mg "is_word" = some (.ref d.a_is_word)
  k_is_word : PySem.W.keepIn K (.ref d.a_is_word) = true
  g_is_kind : mg "is_kind" = some (.ref d.a_is_kind)
  k_is_kind : PySem.W.keepIn K (.ref d.a_is_kind) = true
  g_is_listed : mg "is_listed" = some (.ref d.a_is_listed)
  k_is_listed : PySem.W.keepIn K (.ref d.a_is_listed) = true
  g_check_kinds : mg "check_kinds" = some (.ref d.a_check_kinds)
  k_check_kinds : PySem.W.keepIn K (.ref d.a_check_kinds) = true
  g_is_number : mg "is_number" = some (.ref d.a_is_number)
  k_is_number : PySem.W.keepIn K (.ref d.a_is_number) = true
  g_check_values : mg "check_values" = some (.ref d.a_check_values)
  k_check_values : PySem.W.keepIn K (.ref d.a_check_values) = true
  g_zdraw : mg "_law_draw" = some (.ref d.a_zdraw)
  k_zdraw : PySem.W.keepIn K (.ref d.a_zdraw) = true
  g_znumber : mg "_law_number" = some (.ref d.a_znumber)
  k_znumber : PySem.W.keepIn K (.ref d.a_znumber) = true
  g_zof : mg "_law_of" = some (.ref d.a_zof)
  k_zof : PySem.W.keepIn K (.ref d.a_zof) = true
  g_zspoilt : mg "_law_spoilt" = some (.ref d.a_zspoilt)
  k_zspoilt : PySem.W.keepIn K (.ref d.a_zspoilt) = true
  g_zgrid : mg "_law_grid" = some (.ref d.a_zgrid)
  k_zgrid : PySem.W.keepIn K (.ref d.a_zgrid) = true
  g_zwords : mg "_law_words" = some (.ref d.a_zwords)
  k_zwords : PySem.W.keepIn K (.ref d.a_zwords) = true
  g_zkinds : mg "_law_kinds" = some (.ref d.a_zkinds)
  k_zkinds : PySem.W.keepIn K (.ref d.a_zkinds) = true
  g_zplain_look : mg "_law_plain_look" = some (.ref d.a_zplain_look)
  k_zplain_look : PySem.W.keepIn K (.ref d.a_zplain_look) = true
  g_zreel : mg "_law_reel" = some (.ref d.a_zreel)
  k_zreel : PySem.W.keepIn K (.ref d.a_zreel) = true
  g_zsame : mg "_law_same" = some (.ref d.a_zsame)
  k_zsame : PySem.W.keepIn K (.ref d.a_zsame) = true
  g_law : mg "law" = some (.ref d.a_law)
  k_law : PySem.W.keepIn K (.ref d.a_law) = true
  n_all : mg "all" = none
  n_bool : mg "bool" = none
  n_enumerate : mg "enumerate" = none
  n_int : mg "int" = none
  n_isinstance : mg "isinstance" = none
  n_len : mg "len" = none
  n_list : mg "list" = none
  n_max : mg "max" = none
  n_min : mg "min" = none
  n_range : mg "range" = none
  n_repr : mg "repr" = none
  n_str : mg "str" = none
  n_tuple : mg "tuple" = none
  n_zip : mg "zip" = none
  c_MOST_KINDS : ∃ t, mg "MOST_KINDS" = some (.int 5 t)
  c_MOST_KIND : ∃ t, mg "MOST_KIND" = some (.int 6 t)
  c_LETTERS : ∃ t, mg "LETTERS" = some (.str "abcdefghijklmnopqrstuvwxyz" t)
  fl_value_rows : FldOk K mg ["Table"] "value_rows"
  fl_right_kinds : FldOk K mg ["Table"] "right_kinds"
  fl_left_kinds : FldOk K mg ["Table"] "left_kinds"
  fl_cells : FldOk K mg ["Table"] "cells"
  ic_Table : IsC K mg "Table"
  il_Table : IsCL K mg "Table"
  cc_Table_MOST : CCon K mg "Table" "MOST" (.int 5)
section
variable {P : Program} {w : World} {K : PySem.W.Frag} {mg : Str → Option Value} {base : Heap} {d : Ad} {fd : FuncData}
theorem sc_Table_eq : FnScope ["self", "other"] ["self", "other"] (defScope s_Table_eq) := ⟨rfl, rfl, rfl, by decide +kernel, rfl, by decide +kernel, by decide +kernel⟩
theorem okF_Table_eq (F : Fun K "__eq__" "Table.__eq__" s_Table_eq d.a_Table_eq fd) (T : Txt K mg d)  : FnOk P w K mg base (L2.CX P w) 1 d.a_Table_eq fd ["self", "other"] (spD K mg (["self", "other"] : List Str).length m_Table_eq) := by
  refine fn_okE (k := 0) F sc_Table_eq (fun cdv A outer s H E hr tk ps =>
  (db_cons (ds_if (DW.dt (dw_or (dt_not (dt_tru (de_callB call_isi (opL_isiC2 (by exact T.ic_Table) (by exact T.il_Table)) rfl T.n_isinstance (by decide +kernel) (da_cons (de_var 1 (pv 1)) (da_cons (de_glo (by exact T.ic_Table.glo) (by rfl)) da_nil))))) (dw_or1 (dt_cmp (or_ne hr.units) op2_ne (de_fld T.fl_left_kinds (de_var 0 (pv 0))) (de_fld T.fl_left_kinds (de_var 1 (pv 1))) (nomark _)))))
        (db_one (ds_ret (de_const pe_bl (fun _ => .bl _)))) db_nil)
    (db_one (ds_ret (de_and (de_cmp (or_eq hr.units) op2_eq (de_fld T.fl_right_kinds (de_var 0 (pv 0))) (de_fld T.fl_right_kinds (de_var 1 (pv 1))) (nomark _)) (de_one (de_cmp (or_eq hr.units) op2_eq (de_fld T.fl_value_rows (de_var 0 (pv 0))) (de_fld T.fl_value_rows (de_var 1 (pv 1))) (nomark _)))))))) ?_
  rfl
theorem sc_is_word : FnScope ["value", "most", "letter"] ["value", "most"] (defScope s_is_word) := ⟨rfl, rfl, rfl, by decide +kernel, rfl, by decide +kernel, by decide +kernel⟩
theorem okF_is_word (F : Fun K "is_word" "is_word" s_is_word d.a_is_word fd) (T : Txt K mg d)  : FnOk P w K mg base (L2.CX P w) 1 d.a_is_word fd ["value", "most"] (spD K mg (["value", "most"] : List Str).length m_is_word) := by
  refine fn_okE (k := 0) F sc_is_word (fun cdv A outer s H E hr tk ps =>
  (db_cons (ds_if (DW.dt (dw_or (dt_not (dt_tru (de_callB or_isi opL_isi rfl T.n_isinstance (by decide +kernel) (da_cons (de_var 0 (pv 0)) (da_cons (de_ty (y := "str") T.n_str rfl (by decide +kernel)) da_nil))))) (dw_or1 (dt_not (dt_chain op_le op_le op2_rel op2_rel (de_const pe_int (fun _ => .int _)) (de_callB call_len opL_len rfl T.n_len (by decide +kernel) (da_cons (de_var 0 (pv 0)) da_nil))
        (de_var 1 (pv 1))))))) (db_one (ds_ret (de_const pe_bl (fun _ => .bl _)))) db_nil)
    (db_one (ds_ret (de_callB (cr_all rfl) opL_all rfl T.n_all (by decide +kernel) (da_cons (de_lc rfl sc_is_word.nd (di_data (de_var 0 (pv 0))) (blkOk_by (own := [("letter", 2)]) rfl) (fun _ _ _ _ _ => (dtg_one 2 sc_is_word.nd)) (fun _ _ _ _ _ => dts_nil) (fun _ _ _ _ _ => (de_cmp (or_in (units65 hr)) (op2_in false) (de_var 2 (pv 2)) (de_gstr T.c_LETTERS rfl) rfl))) da_nil)))))) ?_
  rfl
theorem sc_is_kind : FnScope ["value"] ["value"] (defScope s_is_kind) := ⟨rfl, rfl, rfl, by decide +kernel, rfl, by decide +kernel, by decide +kernel⟩
theorem okF_is_kind (F : Fun K "is_kind" "is_kind" s_is_kind d.a_is_kind fd) (T : Txt K mg d) (C_is_word : FOk P w K mg base 1 d.a_is_word ["value", "most"] m_is_word) : FnOk P w K mg base (L2.CX P w) 2 d.a_is_kind fd ["value"] (spD K mg (["value"] : List Str).length m_is_kind) := by
  refine fn_okE (k := 1) F sc_is_kind (fun cdv A outer s H E hr tk ps =>
  (db_one (ds_ret (de_call C_is_word (hr.mono (by omega)) tk rfl T.g_is_word T.k_is_word (da_cons (de_var 0 (pv 0)) (da_cons (de_gint T.c_MOST_KIND rfl) da_nil)))))) ?_
  rfl
theorem sc_is_listed : FnScope ["value"] ["value"] (defScope s_is_listed) := ⟨rfl, rfl, rfl, by decide +kernel, rfl, by decide +kernel, by decide +kernel⟩
theorem okF_is_listed (F : Fun K "is_listed" "is_listed" s_is_listed d.a_is_listed fd) (T : Txt K mg d)  : FnOk P w K mg base (L2.CX P w) 1 d.a_is_listed fd ["value"] (spD K mg (["value"] : List Str).length m_is_listed) := by
  refine fn_okE (k := 0) F sc_is_listed (fun cdv A outer s H E hr tk ps =>
  (db_one (ds_ret (de_callB or_isi opL_isi rfl T.n_isinstance (by decide +kernel) (da_cons (de_var 0 (pv 0)) (da_cons (de_tup (da_cons (de_ty (y := "list") T.n_list rfl (by decide +kernel)) (da_cons (de_ty (y := "tuple") T.n_tuple rfl (by decide +kernel)) da_nil))) da_nil)))))) ?_
  rfl
theorem sc_check_kinds : FnScope ["kinds", "side", "at", "kind"] ["kinds", "side"] (defScope s_check_kinds) := ⟨rfl, rfl, rfl, by decide +kernel, rfl, by decide +kernel, by decide +kernel⟩
theorem okF_check_kinds (F : Fun K "check_kinds" "check_kinds" s_check_kinds d.a_check_kinds fd) (T : Txt K mg d) (C_is_kind : FOk P w K mg base 2 d.a_is_kind ["value"] m_is_kind) (C_is_listed : FOk P w K mg base 1 d.a_is_listed ["value"] m_is_listed) : FnOk P w K mg base (L2.CX P w) 3 d.a_check_kinds fd ["kinds", "side"] (spD K mg (["kinds", "side"] : List Str).length m_check_kinds) := by
  refine fn_okE (k := 2) F sc_check_kinds (fun cdv A outer s H E hr tk ps =>
  (db_cons (ds_if (DW.dt (dw_or (dt_not (dt_tru (de_call C_is_listed (hr.mono (by omega)) tk rfl T.g_is_listed T.k_is_listed (da_cons (de_var 0 (pv 0)) da_nil)))) (dw_or1 (dt_not (dt_chain op_le op_le op2_rel op2_rel (de_const pe_int (fun _ => .int _)) (de_callB call_len opL_len rfl T.n_len (by decide +kernel) (da_cons (de_var 0 (pv 0)) da_nil)) (de_gint T.c_MOST_KINDS rfl))))))
        (db_one ds_never) db_nil)
    (db_one (ds_for ps rfl (di_enumS rfl T.n_enumerate (da_cons (de_var 0 (pv 0)) da_nil)) (dtg_many rfl (pgn_cons 2 sc_check_kinds.nd (pgn_cons 3 sc_check_kinds.nd pgn_nil))) (db_one (ds_if (DW.dt (dw_or (dt_not (dt_tru (de_call C_is_kind (hr.mono (by omega)) tk rfl T.g_is_kind T.k_is_kind (da_cons (de_var 3 (pv 3)) da_nil)))) (dw_or1 (dt_cmp (or_in (units65 hr)) (op2_in false) (de_var 3
        (pv 3)) (de_callTy call_list_of opL_list rfl T.n_list (by decide +kernel) (da_cons (de_slice (de_var 0 (pv 0)) do_none (do_some (de_var 2 (pv 2)))) da_nil)) rfl)))) (db_one ds_never) db_nil)))))) ?_
  rfl
theorem sc_is_number : FnScope ["value"] ["value"] (defScope s_is_number) := ⟨rfl, rfl, rfl, by decide +kernel, rfl, by decide +kernel, by decide +kernel⟩
theorem okF_is_number (F : Fun K "is_number" "is_number" s_is_number d.a_is_number fd) (T : Txt K mg d)  : FnOk P w K mg base (L2.CX P w) 1 d.a_is_number fd ["value"] (spD K mg (["value"] : List Str).length m_is_number) := by
  refine fn_okE (k := 0) F sc_is_number (fun cdv A outer s H E hr tk ps =>
  (db_one (ds_ret (de_and (de_callB or_isi opL_isi rfl T.n_isinstance (by decide +kernel) (da_cons (de_var 0 (pv 0)) (da_cons (de_ty (y := "int") T.n_int rfl (by decide +kernel)) da_nil))) (de_one (de_not (de_callB or_isi opL_isi rfl T.n_isinstance (by decide +kernel) (da_cons (de_var 0 (pv 0)) (da_cons (de_ty (y := "bool") T.n_bool rfl (by decide +kernel)) da_nil))))))))) ?_
  rfl
theorem sc_check_values : FnScope ["values", "height", "width", "at", "row", "number"] ["values", "height", "width"] (defScope s_check_values) := ⟨rfl, rfl, rfl, by decide +kernel, rfl, by decide +kernel, by decide +kernel⟩
theorem okF_check_values (F : Fun K "check_values" "check_values" s_check_values d.a_check_values fd) (T : Txt K mg d) (C_is_listed : FOk P w K mg base 1 d.a_is_listed ["value"] m_is_listed) (C_is_number : FOk P w K mg base 1 d.a_is_number ["value"] m_is_number) : FnOk P w K mg base (L2.CX P w) 2 d.a_check_values fd ["values", "height", "width"] (spD K mg
        (["values", "height", "width"] : List Str).length m_check_values) := by
  refine fn_okE (k := 1) F sc_check_values (fun cdv A outer s H E hr tk ps =>
  (db_cons (ds_if (DW.dt (dw_or (dt_not (dt_tru (de_call C_is_listed (hr.mono (by omega)) tk rfl T.g_is_listed T.k_is_listed (da_cons (de_var 0 (pv 0)) da_nil)))) (dw_or1 (dt_cmp (or_ne hr.units) op2_ne (de_callB call_len opL_len rfl T.n_len (by decide +kernel) (da_cons (de_var 0 (pv 0)) da_nil)) (de_var 1 (pv 1)) (nomark _))))) (db_one ds_never) db_nil)
    (db_one (ds_for ps rfl (di_enumS rfl T.n_enumerate (da_cons (de_var 0 (pv 0)) da_nil)) (dtg_many rfl (pgn_cons 3 sc_check_values.nd (pgn_cons 4 sc_check_values.nd pgn_nil))) (db_one (ds_if (DW.dt (dw_or (dt_not (dt_tru (de_call C_is_listed (hr.mono (by omega)) tk rfl T.g_is_listed T.k_is_listed (da_cons (de_var 4 (pv 4)) da_nil)))) (dw_or (dt_cmp (or_ne hr.units) op2_ne
        (de_callB call_len opL_len rfl T.n_len (by decide +kernel) (da_cons (de_var 4 (pv 4)) da_nil)) (de_var 2 (pv 2)) (nomark _)) (dw_or1 (dt_not (dt_tru (de_callB (cr_all rfl) opL_all rfl T.n_all (by decide +kernel) (da_cons (de_lc rfl sc_check_values.nd (di_data (de_var 4 (pv 4))) (blkOk_by (own := [("number", 5)]) rfl) (fun _ _ _ _ _ => (dtg_one 5 sc_check_values.nd))
        (fun _ _ _ _ _ => dts_nil) (fun _ _ _ _ _ => (de_call C_is_number (hr.mono (by omega)) takes0 rfl T.g_is_number T.k_is_number (da_cons (de_var 5 (pv 5)) da_nil)))) da_nil)))))))) (db_one ds_never) db_nil)))))) ?_
  rfl
theorem sc_Table_init : FnScope ["self", "left", "right", "values", "row", "number"] ["self", "left", "right", "values"] (defScope s_Table_init) := ⟨rfl, rfl, rfl, by decide +kernel, rfl, by decide +kernel, by decide +kernel⟩
theorem okF_Table_init (F : Fun K "__init__" "Table.__init__" s_Table_init d.a_Table_init fd) (T : Txt K mg d) (C_check_kinds : FOk P w K mg base 3 d.a_check_kinds ["kinds", "side"] m_check_kinds) (C_check_values : FOk P w K mg base 2 d.a_check_values ["values", "height", "width"] m_check_values) : FnOk P w K mg base (L2.CX P w) 4 d.a_Table_init fd ["self", "left", "right", "values"] (spD K mg
        (["self", "left", "right", "values"] : List Str).length m_Table_init) := by
  refine fn_okE (k := 3) F sc_Table_init (fun cdv A outer s H E hr tk ps =>
  (db_cons (ds_expr (de_call C_check_kinds (hr.mono (by omega)) tk rfl T.g_check_kinds T.k_check_kinds (da_cons (de_var 1 (pv 1)) (da_cons (de_const pe_str (fun _ => .str _)) da_nil))))
    (db_cons (ds_expr (de_call C_check_kinds (hr.mono (by omega)) tk rfl T.g_check_kinds T.k_check_kinds (da_cons (de_var 2 (pv 2)) (da_cons (de_const pe_str (fun _ => .str _)) da_nil))))
    (db_cons (ds_expr (de_call C_check_values (hr.mono (by omega)) tk rfl T.g_check_values T.k_check_values (da_cons (de_var 3 (pv 3)) (da_cons (de_callB call_len opL_len rfl T.n_len (by decide +kernel) (da_cons (de_var 1 (pv 1)) da_nil)) (da_cons (de_callB call_len opL_len rfl T.n_len (by decide +kernel) (da_cons (de_var 2 (pv 2)) da_nil)) da_nil)))))
    (db_cons (ds_fld T.fl_left_kinds (de_callTy call_tupleP opL_tupleP rfl T.n_tuple (by decide +kernel) (da_cons (de_var 1 (pv 1)) da_nil)) (de_var 0 (pv 0)))
    (db_cons (ds_fld T.fl_right_kinds (de_callTy call_tupleP opL_tupleP rfl T.n_tuple (by decide +kernel) (da_cons (de_var 2 (pv 2)) da_nil)) (de_var 0 (pv 0)))
    (db_cons (ds_fld T.fl_value_rows (de_callTy call_tupleP opL_tupleP rfl T.n_tuple (by decide +kernel) (da_cons (de_lc rfl sc_Table_init.nd (di_data (de_var 3 (pv 3))) (blkOk_by (own := [("row", 4)]) rfl) (fun _ _ _ _ _ => (dtg_one 4 sc_Table_init.nd)) (fun _ _ _ _ _ => dts_nil) (fun _ _ _ _ _ => (de_callTy call_tupleP opL_tupleP rfl T.n_tuple (by decide +kernel) (da_cons (de_var 4
        (pv 4)) da_nil)))) da_nil)) (de_var 0 (pv 0)))
    (db_one (ds_fldT T.fl_cells (de_lc2 (own1 := [5]) rfl sc_Table_init.nd (di_data (de_fld T.fl_value_rows (de_var 0 (pv 0)))) (blkOk_by (own := [("row", 4), ("number", 5)]) rfl) (by decide) (fun _ _ _ _ _ => (dtg_one 4 sc_Table_init.nd)) (fun _ _ _ _ _ => dts_nil) (fun _ _ _ _ _ => (di_data (de_var 4 (pv 4)))) (fun _ _ _ _ _ => (dtg_one 5 sc_Table_init.nd)) (fun _ _ _ _ _ => dts_nil)
        (fun _ _ _ _ _ => (de_var 5 (pv 5)))) (pv 0)))))))))) ?_
  rfl
theorem sc_Table_len : FnScope ["self"] ["self"] (defScope s_Table_len) := ⟨rfl, rfl, rfl, by decide +kernel, rfl, by decide +kernel, by decide +kernel⟩
theorem okF_Table_len (F : Fun K "__len__" "Table.__len__" s_Table_len d.a_Table_len fd) (T : Txt K mg d)  : FnOk P w K mg base (L2.CX P w) 1 d.a_Table_len fd ["self"] (spD K mg (["self"] : List Str).length m_Table_len) := by
  refine fn_okE (k := 0) F sc_Table_len (fun cdv A outer s H E hr tk ps =>
  (db_one (ds_ret (de_callB call_len opL_len rfl T.n_len (by decide +kernel) (da_cons (de_fld T.fl_cells (de_var 0 (pv 0))) da_nil))))) ?_
  rfl
theorem sc_Table_repr : FnScope ["self"] ["self"] (defScope s_Table_repr) := ⟨rfl, rfl, rfl, by decide +kernel, rfl, by decide +kernel, by decide +kernel⟩
theorem okF_Table_repr (F : Fun K "__repr__" "Table.__repr__" s_Table_repr d.a_Table_repr fd) (T : Txt K mg d)  : FnOk P w K mg base (L2.CX P w) 1 d.a_Table_repr fd ["self"] (spD K mg (["self"] : List Str).length m_Table_repr) := by
  refine fn_okE (k := 0) F sc_Table_repr (fun cdv A outer s H E hr tk ps =>
  (db_one (ds_ret (de_fstr (DJ.cons (de_const pe_str (fun _ => .str _)) (DJ.cons (de_fmt (de_callB call_len opL_len rfl T.n_len (by decide +kernel) (da_cons (de_fld T.fl_left_kinds (de_var 0 (pv 0))) da_nil))) (DJ.cons (de_const pe_str (fun _ => .str _)) (DJ.cons (de_fmt (de_callB call_len opL_len rfl T.n_len (by decide +kernel) (da_cons (de_fld T.fl_right_kinds (de_var 0 (pv 0))) da_nil)))
        (DJ.cons (de_const pe_str (fun _ => .str _)) DJ.nil))))))))) ?_
  rfl
theorem sc_Table_entry : FnScope ["self", "one", "other"] ["self", "one", "other"] (defScope s_Table_entry) := ⟨rfl, rfl, rfl, by decide +kernel, rfl, by decide +kernel, by decide +kernel⟩
theorem okF_Table_entry (F : Fun K "entry" "Table.entry" s_Table_entry d.a_Table_entry fd) (T : Txt K mg d)  : FnOk P w K mg base (L2.CX P w) 1 d.a_Table_entry fd ["self", "one", "other"] (spD K mg (["self", "one", "other"] : List Str).length m_Table_entry) := by
  refine fn_okE (k := 0) F sc_Table_entry (fun cdv A outer s H E hr tk ps =>
  (db_cons (ds_if (dt_cmp (or_notIn (units65 hr)) (op2_in true) (de_var 1 (pv 1)) (de_fld T.fl_left_kinds (de_var 0 (pv 0))) rfl) (db_one ds_never) db_nil)
    (db_cons (ds_if (dt_cmp (or_notIn (units65 hr)) (op2_in true) (de_var 2 (pv 2)) (de_fld T.fl_right_kinds (de_var 0 (pv 0))) rfl) (db_one ds_never) db_nil)
    (db_one (ds_ret (de_get (de_get (de_fld T.fl_value_rows (de_var 0 (pv 0))) (de_idx (de_fld T.fl_left_kinds (de_var 0 (pv 0))) (de_var 1 (pv 1)))) (de_idx (de_fld T.fl_right_kinds (de_var 0 (pv 0))) (de_var 2 (pv 2))))))))) ?_
  rfl
theorem sc_Table_is_square : FnScope ["self"] ["self"] (defScope s_Table_is_square) := ⟨rfl, rfl, rfl, by decide +kernel, rfl, by decide +kernel, by decide +kernel⟩
theorem okF_Table_is_square (F : Fun K "is_square" "Table.is_square" s_Table_is_square d.a_Table_is_square fd) (T : Txt K mg d)  : FnOk P w K mg base (L2.CX P w) 1 d.a_Table_is_square fd ["self"] (spD K mg (["self"] : List Str).length m_Table_is_square) := by
  refine fn_okE (k := 0) F sc_Table_is_square (fun cdv A outer s H E hr tk ps =>
  (db_one (ds_ret (de_cmp (or_eq hr.units) op2_eq (de_fld T.fl_left_kinds (de_var 0 (pv 0))) (de_fld T.fl_right_kinds (de_var 0 (pv 0))) (nomark _))))) ?_
  rfl
theorem sc_Table_left : FnScope ["self"] ["self"] (defScope s_Table_left) := ⟨rfl, rfl, rfl, by decide +kernel, rfl, by decide +kernel, by decide +kernel⟩
theorem okF_Table_left (F : Fun K "left" "Table.left" s_Table_left d.a_Table_left fd) (T : Txt K mg d)  : FnOk P w K mg base (L2.CX P w) 1 d.a_Table_left fd ["self"] (spD K mg (["self"] : List Str).length m_Table_left) := by
  refine fn_okE (k := 0) F sc_Table_left (fun cdv A outer s H E hr tk ps =>
  (db_one (ds_ret (de_callTy call_list_of opL_list rfl T.n_list (by decide +kernel) (da_cons (de_fld T.fl_left_kinds (de_var 0 (pv 0))) da_nil))))) ?_
  rfl
theorem sc_Table_right : FnScope ["self"] ["self"] (defScope s_Table_right) := ⟨rfl, rfl, rfl, by decide +kernel, rfl, by decide +kernel, by decide +kernel⟩
theorem okF_Table_right (F : Fun K "right" "Table.right" s_Table_right d.a_Table_right fd) (T : Txt K mg d)  : FnOk P w K mg base (L2.CX P w) 1 d.a_Table_right fd ["self"] (spD K mg (["self"] : List Str).length m_Table_right) := by
  refine fn_okE (k := 0) F sc_Table_right (fun cdv A outer s H E hr tk ps =>
  (db_one (ds_ret (de_callTy call_list_of opL_list rfl T.n_list (by decide +kernel) (da_cons (de_fld T.fl_right_kinds (de_var 0 (pv 0))) da_nil))))) ?_
  rfl
theorem sc_Table_rows : FnScope ["self", "row"] ["self"] (defScope s_Table_rows) := ⟨rfl, rfl, rfl, by decide +kernel, rfl, by decide +kernel, by decide +kernel⟩
theorem okF_Table_rows (F : Fun K "rows" "Table.rows" s_Table_rows d.a_Table_rows fd) (T : Txt K mg d)  : FnOk P w K mg base (L2.CX P w) 1 d.a_Table_rows fd ["self"] (spD K mg (["self"] : List Str).length m_Table_rows) := by
  refine fn_okE (k := 0) F sc_Table_rows (fun cdv A outer s H E hr tk ps =>
  (db_one (ds_ret (de_lc rfl sc_Table_rows.nd (di_data (de_fld T.fl_value_rows (de_var 0 (pv 0)))) (blkOk_by (own := [("row", 1)]) rfl) (fun _ _ _ _ _ => (dtg_one 1 sc_Table_rows.nd)) (fun _ _ _ _ _ => dts_nil) (fun _ _ _ _ _ => (de_callTy call_list_of opL_list rfl T.n_list (by decide +kernel) (da_cons (de_var 1 (pv 1)) da_nil))))))) ?_
  rfl
theorem sc_zdraw : FnScope ["_law_reel_here", "_law_size", "_law_cell", "_law_digit", "_law_mixed"] ["_law_reel_here", "_law_size"] (defScope s_zdraw) := ⟨rfl, rfl, rfl, by decide +kernel, rfl, by decide +kernel, by decide +kernel⟩
theorem okF_zdraw (F : Fun K "_law_draw" "_law_draw" s_zdraw d.a_zdraw fd) (T : Txt K mg d)  : FnOk P w K mg base (L2.CX P w) 1 d.a_zdraw fd ["_law_reel_here", "_law_size"] (spD K mg (["_law_reel_here", "_law_size"] : List Str).length m_zdraw) := by
  refine fn_okE (k := 0) F sc_zdraw (fun cdv A outer s H E hr tk ps =>
  (db_cons (ds_if (DW.dt (dw_and (dt_cmp (or_eq hr.units) op2_eq (de_get (de_var 0 (pv 0)) (de_const pe_int (fun _ => .int _))) (de_const pe_int (fun _ => .int _)) (nomark _)) (dw_and1 (dt_cmp op_lt op2_rel (de_get (de_var 0 (pv 0)) (de_const pe_int (fun _ => .int _))) (de_callB call_len opL_len rfl T.n_len (by decide +kernel) (da_cons (de_get (de_var 0 (pv 0)) (de_const pe_int
        (fun _ => .int _))) da_nil)) (nomark _))))) (db_cons (dset 2 sc_zdraw.nd (de_get (de_get (de_var 0 (pv 0)) (de_const pe_int (fun _ => .int _))) (de_get (de_var 0 (pv 0)) (de_const pe_int (fun _ => .int _)))))
    (db_cons (ds_asg (de_op or_add op2_add (de_get (de_var 0 (pv 0)) (de_const pe_int (fun _ => .int _))) (de_const pe_int (fun _ => .int _))) (dg_item (de_var 0 (pv 0)) (de_const pe_int (fun _ => .int _))))
    (db_one (ds_if (dt_cmp op_gt op2_rel (de_var 2 (pv 2)) (de_op op_pow op2_pow (de_const pe_int (fun _ => .int _)) (de_const pe_int (fun _ => .int _))) (nomark _)) (db_one (ds_asg (de_var 2 (pv 2)) (dg_item (de_var 0 (pv 0)) (de_const pe_int (fun _ => .int _))))) (db_one (ds_asg (de_op op_mod op2_mod (de_callTy call_int1 opL_int rfl T.n_int (by decide +kernel) (da_cons (de_op or_add op2_add
        (de_op or_add op2_add (de_op or_mul op2_mul (de_get (de_var 0 (pv 0)) (de_const pe_int (fun _ => .int _))) (de_const pe_int (fun _ => .int _))) (de_op or_mul op2_mul (de_op op_mod op2_mod (de_callTy call_int1 opL_int rfl T.n_int (by decide +kernel) (da_cons (de_var 2 (pv 2)) da_nil)) (de_const pe_int (fun _ => .int _))) (de_const pe_int (fun _ => .int _)))) (de_const pe_int
        (fun _ => .int _))) da_nil)) (de_const pe_int (fun _ => .int _))) (dg_item (de_var 0 (pv 0)) (de_const pe_int (fun _ => .int _))))))))) db_nil)
    (db_cons (ds_if (dt_cmp op_gt op2_rel (de_get (de_var 0 (pv 0)) (de_const pe_int (fun _ => .int _))) (de_const pe_int (fun _ => .int _)) (nomark _)) (db_cons (dset 3 sc_zdraw.nd (de_op op_mod op2_mod (de_callTy call_int1 opL_int rfl T.n_int (by decide +kernel) (da_cons (de_get (de_var 0 (pv 0)) (de_const pe_int (fun _ => .int _))) da_nil)) (de_var 1 (pv 1))))
    (db_cons (ds_asg (de_op op_fdivW op2_div (de_get (de_var 0 (pv 0)) (de_const pe_int (fun _ => .int _))) (de_var 1 (pv 1))) (dg_item (de_var 0 (pv 0)) (de_const pe_int (fun _ => .int _))))
    (db_one (ds_ret (de_var 3 (pv 3)))))) db_nil)
    (db_cons (dset 4 sc_zdraw.nd (de_op op_mod op2_mod (de_callTy call_int1 opL_int rfl T.n_int (by decide +kernel) (da_cons (de_op or_add op2_add (de_op or_mul op2_mul (de_get (de_var 0 (pv 0)) (de_const pe_int (fun _ => .int _))) (de_get (de_var 0 (pv 0)) (de_const pe_int (fun _ => .int _)))) (de_op or_mul op2_mul (de_get (de_var 0 (pv 0)) (de_const pe_int (fun _ => .int _))) (de_const pe_int
        (fun _ => .int _)))) da_nil)) (de_const pe_int (fun _ => .int _))))
    (db_cons (ds_asg (de_op op_mod op2_mod (de_callTy call_int1 opL_int rfl T.n_int (by decide +kernel) (da_cons (de_op or_add op2_add (de_op or_add op2_add (de_op or_mul op2_mul (de_var 4 (pv 4)) (de_const pe_int (fun _ => .int _))) (de_op or_mul op2_mul (de_get (de_var 0 (pv 0)) (de_const pe_int (fun _ => .int _))) (de_const pe_int (fun _ => .int _)))) (de_const pe_int
        (fun _ => .int _))) da_nil)) (de_const pe_int (fun _ => .int _))) (dg_item (de_var 0 (pv 0)) (de_const pe_int (fun _ => .int _))))
    (db_one (ds_ret (de_op op_mod op2_mod (de_callTy call_int1 opL_int rfl T.n_int (by decide +kernel) (da_cons (de_op or_add op2_add (de_op op_fdivW op2_div (de_get (de_var 0 (pv 0)) (de_const pe_int (fun _ => .int _))) (de_const pe_int (fun _ => .int _))) (de_op or_mul op2_mul (de_op op_mod op2_mod (de_callTy call_int1 opL_int rfl T.n_int (by decide +kernel) (da_cons (de_get (de_var 0 (pv 0))
        (de_const pe_int (fun _ => .int _))) da_nil)) (de_const pe_int (fun _ => .int _))) (de_const pe_int (fun _ => .int _)))) da_nil)) (de_var 1 (pv 1)))))))))) ?_
  rfl
theorem sc_znumber : FnScope ["_law_reel_here", "_law_way"] ["_law_reel_here"] (defScope s_znumber) := ⟨rfl, rfl, rfl, by decide +kernel, rfl, by decide +kernel, by decide +kernel⟩
theorem okF_znumber (F : Fun K "_law_number" "_law_number" s_znumber d.a_znumber fd) (T : Txt K mg d) (C_zdraw : FOk P w K mg base 1 d.a_zdraw ["_law_reel_here", "_law_size"] m_zdraw) : FnOk P w K mg base (L2.CX P w) 2 d.a_znumber fd ["_law_reel_here"] (spD K mg (["_law_reel_here"] : List Str).length m_znumber) := by
  refine fn_okE (k := 1) F sc_znumber (fun cdv A outer s H E hr tk ps =>
  (db_cons (dset 1 sc_znumber.nd (de_call C_zdraw (hr.mono (by omega)) tk rfl T.g_zdraw T.k_zdraw (da_cons (de_var 0 (pv 0)) (da_cons (de_const pe_int (fun _ => .int _)) da_nil))))
    (db_cons (ds_if (dt_cmp (or_eq hr.units) op2_eq (de_var 1 (pv 1)) (de_const pe_int (fun _ => .int _)) (nomark _)) (db_one (ds_ret (de_op op_sub op2_i0 (de_call C_zdraw (hr.mono (by omega)) tk rfl T.g_zdraw T.k_zdraw (da_cons (de_var 0 (pv 0)) (da_cons (de_const pe_int (fun _ => .int _)) da_nil))) (de_const pe_int (fun _ => .int _))))) db_nil)
    (db_cons (ds_if (dt_cmp (or_eq hr.units) op2_eq (de_var 1 (pv 1)) (de_const pe_int (fun _ => .int _)) (nomark _)) (db_one (ds_ret (de_call C_zdraw (hr.mono (by omega)) tk rfl T.g_zdraw T.k_zdraw (da_cons (de_var 0 (pv 0)) (da_cons (de_const pe_int (fun _ => .int _)) da_nil))))) db_nil)
    (db_cons (ds_if (dt_cmp (or_eq hr.units) op2_eq (de_var 1 (pv 1)) (de_const pe_int (fun _ => .int _)) (nomark _)) (db_one (ds_ret (de_op op_sub op2_i0 (de_call C_zdraw (hr.mono (by omega)) tk rfl T.g_zdraw T.k_zdraw (da_cons (de_var 0 (pv 0)) (da_cons (de_op or_add op2_add (de_op or_mul op2_mul (de_const pe_int (fun _ => .int _)) (de_op op_pow op2_pow (de_const pe_int (fun _ => .int _))
        (de_const pe_int (fun _ => .int _)))) (de_const pe_int (fun _ => .int _))) da_nil))) (de_op op_pow op2_pow (de_const pe_int (fun _ => .int _)) (de_const pe_int (fun _ => .int _)))))) db_nil)
    (db_one (ds_ret (de_op op_sub op2_i0 (de_call C_zdraw (hr.mono (by omega)) tk rfl T.g_zdraw T.k_zdraw (da_cons (de_var 0 (pv 0)) (da_cons (de_const pe_int (fun _ => .int _)) da_nil))) (de_const pe_int (fun _ => .int _)))))))))) ?_
  rfl
theorem sc_zof : FnScope ["_law_reel_here", "_law_some"] ["_law_reel_here", "_law_some"] (defScope s_zof) := ⟨rfl, rfl, rfl, by decide +kernel, rfl, by decide +kernel, by decide +kernel⟩
theorem okF_zof (F : Fun K "_law_of" "_law_of" s_zof d.a_zof fd) (T : Txt K mg d) (C_zdraw : FOk P w K mg base 1 d.a_zdraw ["_law_reel_here", "_law_size"] m_zdraw) : FnOk P w K mg base (L2.CX P w) 2 d.a_zof fd ["_law_reel_here", "_law_some"] (spD K mg (["_law_reel_here", "_law_some"] : List Str).length m_zof) := by
  refine fn_okE (k := 1) F sc_zof (fun cdv A outer s H E hr tk ps =>
  (db_one (ds_ret (de_get (de_var 1 (pv 1)) (de_call C_zdraw (hr.mono (by omega)) tk rfl T.g_zdraw T.k_zdraw (da_cons (de_var 0 (pv 0)) (da_cons (de_callB call_len opL_len rfl T.n_len (by decide +kernel) (da_cons (de_var 1 (pv 1)) da_nil)) da_nil))))))) ?_
  rfl
theorem sc_zspoilt : FnScope ["_law_reel_here", "_law_grid_here", "_law_rows", "_law_i", "_law_j", "_law_row"] ["_law_reel_here", "_law_grid_here"] (defScope s_zspoilt) := ⟨rfl, rfl, rfl, by decide +kernel, rfl, by decide +kernel, by decide +kernel⟩
theorem okF_zspoilt (F : Fun K "_law_spoilt" "_law_spoilt" s_zspoilt d.a_zspoilt fd) (T : Txt K mg d) (C_zdraw : FOk P w K mg base 1 d.a_zdraw ["_law_reel_here", "_law_size"] m_zdraw) (C_zof : FOk P w K mg base 2 d.a_zof ["_law_reel_here", "_law_some"] m_zof) : FnOk P w K mg base (L2.CX P w) 3 d.a_zspoilt fd ["_law_reel_here", "_law_grid_here"] (spD K mg
        (["_law_reel_here", "_law_grid_here"] : List Str).length m_zspoilt) := by
  refine fn_okE (k := 2) F sc_zspoilt (fun cdv A outer s H E hr tk ps =>
  (db_cons (ds_lc (gn_setM 2).rd rfl sc_zspoilt.nd rfl rfl (sw_true rfl rfl rfl (by decide +kernel)) (di_data (de_var 1 (pv 1))) (blkOk_by (own := [("_law_row", 5)]) rfl) (fun _ _ _ _ _ => (dtg_one 5 sc_zspoilt.nd)) (fun _ _ _ _ _ => dts_nil) (fun _ _ _ _ _ => (de_callTy call_list_of opL_list rfl T.n_list (by decide +kernel) (da_cons (de_var 5 (pv 5)) da_nil))))
    (db_cons (ds_if (dt_cmp (or_eq hr.units) op2_eq (de_call C_zdraw (hr.mono (by omega)) tk rfl T.g_zdraw T.k_zdraw (da_cons (de_var 0 (pv 0)) (da_cons (de_const pe_int (fun _ => .int _)) da_nil))) (de_const pe_int (fun _ => .int _)) (nomark _)) (db_cons (ds_par2 (gn_set 3) (gn_set 4) rfl sc_zspoilt.nd rfl rfl (by decide) rfl rfl (da_cons (de_call C_zdraw (hr.mono
        (by omega)) tk rfl T.g_zdraw T.k_zdraw (da_cons (de_var 0 (pv 0)) (da_cons (de_callB call_len opL_len rfl T.n_len (by decide +kernel) (da_cons (de_var 2 (pv 2)) da_nil)) da_nil))) (da_cons (de_call C_zdraw (hr.mono (by omega)) tk rfl T.g_zdraw T.k_zdraw (da_cons (de_var 0 (pv 0)) (da_cons (de_lenS (dsn_place (dp_sub (dp_var 2 (pv 2)) (dv_const pe_int
        (fun _ => .int _)))) rfl T.n_len) da_nil))) da_nil)) rfl)
    (db_one (ds_asg (de_op or_add op2_add (de_flat (dsn_place (dp_sub (dp_sub (dp_var 2 (pv 2)) (dv_var 3 (pv 3))) (dv_var 4 (pv 4))))) (de_call C_zof (hr.mono (by omega)) tk rfl T.g_zof T.k_zof (da_cons (de_var 0 (pv 0)) (da_cons (de_lst (da_cons (de_const pe_int (fun _ => .int _)) (da_cons (de_const pe_int (fun _ => .int _)) (da_cons (de_op op_sub op2_i0 (de_const pe_int (fun _ => .int _))
        (de_const pe_int (fun _ => .int _))) (da_cons (de_const pe_int (fun _ => .int _)) da_nil))))) da_nil)))) (dg_itemP (dp_sub (dp_var 2 (pv 2)) (dv_var 3 (pv 3))) (dv_var 4 (pv 4)))))) db_nil)
    (db_one (ds_ret (de_var 2 (pv 2))))))) ?_
  rfl
theorem sc_zgrid : FnScope ["_law_reel_here", "_law_high", "_law_wide", "_law_way", "_law_a", "_law_b", "_law_rows", "_law_k", "_law_i", "_law_j", "_law_one_z", "_law_other_z"] ["_law_reel_here", "_law_high", "_law_wide"] (defScope s_zgrid) := ⟨rfl, rfl, rfl, by decide +kernel, rfl, by decide +kernel, by decide +kernel⟩
theorem okF_zgrid (F : Fun K "_law_grid" "_law_grid" s_zgrid d.a_zgrid fd) (T : Txt K mg d) (C_zdraw : FOk P w K mg base 1 d.a_zdraw ["_law_reel_here", "_law_size"] m_zdraw) (C_znumber : FOk P w K mg base 2 d.a_znumber ["_law_reel_here"] m_znumber) (C_zspoilt : FOk P w K mg base 3 d.a_zspoilt ["_law_reel_here", "_law_grid_here"] m_zspoilt) : FnOk P w K mg base
        (L2.CX P w) 4 d.a_zgrid fd ["_law_reel_here", "_law_high", "_law_wide"] (spD K mg (["_law_reel_here", "_law_high", "_law_wide"] : List Str).length m_zgrid) := by
  refine fn_okE (k := 3) F sc_zgrid (fun cdv A outer s H E hr tk ps =>
  (db_cons (dset 3 sc_zgrid.nd (de_call C_zdraw (hr.mono (by omega)) tk rfl T.g_zdraw T.k_zdraw (da_cons (de_var 0 (pv 0)) (da_cons (de_const pe_int (fun _ => .int _)) da_nil))))
    (db_cons (dset 4 sc_zgrid.nd (de_lc rfl sc_zgrid.nd (di_range1 rfl T.n_range (da_cons (de_var 1 (pv 1)) da_nil)) (blkOk_by (own := [("_law_k", 7)]) rfl) (fun _ _ _ _ _ => (dtg_one 7 sc_zgrid.nd)) (fun _ _ _ _ _ => dts_nil) (fun _ _ _ _ _ => (de_call C_znumber (hr.mono (by omega)) takes0 rfl T.g_znumber T.k_znumber (da_cons (de_var 0 (pv 0)) da_nil)))))
    (db_cons (dset 5 sc_zgrid.nd (de_lc rfl sc_zgrid.nd (di_range1 rfl T.n_range (da_cons (de_var 2 (pv 2)) da_nil)) (blkOk_by (own := [("_law_k", 7)]) rfl) (fun _ _ _ _ _ => (dtg_one 7 sc_zgrid.nd)) (fun _ _ _ _ _ => dts_nil) (fun _ _ _ _ _ => (de_call C_znumber (hr.mono (by omega)) takes0 rfl T.g_znumber T.k_znumber (da_cons (de_var 0 (pv 0)) da_nil)))))
    (db_cons (ds_if (dt_cmp (or_eq hr.units) op2_eq (de_var 3 (pv 3)) (de_const pe_int (fun _ => .int _)) (nomark _)) (db_one (ds_ret (de_lc rfl sc_zgrid.nd (di_range1 rfl T.n_range (da_cons (de_var 1 (pv 1)) da_nil)) (blkOk_by (own := [("_law_i", 8)]) rfl) (fun _ _ _ _ _ => (dtg_one 8 sc_zgrid.nd)) (fun _ _ _ _ _ => dts_nil) (fun _ _ _ _ _ => (de_lc rfl sc_zgrid.nd (di_range1 rfl T.n_range
        (da_cons (de_var 2 (pv 2)) da_nil)) (blkOk_by (own := [("_law_j", 9)]) rfl) (fun _ _ _ _ _ => (dtg_one 9 sc_zgrid.nd)) (fun _ _ _ _ _ => dts_nil) (fun _ _ _ _ _ => (de_call C_zdraw (hr.mono (by omega)) takes0 rfl T.g_zdraw T.k_zdraw (da_cons (de_var 0 (pv 0)) (da_cons (de_const pe_int (fun _ => .int _)) da_nil))))))))) db_nil)
    (db_cons (ds_if (dt_cmp (or_eq hr.units) op2_eq (de_var 3 (pv 3)) (de_const pe_int (fun _ => .int _)) (nomark _)) (db_one (ds_ret (de_lc rfl sc_zgrid.nd (di_range1 rfl T.n_range (da_cons (de_var 1 (pv 1)) da_nil)) (blkOk_by (own := [("_law_i", 8)]) rfl) (fun _ _ _ _ _ => (dtg_one 8 sc_zgrid.nd)) (fun _ _ _ _ _ => dts_nil) (fun _ _ _ _ _ => (de_lc rfl sc_zgrid.nd (di_range1 rfl T.n_range
        (da_cons (de_var 2 (pv 2)) da_nil)) (blkOk_by (own := [("_law_j", 9)]) rfl) (fun _ _ _ _ _ => (dtg_one 9 sc_zgrid.nd)) (fun _ _ _ _ _ => dts_nil) (fun _ _ _ _ _ => (de_call C_znumber (hr.mono (by omega)) takes0 rfl T.g_znumber T.k_znumber (da_cons (de_var 0 (pv 0)) da_nil)))))))) db_nil)
    (db_cons (ds_if (dt_cmp (or_eq hr.units) op2_eq (de_var 3 (pv 3)) (de_const pe_int (fun _ => .int _)) (nomark _)) (db_one (ds_lc (gn_set 6).rd rfl sc_zgrid.nd rfl rfl (sw_true rfl rfl rfl (by decide +kernel)) (di_data (de_var 4 (pv 4))) (blkOk_by (own := [("_law_one_z", 10)]) rfl) (fun _ _ _ _ _ => (dtg_one 10 sc_zgrid.nd)) (fun _ _ _ _ _ => dts_nil) (fun _ _ _ _ _ => (de_lc rfl sc_zgrid.nd
        (di_data (de_var 5 (pv 5))) (blkOk_by (own := [("_law_other_z", 11)]) rfl) (fun _ _ _ _ _ => (dtg_one 11 sc_zgrid.nd)) (fun _ _ _ _ _ => dts_nil) (fun _ _ _ _ _ => (de_op or_add op2_add (de_var 10 (pv 10)) (de_var 11 (pv 11)))))))) (db_one (ds_if (dt_cmp (or_eq hr.units) op2_eq (de_var 3 (pv 3)) (de_const pe_int (fun _ => .int _)) (nomark _)) (db_one (ds_lc
        (gn_set 6).rd rfl sc_zgrid.nd rfl rfl (sw_true rfl rfl rfl (by decide +kernel)) (di_data (de_var 4 (pv 4))) (blkOk_by (own := [("_law_one_z", 10)]) rfl) (fun _ _ _ _ _ => (dtg_one 10 sc_zgrid.nd)) (fun _ _ _ _ _ => dts_nil) (fun _ _ _ _ _ => (de_lc rfl sc_zgrid.nd (di_data (de_var 5 (pv 5))) (blkOk_by (own := [("_law_other_z", 11)]) rfl) (fun _ _ _ _ _ => (dtg_one 11 sc_zgrid.nd))
        (fun _ _ _ _ _ => dts_nil) (fun _ _ _ _ _ => (de_callB (cr_max rfl) opL_max rfl T.n_max (by decide +kernel) (da_cons (de_lst (da_cons (de_var 10 (pv 10)) (da_cons (de_var 11 (pv 11)) da_nil))) da_nil))))))) (db_one (ds_if (dt_cmp (or_eq hr.units) op2_eq (de_var 3 (pv 3)) (de_const pe_int (fun _ => .int _)) (nomark _)) (db_one (ds_lc (gn_set 6).rd rfl sc_zgrid.nd rfl rfl
        (sw_true rfl rfl rfl (by decide +kernel)) (di_data (de_var 4 (pv 4))) (blkOk_by (own := [("_law_one_z", 10)]) rfl) (fun _ _ _ _ _ => (dtg_one 10 sc_zgrid.nd)) (fun _ _ _ _ _ => dts_nil) (fun _ _ _ _ _ => (de_lc rfl sc_zgrid.nd (di_data (de_var 5 (pv 5))) (blkOk_by (own := [("_law_other_z", 11)]) rfl) (fun _ _ _ _ _ => (dtg_one 11 sc_zgrid.nd)) (fun _ _ _ _ _ => dts_nil) (fun _ _ _ _ _ =>
        (de_callB (cr_min rfl) opL_min rfl T.n_min (by decide +kernel) (da_cons (de_lst (da_cons (de_var 10 (pv 10)) (da_cons (de_var 11 (pv 11)) da_nil))) da_nil))))))) (db_one (ds_if (dt_cmp (or_eq hr.units) op2_eq (de_var 3 (pv 3)) (de_const pe_int (fun _ => .int _)) (nomark _)) (db_one (ds_lc (gn_set 6).rd rfl sc_zgrid.nd rfl rfl (sw_true rfl rfl rfl (by decide +kernel)) (di_data (de_var 4
        (pv 4))) (blkOk_by (own := [("_law_one_z", 10)]) rfl) (fun _ _ _ _ _ => (dtg_one 10 sc_zgrid.nd)) (fun _ _ _ _ _ => dts_nil) (fun _ _ _ _ _ => (de_lc rfl sc_zgrid.nd (di_data (de_var 5 (pv 5))) (blkOk_by (own := [("_law_other_z", 11)]) rfl) (fun _ _ _ _ _ => (dtg_one 11 sc_zgrid.nd)) (fun _ _ _ _ _ => dts_nil) (fun _ _ _ _ _ => (de_var 10 (pv 10))))))) (db_one (ds_if (dt_cmp
        (or_eq hr.units) op2_eq (de_var 3 (pv 3)) (de_const pe_int (fun _ => .int _)) (nomark _)) (db_one (ds_lc (gn_set 6).rd rfl sc_zgrid.nd rfl rfl (sw_true rfl rfl rfl (by decide +kernel)) (di_data (de_var 4 (pv 4))) (blkOk_by (own := [("_law_one_z", 10)]) rfl) (fun _ _ _ _ _ => (dtg_one 10 sc_zgrid.nd)) (fun _ _ _ _ _ => dts_nil) (fun _ _ _ _ _ =>
        (de_callTy call_list_of opL_list rfl T.n_list (by decide +kernel) (da_cons (de_var 5 (pv 5)) da_nil))))) (db_one (ds_lc (gn_set 6).rd rfl sc_zgrid.nd rfl rfl (sw_true rfl rfl rfl (by decide +kernel)) (di_data (de_var 4 (pv 4))) (blkOk_by (own := [("_law_one_z", 10)]) rfl) (fun _ _ _ _ _ => (dtg_one 10 sc_zgrid.nd)) (fun _ _ _ _ _ => dts_nil) (fun _ _ _ _ _ => (de_lc rfl sc_zgrid.nd
        (di_data (de_var 5 (pv 5))) (blkOk_by (own := [("_law_other_z", 11)]) rfl) (fun _ _ _ _ _ => (dtg_one 11 sc_zgrid.nd)) (fun _ _ _ _ _ => dts_nil) (fun _ _ _ _ _ => (de_get (de_var 4 (pv 4)) (de_const pe_int (fun _ => .int _)))))))))))))))))
    (db_one (ds_ret (de_call C_zspoilt (hr.mono (by omega)) tk rfl T.g_zspoilt T.k_zspoilt (da_cons (de_var 0 (pv 0)) (da_cons (de_var 6 (pv 6)) da_nil)))))))))))) ?_
  rfl
theorem sc_zwords : FnScope ["_law_reel_here", "_law_many", "_law_most", "_law_abc", "_law_stem", "_law_spot", "_law_start", "_law_tails", "_law_k"] ["_law_reel_here", "_law_many", "_law_most"] (defScope s_zwords) := ⟨rfl, rfl, rfl, by decide +kernel, rfl, by decide +kernel, by decide +kernel⟩
theorem okF_zwords (F : Fun K "_law_words" "_law_words" s_zwords d.a_zwords fd) (T : Txt K mg d) (C_zdraw : FOk P w K mg base 1 d.a_zdraw ["_law_reel_here", "_law_size"] m_zdraw) (C_zof : FOk P w K mg base 2 d.a_zof ["_law_reel_here", "_law_some"] m_zof) : FnOk P w K mg base (L2.CX P w) 3 d.a_zwords fd ["_law_reel_here", "_law_many", "_law_most"] (spD K mg
        (["_law_reel_here", "_law_many", "_law_most"] : List Str).length m_zwords) := by
  refine fn_okE (k := 2) F sc_zwords (fun cdv A outer s H E hr tk ps =>
  (db_cons (dset 3 sc_zwords.nd (de_const pe_str (fun _ => .str _)))
    (db_cons (dset 4 sc_zwords.nd (de_m1 PySem.F.slot_str_join PySem.F.type_str_join mt_join opM1_join (de_const pe_str (fun _ => .str _)) (de_lc rfl sc_zwords.nd (di_range1 rfl T.n_range (da_cons (de_call C_zdraw (hr.mono (by omega)) tk rfl T.g_zdraw T.k_zdraw (da_cons (de_var 0 (pv 0)) (da_cons (de_var 2 (pv 2)) da_nil))) da_nil)) (blkOk_by (own := [("_law_k", 8)]) rfl) (fun _ _ _ _ _ =>
        (dtg_one 8 sc_zwords.nd)) (fun _ _ _ _ _ => dts_nil) (fun _ _ _ _ _ => (de_call C_zof (hr.mono (by omega)) takes0 rfl T.g_zof T.k_zof (da_cons (de_var 0 (pv 0)) (da_cons (de_var 3 (pv 3)) da_nil)))))))
    (db_cons (ds_asg (de_tup (da_cons (de_call C_zdraw (hr.mono (by omega)) tk rfl T.g_zdraw T.k_zdraw (da_cons (de_var 0 (pv 0)) (da_cons (de_op or_add op2_add (de_callB call_len opL_len rfl T.n_len (by decide +kernel) (da_cons (de_var 4 (pv 4)) da_nil)) (de_const pe_int (fun _ => .int _))) da_nil))) (da_cons (de_call C_zdraw (hr.mono (by omega)) tk rfl T.g_zdraw T.k_zdraw (da_cons (de_var 0
        (pv 0)) (da_cons (de_const pe_int (fun _ => .int _)) da_nil))) da_nil))) (dg_tup (n := 2) rfl (dgs_cons (dgn 5 sc_zwords.nd) (dgs_cons (dgn 6 sc_zwords.nd) dgs_nil))))
    (db_cons (dset 7 sc_zwords.nd (de_lc rfl sc_zwords.nd (di_range1 rfl T.n_range (da_cons (de_var 1 (pv 1)) da_nil)) (blkOk_by (own := [("_law_k", 8)]) rfl) (fun _ _ _ _ _ => (dtg_one 8 sc_zwords.nd)) (fun _ _ _ _ _ => dts_nil) (fun _ _ _ _ _ => (de_op or_add op2_add (de_var 5 (pv 5)) (de_call C_zdraw (hr.mono (by omega)) takes0 rfl T.g_zdraw T.k_zdraw (da_cons (de_var 0 (pv 0)) (da_cons
        (de_op or_add op2_add (de_op op_sub op2_i0 (de_callB call_len opL_len rfl T.n_len (by decide +kernel) (da_cons (de_var 4 (pv 4)) da_nil)) (de_var 5 (pv 5))) (de_const pe_int (fun _ => .int _))) da_nil)))))))
    (db_one (ds_ret (de_lc rfl sc_zwords.nd (di_range1 rfl T.n_range (da_cons (de_var 1 (pv 1)) da_nil)) (blkOk_by (own := [("_law_k", 8)]) rfl) (fun _ _ _ _ _ => (dtg_one 8 sc_zwords.nd)) (fun _ _ _ _ _ => dts_nil) (fun _ _ _ _ _ => (de_op or_add op2_add (de_op or_add op2_add (de_slice (de_var 4 (pv 4)) do_none (do_some (de_var 5 (pv 5)))) (de_get (de_var 3 (pv 3)) (de_op op_mod op2_mod
        (de_callTy call_int1 opL_int rfl T.n_int (by decide +kernel) (da_cons (de_op or_add op2_add (de_var 6 (pv 6)) (de_op or_mul op2_mul (de_const pe_int (fun _ => .int _)) (de_var 8 (pv 8)))) da_nil)) (de_const pe_int (fun _ => .int _))))) (de_slice (de_var 4 (pv 4)) (do_some (de_var 5 (pv 5))) (do_some (de_get (de_var 7 (pv 7)) (de_var 8 (pv 8))))))))))))))) ?_
  rfl
theorem sc_zkinds : FnScope ["_law_reel_here", "_law_many"] ["_law_reel_here", "_law_many"] (defScope s_zkinds) := ⟨rfl, rfl, rfl, by decide +kernel, rfl, by decide +kernel, by decide +kernel⟩
theorem okF_zkinds (F : Fun K "_law_kinds" "_law_kinds" s_zkinds d.a_zkinds fd) (T : Txt K mg d) (C_zwords : FOk P w K mg base 3 d.a_zwords ["_law_reel_here", "_law_many", "_law_most"] m_zwords) : FnOk P w K mg base (L2.CX P w) 4 d.a_zkinds fd ["_law_reel_here", "_law_many"] (spD K mg (["_law_reel_here", "_law_many"] : List Str).length m_zkinds) := by
  refine fn_okE (k := 3) F sc_zkinds (fun cdv A outer s H E hr tk ps =>
  (db_one (ds_ret (de_call C_zwords (hr.mono (by omega)) tk rfl T.g_zwords T.k_zwords (da_cons (de_var 0 (pv 0)) (da_cons (de_var 1 (pv 1)) (da_cons (de_const pe_int (fun _ => .int _)) da_nil))))))) ?_
  rfl
theorem sc_zplain_look : FnScope ["_law_reel_here", "_law_most", "_law_left_z", "_law_right_z"] ["_law_reel_here", "_law_most"] (defScope s_zplain_look) := ⟨rfl, rfl, rfl, by decide +kernel, rfl, by decide +kernel, by decide +kernel⟩
theorem okF_zplain_look (F : Fun K "_law_plain_look" "_law_plain_look" s_zplain_look d.a_zplain_look fd) (T : Txt K mg d) (C_zdraw : FOk P w K mg base 1 d.a_zdraw ["_law_reel_here", "_law_size"] m_zdraw) (C_zgrid : FOk P w K mg base 4 d.a_zgrid ["_law_reel_here", "_law_high", "_law_wide"] m_zgrid)
        (C_zkinds : FOk P w K mg base 4 d.a_zkinds ["_law_reel_here", "_law_many"] m_zkinds) : FnOk P w K mg base (L2.CX P w) 5 d.a_zplain_look fd ["_law_reel_here", "_law_most"] (spD K mg (["_law_reel_here", "_law_most"] : List Str).length m_zplain_look) := by
  refine fn_okE (k := 4) F sc_zplain_look (fun cdv A outer s H E hr tk ps =>
  (db_cons (ds_par2 (gn_set 2) (gn_set 3) rfl sc_zplain_look.nd rfl rfl (by decide) rfl rfl (da_cons (de_call C_zkinds (hr.mono (by omega)) tk rfl T.g_zkinds T.k_zkinds (da_cons (de_var 0 (pv 0)) (da_cons (de_op or_add op2_add (de_const pe_int (fun _ => .int _)) (de_call C_zdraw (hr.mono (by omega)) tk rfl T.g_zdraw T.k_zdraw (da_cons (de_var 0 (pv 0)) (da_cons (de_var 1
        (pv 1)) da_nil)))) da_nil))) (da_cons (de_call C_zkinds (hr.mono (by omega)) tk rfl T.g_zkinds T.k_zkinds (da_cons (de_var 0 (pv 0)) (da_cons (de_op or_add op2_add (de_const pe_int (fun _ => .int _)) (de_call C_zdraw (hr.mono (by omega)) tk rfl T.g_zdraw T.k_zdraw (da_cons (de_var 0 (pv 0)) (da_cons (de_var 1 (pv 1)) da_nil)))) da_nil))) da_nil)) rfl)
    (db_cons (ds_if (dt_cmp (or_eq hr.units) op2_eq (de_call C_zdraw (hr.mono (by omega)) tk rfl T.g_zdraw T.k_zdraw (da_cons (de_var 0 (pv 0)) (da_cons (de_const pe_int (fun _ => .int _)) da_nil))) (de_const pe_int (fun _ => .int _)) (nomark _)) (db_one (dset 3 sc_zplain_look.nd (de_callTy call_list_of opL_list rfl T.n_list (by decide +kernel) (da_cons (de_var 2 (pv 2)) da_nil)))) db_nil)
    (db_one (ds_ret (de_lst (da_cons (de_const pe_str (fun _ => .str _)) (da_cons (de_var 2 (pv 2)) (da_cons (de_var 3 (pv 3)) (da_cons (de_call C_zgrid (hr.mono (by omega)) tk rfl T.g_zgrid T.k_zgrid (da_cons (de_var 0 (pv 0)) (da_cons (de_callB call_len opL_len rfl T.n_len (by decide +kernel) (da_cons (de_var 2 (pv 2)) da_nil)) (da_cons (de_callB call_len opL_len rfl T.n_len
        (by decide +kernel) (da_cons (de_var 3 (pv 3)) da_nil)) da_nil)))) (da_cons (de_const pe_str (fun _ => .str _)) (da_cons (de_const pe_non (fun _ => .non)) da_nil)))))))))))) ?_
  rfl
theorem sc_zreel : FnScope ["_law_script", "_law_cells"] ["_law_script"] (defScope s_zreel) := ⟨rfl, rfl, rfl, by decide +kernel, rfl, by decide +kernel, by decide +kernel⟩
theorem okF_zreel (F : Fun K "_law_reel" "_law_reel" s_zreel d.a_zreel fd) (T : Txt K mg d)  : FnOk P w K mg base (L2.CX P w) 1 d.a_zreel fd ["_law_script"] (spD K mg (["_law_script"] : List Str).length m_zreel) := by
  refine fn_okE (k := 0) F sc_zreel (fun cdv A outer s H E hr tk ps =>
  (db_cons (dset 1 sc_zreel.nd (de_callTy call_list_of opL_list rfl T.n_list (by decide +kernel) (da_cons (de_slice (de_var 0 (pv 0)) do_none (do_some (de_const pe_int (fun _ => .int _)))) da_nil)))
    (db_one (ds_ret (de_lst (da_cons (de_var 1 (pv 1)) (da_cons (de_const pe_int (fun _ => .int _)) (da_cons (de_const pe_int (fun _ => .int _)) (da_cons (de_op or_add op2_add (de_const pe_int (fun _ => .int _)) (de_op or_mul op2_mul (de_const pe_int (fun _ => .int _)) (de_callB call_len opL_len rfl T.n_len (by decide +kernel) (da_cons (de_var 1 (pv 1)) da_nil)))) da_nil))))))))) ?_
  rfl
theorem sc_zsame : FnScope ["_law_found", "_law_due", "_law_a", "_law_b"] ["_law_found", "_law_due"] (defScope s_zsame) := ⟨rfl, rfl, rfl, by decide +kernel, rfl, by decide +kernel, by decide +kernel⟩
theorem okF_zsame (F : Fun K "_law_same" "_law_same" s_zsame d.a_zsame fd) (hb : Binds K fd ["_law_found", "_law_due"] []) (T : Txt K mg d)  : ∀ n, FnOk P w K mg base (L2.CX P w) (1 + n) d.a_zsame fd ["_law_found", "_law_due"] (spD K mg (["_law_found", "_law_due"] : List Str).length (m_zsame n))
  | 0 => bad_okF F sc_zsame
  | n + 1 => by
    have C_zsame : FOk P w K mg base (1 + n) d.a_zsame ["_law_found", "_law_due"] (m_zsame n) := .of (okF_zsame F hb T  n) hb
    refine fn_okE (k := 1 + n) F sc_zsame (fun cdv A outer s H E hr tk ps =>
  (db_cons (ds_if (DW.dt (dw_or (dt_cmp op_isN op2_isN (de_var 1 (pv 1)) (de_const pe_non (fun _ => .non)) (nomark _)) (dw_or1 (dt_cmp op_isN op2_isN (de_var 0 (pv 0)) (de_const pe_non (fun _ => .non)) (nomark _))))) (db_one (ds_ret (de_and (de_cmp op_isN op2_isN (de_var 1 (pv 1)) (de_const pe_non (fun _ => .non)) (nomark _)) (de_one (de_cmp op_isN op2_isN (de_var 0 (pv 0)) (de_const pe_non
        (fun _ => .non)) (nomark _)))))) db_nil)
    (db_cons (ds_if (dt_tru (de_callB or_isi opL_isi rfl T.n_isinstance (by decide +kernel) (da_cons (de_var 1 (pv 1)) (da_cons (de_ty (y := "list") T.n_list rfl (by decide +kernel)) da_nil)))) (db_cons (ds_if (DW.dt (dw_or (dt_not (dt_tru (de_callB or_isi opL_isi rfl T.n_isinstance (by decide +kernel) (da_cons (de_var 0 (pv 0)) (da_cons (de_ty (y := "list") T.n_list rfl
        (by decide +kernel)) da_nil))))) (dw_or1 (dt_cmp (or_ne hr.units) op2_ne (de_callB call_len opL_len rfl T.n_len (by decide +kernel) (da_cons (de_var 0 (pv 0)) da_nil)) (de_callB call_len opL_len rfl T.n_len (by decide +kernel) (da_cons (de_var 1 (pv 1)) da_nil)) (nomark _))))) (db_one (ds_ret (de_const pe_bl (fun _ => .bl _)))) db_nil)
    (db_one (ds_ret (de_callB (cr_all rfl) opL_all rfl T.n_all (by decide +kernel) (da_cons (de_lc rfl sc_zsame.nd (di_zip rfl T.n_zip (da_cons (de_var 0 (pv 0)) (da_cons (de_var 1 (pv 1)) da_nil))) (blkOk_by (own := [("_law_a", 2), ("_law_b", 3)]) rfl) (fun _ _ _ _ _ => (dtg_many rfl (pgn_cons 2 sc_zsame.nd (pgn_cons 3 sc_zsame.nd pgn_nil)))) (fun _ _ _ _ _ => dts_nil) (fun _ _ _ _ _ =>
        (de_call C_zsame (hr.mono (by omega)) takes0 rfl T.g_zsame T.k_zsame (da_cons (de_var 2 (pv 2)) (da_cons (de_var 3 (pv 3)) da_nil))))) da_nil))))) db_nil)
    (db_cons (ds_if (dt_tru (de_callB or_isi opL_isi rfl T.n_isinstance (by decide +kernel) (da_cons (de_var 1 (pv 1)) (da_cons (de_ty (y := "tuple") T.n_tuple rfl (by decide +kernel)) da_nil)))) (db_cons (ds_if (DW.dt (dw_or (dt_not (dt_tru (de_callB or_isi opL_isi rfl T.n_isinstance (by decide +kernel) (da_cons (de_var 0 (pv 0)) (da_cons (de_ty (y := "tuple") T.n_tuple rfl
        (by decide +kernel)) da_nil))))) (dw_or1 (dt_cmp (or_ne hr.units) op2_ne (de_callB call_len opL_len rfl T.n_len (by decide +kernel) (da_cons (de_var 0 (pv 0)) da_nil)) (de_callB call_len opL_len rfl T.n_len (by decide +kernel) (da_cons (de_var 1 (pv 1)) da_nil)) (nomark _))))) (db_one (ds_ret (de_const pe_bl (fun _ => .bl _)))) db_nil)
    (db_one (ds_ret (de_callB (cr_all rfl) opL_all rfl T.n_all (by decide +kernel) (da_cons (de_lc rfl sc_zsame.nd (di_zip rfl T.n_zip (da_cons (de_var 0 (pv 0)) (da_cons (de_var 1 (pv 1)) da_nil))) (blkOk_by (own := [("_law_a", 2), ("_law_b", 3)]) rfl) (fun _ _ _ _ _ => (dtg_many rfl (pgn_cons 2 sc_zsame.nd (pgn_cons 3 sc_zsame.nd pgn_nil)))) (fun _ _ _ _ _ => dts_nil) (fun _ _ _ _ _ =>
        (de_call C_zsame (hr.mono (by omega)) takes0 rfl T.g_zsame T.k_zsame (da_cons (de_var 2 (pv 2)) (da_cons (de_var 3 (pv 3)) da_nil))))) da_nil))))) db_nil)
    (db_cons (ds_if (dt_tru (de_callB or_isi opL_isi rfl T.n_isinstance (by decide +kernel) (da_cons (de_var 1 (pv 1)) (da_cons (de_ty (y := "bool") T.n_bool rfl (by decide +kernel)) da_nil)))) (db_one (ds_ret (de_and (de_callB or_isi opL_isi rfl T.n_isinstance (by decide +kernel) (da_cons (de_var 0 (pv 0)) (da_cons (de_ty (y := "bool") T.n_bool rfl (by decide +kernel)) da_nil))) (de_one (de_cmp
        (or_eq hr.units) op2_eq (de_var 0 (pv 0)) (de_var 1 (pv 1)) (nomark _)))))) db_nil)
    (db_cons (ds_if (dt_tru (de_callB or_isi opL_isi rfl T.n_isinstance (by decide +kernel) (da_cons (de_var 1 (pv 1)) (da_cons (de_ty (y := "int") T.n_int rfl (by decide +kernel)) da_nil)))) (db_one (ds_ret (de_and (de_callB or_isi opL_isi rfl T.n_isinstance (by decide +kernel) (da_cons (de_var 0 (pv 0)) (da_cons (de_ty (y := "int") T.n_int rfl (by decide +kernel)) da_nil))) (de_and (de_not
        (de_callB or_isi opL_isi rfl T.n_isinstance (by decide +kernel) (da_cons (de_var 0 (pv 0)) (da_cons (de_ty (y := "bool") T.n_bool rfl (by decide +kernel)) da_nil)))) (de_one (de_cmp (or_eq hr.units) op2_eq (de_var 0 (pv 0)) (de_var 1 (pv 1)) (nomark _))))))) db_nil)
    (db_one (ds_ret (de_and (de_callB or_isi opL_isi rfl T.n_isinstance (by decide +kernel) (da_cons (de_var 0 (pv 0)) (da_cons (de_ty (y := "str") T.n_str rfl (by decide +kernel)) da_nil))) (de_one (de_cmp (or_eq hr.units) op2_eq (de_var 0 (pv 0)) (de_var 1 (pv 1)) (nomark _)))))))))))) ?_
    rfl
theorem sc_law : FnScope ["_law_script", "_law_reel_here", "_law_turn", "_law_look", "_law_left_z", "_law_right_z", "_law_rows", "_law_made", "_law_inner", "_law_told", "_law_shown", "_law_due", "_law_i", "_law_j", "_law_again", "_law_bent", "_law_turned", "_law_row"] ["_law_script"] (defScope s_law) := ⟨rfl, rfl, rfl, by decide +kernel, rfl, by decide +kernel, by decide +kernel⟩
theorem okF_law (F : Fun K "law" "law" s_law d.a_law fd) (T : Txt K mg d) (C_zdraw : FOk P w K mg base 1 d.a_zdraw ["_law_reel_here", "_law_size"] m_zdraw) (C_zplain_look : FOk P w K mg base 5 d.a_zplain_look ["_law_reel_here", "_law_most"] m_zplain_look) (C_zreel : FOk P w K mg base 1 d.a_zreel ["_law_script"] m_zreel) (C_zsame : FOk P w K mg base 5 d.a_zsame ["_law_found", "_law_due"]
        (m_zsame 4)) (B_Table_len : SelfD P w K mg base "Table" "__len__" 1 ["self"] m_Table_len) (B_Table_repr : SelfD P w K mg base "Table" "__repr__" 1 ["self"] m_Table_repr) (D_Table_entry : MethD P w K mg base "Table" "entry" 1 ["self", "one", "other"] m_Table_entry) (D_Table_left : MethD P w K mg base "Table" "left" 1 ["self"] m_Table_left)
        (D_Table_right : MethD P w K mg base "Table" "right" 1 ["self"] m_Table_right) (D_Table_rows : MethD P w K mg base "Table" "rows" 1 ["self"] m_Table_rows) (K_Table_entry : MethK P w K mg base "Table" "entry" 1 ["other", "one"] [0, 2, 1] m_Table_entry) (L_Table_eq : OwnL P w K mg base "Table" 1 ["self", "other"] m_Table_eq)
        (M_Table : MakeD P w K mg base "Table" 4 ["self", "left", "right", "values"] m_Table_init) (N_Table_eq : OwnNe P w K mg base "Table" 1 ["self", "other"] m_Table_eq) (O_Table_eq : OwnD P w K mg base "Table" "__eq__" 1 ["self", "other"] m_Table_eq) (P_Table_is_square : PropD P w K mg base "Table" "is_square" 1 m_Table_is_square)
        (Q_Table : MakeK P w K mg base "Table" 4 ["values", "right", "left"] [0, 3, 2, 1] m_Table_init) : FnOk P w K mg base (L2.CX P w) 6 d.a_law fd ["_law_script"] (spD K mg (["_law_script"] : List Str).length m_law) := by
  refine fn_okE (k := 5) F sc_law (fun cdv A outer s H E hr tk ps =>
  (db_cons (dsetM 1 sc_law.nd (de_call C_zreel (hr.mono (by omega)) tk rfl T.g_zreel T.k_zreel (da_cons (de_var 0 (pv 0)) da_nil)))
    (db_cons (ds_for ps rfl (di_range1 rfl T.n_range (da_cons (de_const pe_int (fun _ => .int _)) da_nil)) (dtg_one 2 sc_law.nd) (db_cons (dset 3 sc_law.nd (de_call C_zplain_look (hr.mono (by omega)) tk rfl T.g_zplain_look T.k_zplain_look (da_cons (de_var 1 (pv 1)) (da_cons (de_const pe_int (fun _ => .int _)) da_nil))))
    (db_cons (ds_par3 (gn_setM 4) (gn_setM 5) (gn_setM 6) rfl sc_law.nd rfl rfl rfl (by decide) (by decide) (by decide) rfl rfl rfl (da_cons (de_callTy call_list_of opL_list rfl T.n_list (by decide +kernel) (da_cons (de_get (de_var 3 (pv 3)) (de_const pe_int (fun _ => .int _))) da_nil)) (da_cons (de_callTy call_list_of opL_list rfl T.n_list (by decide +kernel) (da_cons (de_get (de_var 3 (pv 3))
        (de_const pe_int (fun _ => .int _))) da_nil)) (da_cons (de_lc rfl sc_law.nd (di_data (de_get (de_var 3 (pv 3)) (de_const pe_int (fun _ => .int _)))) (blkOk_by (own := [("_law_row", 17)]) rfl) (fun _ _ _ _ _ => (dtg_one 17 sc_law.nd)) (fun _ _ _ _ _ => dts_nil) (fun _ _ _ _ _ => (de_callTy call_list_of opL_list rfl T.n_list (by decide +kernel) (da_cons (de_var 17
        (pv 17)) da_nil)))) da_nil))) rfl)
    (db_cons (dset 7 sc_law.nd (de_fresh (de_make M_Table (hr.mono (by omega)) tk rfl (da_cons (de_var 4 (pv 4)) (da_cons (de_var 5 (pv 5)) (da_cons (de_var 6 (pv 6)) da_nil))))))
    (db_cons (ds_expr (de_appP (dp_var 4 (pv 4)) (dv_const pe_str (fun _ => .str _))))
    (db_cons (ds_expr (de_popP (dp_var 5 (pv 5))))
    (db_cons (ds_expr (de_appP (dp_sub (dp_var 6 (pv 6)) (dv_const pe_int (fun _ => .int _))) (dv_const pe_non (fun _ => .non))))
    (db_cons (ds_expr (de_appP (dp_var 6 (pv 6)) (dv_const pe_int (fun _ => .int _))))
    (db_cons (ds_expr (de_appT (de_meth0 D_Table_left (hr.mono (by omega)) tk (de_var 7 (pv 7))) (dv_const pe_non (fun _ => .non))))
    (db_cons (ds_expr (de_clearT (de_meth0 D_Table_right (hr.mono (by omega)) tk (de_var 7 (pv 7)))))
    (db_cons (dsetM 8 sc_law.nd (de_meth0 D_Table_rows (hr.mono (by omega)) tk (de_var 7 (pv 7))))
    (db_cons (ds_expr (de_appP (dp_sub (dp_var 8 (pv 8)) (dv_const pe_int (fun _ => .int _))) (dv_const pe_non (fun _ => .non))))
    (db_cons (dset 9 sc_law.nd (de_lst (da_cons (de_meth0 D_Table_left (hr.mono (by omega)) tk (de_var 7 (pv 7))) (da_cons (de_meth0 D_Table_right (hr.mono (by omega)) tk (de_var 7 (pv 7))) (da_cons (de_meth0 D_Table_rows (hr.mono (by omega)) tk (de_var 7 (pv 7))) (da_cons (de_lenO B_Table_len (hr.mono (by omega)) rfl T.n_len (da_cons (de_var 7 (pv 7)) da_nil)) (da_cons (de_reprO B_Table_repr
        (hr.mono (by omega)) rfl T.n_repr (da_cons (de_var 7 (pv 7)) da_nil)) (da_cons (de_prop P_Table_is_square (hr.mono (by omega)) (de_var 7 (pv 7))) da_nil))))))))
    (db_cons (dset 10 sc_law.nd (de_op or_add op2_add (de_op or_add op2_add (de_op or_add op2_add (de_op or_add op2_add (de_const pe_str (fun _ => .str _)) (de_callTy call_str_int opL_str rfl T.n_str (by decide +kernel) (da_cons (de_callB call_len opL_len rfl T.n_len (by decide +kernel) (da_cons (de_get (de_var 3 (pv 3)) (de_const pe_int (fun _ => .int _))) da_nil)) da_nil))) (de_const pe_str
        (fun _ => .str _))) (de_callTy call_str_int opL_str rfl T.n_str (by decide +kernel) (da_cons (de_callB call_len opL_len rfl T.n_len (by decide +kernel) (da_cons (de_get (de_var 3 (pv 3)) (de_const pe_int (fun _ => .int _))) da_nil)) da_nil))) (de_const pe_str (fun _ => .str _))))
    (db_cons (dset 11 sc_law.nd (de_lst (da_cons (de_get (de_var 3 (pv 3)) (de_const pe_int (fun _ => .int _))) (da_cons (de_get (de_var 3 (pv 3)) (de_const pe_int (fun _ => .int _))) (da_cons (de_get (de_var 3 (pv 3)) (de_const pe_int (fun _ => .int _))) (da_cons (de_op or_mul op2_mul (de_callB call_len opL_len rfl T.n_len (by decide +kernel) (da_cons (de_get (de_var 3 (pv 3)) (de_const pe_int
        (fun _ => .int _))) da_nil)) (de_callB call_len opL_len rfl T.n_len (by decide +kernel) (da_cons (de_get (de_var 3 (pv 3)) (de_const pe_int (fun _ => .int _))) da_nil))) (da_cons (de_var 10 (pv 10)) (da_cons (de_cmp (or_eq hr.units) op2_eq (de_get (de_var 3 (pv 3)) (de_const pe_int (fun _ => .int _))) (de_get (de_var 3 (pv 3)) (de_const pe_int (fun _ => .int _))) (nomark _)) da_nil))))))))
    (db_cons (ds_if (dt_not (dt_tru (de_call C_zsame (hr.mono (by omega)) tk rfl T.g_zsame T.k_zsame (da_cons (de_var 9 (pv 9)) (da_cons (de_var 11 (pv 11)) da_nil))))) (db_one (ds_ret (de_const pe_bl (fun _ => .bl _)))) db_nil)
    (db_cons (ds_par2 (gn_set 12) (gn_set 13) rfl sc_law.nd rfl rfl (by decide) rfl rfl (da_cons (de_call C_zdraw (hr.mono (by omega)) tk rfl T.g_zdraw T.k_zdraw (da_cons (de_var 1 (pv 1)) (da_cons (de_callB call_len opL_len rfl T.n_len (by decide +kernel) (da_cons (de_get (de_var 3 (pv 3)) (de_const pe_int (fun _ => .int _))) da_nil)) da_nil))) (da_cons (de_call C_zdraw (hr.mono
        (by omega)) tk rfl T.g_zdraw T.k_zdraw (da_cons (de_var 1 (pv 1)) (da_cons (de_callB call_len opL_len rfl T.n_len (by decide +kernel) (da_cons (de_get (de_var 3 (pv 3)) (de_const pe_int (fun _ => .int _))) da_nil)) da_nil))) da_nil)) rfl)
    (db_cons (dset 9 sc_law.nd (de_lst (da_cons (de_meth D_Table_entry (hr.mono (by omega)) tk (de_var 7 (pv 7)) (da_cons (de_get (de_get (de_var 3 (pv 3)) (de_const pe_int (fun _ => .int _))) (de_var 12 (pv 12))) (da_cons (de_get (de_get (de_var 3 (pv 3)) (de_const pe_int (fun _ => .int _))) (de_var 13 (pv 13))) da_nil))) (da_cons (de_methK K_Table_entry (hr.mono (by omega)) tk (de_var 7
        (pv 7)) (dk_cons (de_get (de_get (de_var 3 (pv 3)) (de_const pe_int (fun _ => .int _))) (de_var 13 (pv 13))) (dk_cons (de_get (de_get (de_var 3 (pv 3)) (de_const pe_int (fun _ => .int _))) (de_var 12 (pv 12))) dk_nil))) da_nil))))
    (db_cons (ds_if (dt_not (dt_tru (de_call C_zsame (hr.mono (by omega)) tk rfl T.g_zsame T.k_zsame (da_cons (de_var 9 (pv 9)) (da_cons (de_op or_mul op2_mul (de_lst (da_cons (de_get (de_get (de_get (de_var 3 (pv 3)) (de_const pe_int (fun _ => .int _))) (de_var 12 (pv 12))) (de_var 13 (pv 13))) da_nil)) (de_const pe_int (fun _ => .int _))) da_nil))))) (db_one (ds_ret (de_const pe_bl
        (fun _ => .bl _)))) db_nil)
    (db_cons (dset 14 sc_law.nd (de_makeK Q_Table (hr.mono (by omega)) tk rfl (dk_cons (de_callTy call_tupleP opL_tupleP rfl T.n_tuple (by decide +kernel) (da_cons (de_lc rfl sc_law.nd (di_data (de_get (de_var 3 (pv 3)) (de_const pe_int (fun _ => .int _)))) (blkOk_by (own := [("_law_row", 17)]) rfl) (fun _ _ _ _ _ => (dtg_one 17 sc_law.nd)) (fun _ _ _ _ _ => dts_nil) (fun _ _ _ _ _ =>
        (de_callTy call_tupleP opL_tupleP rfl T.n_tuple (by decide +kernel) (da_cons (de_var 17 (pv 17)) da_nil)))) da_nil)) (dk_cons (de_callTy call_tupleP opL_tupleP rfl T.n_tuple (by decide +kernel) (da_cons (de_get (de_var 3 (pv 3)) (de_const pe_int (fun _ => .int _))) da_nil)) (dk_cons (de_callTy call_tupleP opL_tupleP rfl T.n_tuple (by decide +kernel) (da_cons (de_get (de_var 3 (pv 3))
        (de_const pe_int (fun _ => .int _))) da_nil)) dk_nil)))))
    (db_cons (ds_lc (gn_setM 15).rd rfl sc_law.nd rfl rfl (sw_true rfl rfl rfl (by decide +kernel)) (di_data (de_get (de_var 3 (pv 3)) (de_const pe_int (fun _ => .int _)))) (blkOk_by (own := [("_law_row", 17)]) rfl) (fun _ _ _ _ _ => (dtg_one 17 sc_law.nd)) (fun _ _ _ _ _ => dts_nil) (fun _ _ _ _ _ => (de_callTy call_list_of opL_list rfl T.n_list (by decide +kernel) (da_cons (de_var 17
        (pv 17)) da_nil))))
    (db_cons (ds_asg (de_op or_add op2_add (de_flat (dsn_place (dp_sub (dp_sub (dp_var 15 (pv 15)) (dv_var 12 (pv 12))) (dv_var 13 (pv 13))))) (de_const pe_int (fun _ => .int _))) (dg_itemP (dp_sub (dp_var 15 (pv 15)) (dv_var 12 (pv 12))) (dv_var 13 (pv 13))))
    (db_cons (ds_if (DW.dt (dw_or (dt_ownNe N_Table_eq (hr.mono (by omega)) (de_var 7 (pv 7)) (de_var 14 (pv 14))) (dw_or (dt_ownEq O_Table_eq (hr.mono (by omega)) (de_var 7 (pv 7)) (de_fresh (de_make M_Table (hr.mono (by omega)) tk rfl (da_cons (de_get (de_var 3 (pv 3)) (de_const pe_int (fun _ => .int _))) (da_cons (de_get (de_var 3 (pv 3)) (de_const pe_int (fun _ => .int _))) (da_cons
        (de_var 15 (pv 15)) da_nil)))))) (dw_or1 (dt_ownEqL L_Table_eq (hr.mono (by omega)) (de_var 7 (pv 7)) (de_get (de_var 3 (pv 3)) (de_const pe_int (fun _ => .int _)))))))) (db_one (ds_ret (de_const pe_bl (fun _ => .bl _)))) db_nil)
    (db_cons (dset 16 sc_law.nd (de_make M_Table (hr.mono (by omega)) tk rfl (da_cons (de_revL (de_get (de_var 3 (pv 3)) (de_const pe_int (fun _ => .int _)))) (da_cons (de_get (de_var 3 (pv 3)) (de_const pe_int (fun _ => .int _))) (da_cons (de_get (de_var 3 (pv 3)) (de_const pe_int (fun _ => .int _))) da_nil)))))
    (db_one (ds_if (dt_cmp (or_ne hr.units) op2_ne (de_ownEq O_Table_eq (hr.mono (by omega)) (de_var 16 (pv 16)) (de_var 7 (pv 7))) (de_cmp (or_eq hr.units) op2_eq (de_callB call_len opL_len rfl T.n_len (by decide +kernel) (da_cons (de_get (de_var 3 (pv 3)) (de_const pe_int (fun _ => .int _))) da_nil)) (de_const pe_int (fun _ => .int _)) (nomark _)) (nomark _)) (db_one (ds_ret (de_const pe_bl
        (fun _ => .bl _)))) db_nil))))))))))))))))))))))))))
    (db_one (ds_ret (de_cmp (or_eq hr.units) op2_eq (de_ccon T.cc_Table_MOST (by rfl)) (de_const pe_int (fun _ => .int _)) (nomark _))))))) ?_
  rfl
end
end Toy

namespace Toy
open PySem L2 DL
def reelT (cs : List Int) (p r s : Int) : T := .lst [.d (.lst (cs.map D.int)), .d (.int p), .d (.int r), .d (.int s)]
structure Reel (M : Mst) (k : Nat) (cs : List Int) (p r s : Int) : Prop where
  at_ : M[k]? = some (reelT cs p r s)
  p0 : 0 ≤ p
  s0 : 0 ≤ s
  s1 : s < 18446744073709551616
section
variable {M : Mst} {k : Nat} {cs : List Int} {p r s : Int}
theorem Reel.getD (h : Reel M k cs p r s) (d : T) : M.getD k d = reelT cs p r s := by
  rw [List.getD_eq_getElem?_getD, h.at_]; rfl
theorem Reel.lt (h : Reel M k cs p r s) : k < M.length := (List.getElem?_eq_some_iff.mp h.at_).1
theorem frzR_d (M : Mst) (x : D) : frzR M (.t (.d x)) = x := rfl
theorem Reel.el (h : Reel M k cs p r s) : elems M (.h k) = some [.d (.lst (cs.map D.int)), .d (.int p), .d (.int r), .d (.int s)] := by
  simp only [elems, h.getD]; rfl
theorem get2 (h : Reel M k cs p r s) : getR (.h k) (.t (.d (.int 2))) M = .ok (.t (.d (.int r))) M := by
  unfold getR; rw [frzR_d]; show (match elems M (.h k) with | some ts => _ | none => _) = _; rw [h.el]; rfl
theorem get1 (h : Reel M k cs p r s) : getR (.h k) (.t (.d (.int 1))) M = .ok (.t (.d (.int p))) M := by
  unfold getR; rw [frzR_d]; show (match elems M (.h k) with | some ts => _ | none => _) = _; rw [h.el]; rfl
theorem get3 (h : Reel M k cs p r s) : getR (.h k) (.t (.d (.int 3))) M = .ok (.t (.d (.int s))) M := by
  unfold getR; rw [frzR_d]; show (match elems M (.h k) with | some ts => _ | none => _) = _; rw [h.el]; rfl
theorem get0 (h : Reel M k cs p r s) : getR (.h k) (.t (.d (.int 0))) M = .ok (.t (.d (.lst (cs.map D.int)))) M := by
  unfold getR; rw [frzR_d]; show (match elems M (.h k) with | some ts => _ | none => _) = _; rw [h.el]; rfl
theorem set1 (h : Reel M k cs p r s) (y : Int) : setR (.h k) (.t (.d (.int 1))) (.t (.d (.int y))) M = some (M.set k (reelT cs y r s)) := by
  unfold setR; rw [frzR_d]; show (match M[k]? with | some (.lst ts) => _ | _ => _) = _; rw [h.at_]; rfl
theorem set2 (h : Reel M k cs p r s) (y : Int) : setR (.h k) (.t (.d (.int 2))) (.t (.d (.int y))) M = some (M.set k (reelT cs p y s)) := by
  unfold setR; rw [frzR_d]; show (match M[k]? with | some (.lst ts) => _ | _ => _) = _; rw [h.at_]; rfl
theorem set3 (h : Reel M k cs p r s) (y : Int) : setR (.h k) (.t (.d (.int 3))) (.t (.d (.int y))) M = some (M.set k (reelT cs p r y)) := by
  unfold setR; rw [frzR_d]; show (match M[k]? with | some (.lst ts) => _ | _ => _) = _; rw [h.at_]; rfl
theorem Reel.set (h : Reel M k cs p r s) (p' r' s' : Int) (hp : 0 ≤ p') (h0 : 0 ≤ s') (h1 : s' < 18446744073709551616) : Reel (M.set k (reelT cs p' r' s')) k cs p' r' s' := ⟨by rw [List.getElem?_set_self h.lt], hp, h0, h1⟩
theorem addI (i j : Int) (M : Mst) : addR (.t (.d (.int i))) (.t (.d (.int j))) M = .ok (.t (.d (.int (i + j)))) M := rfl
theorem mulI (i j : Int) (M : Mst) (h : mulC i j = true) : mulR (.t (.d (.int i))) (.t (.d (.int j))) M = .ok (.t (.d (.int (i * j)))) M := by
  show (match (if mulC i j = true then some (D.int (i * j)) else none) with | some d => _ | none => _) = _
  rw [if_pos h]
theorem modI (i j : Int) (M : Mst) (h : 0 < j) : modR (.t (.d (.int i))) (.t (.d (.int j))) M = .ok (.t (.d (.int (i % j)))) M := by
  show (match (if modC i j = true then some (D.int (i % j)) else none) with | some d => _ | none => _) = _
  rw [if_pos (show modC i j = true from decide_eq_true h)]
theorem divI (i j : Int) (M : Mst) (h : 0 < j) (h2 : j < 10 ^ 60) : divR (.t (.d (.int i))) (.t (.d (.int j))) M = .ok (.t (.d (.int (i / j)))) M := by
  show (match (if divC i j = true then some (D.int (i / j)) else none) with | some d => _ | none => _) = _
  rw [if_pos (by unfold divC; rw [decide_eq_true h, decide_eq_true h2]; rfl)]
theorem eqI (i j : Int) (M : Mst) : eqR (.t (.d (.int i))) (.t (.d (.int j))) M = .ok (.t (.d (.bl (decide (i = j))))) M := by
  show Out.ok (R.t (T.d (D.bl (eqv (.int i) (.int j))))) M = _
  congr 4
theorem ltI (i j : Int) (M : Mst) : ltR (.t (.d (.int i))) (.t (.d (.int j))) M = .ok (.t (.d (.bl (decide (i < j))))) M := rfl
theorem gtI (i j : Int) (M : Mst) : gtR (.t (.d (.int i))) (.t (.d (.int j))) M = .ok (.t (.d (.bl (decide (j < i))))) M := rfl
theorem lenL (ds : List D) (M : Mst) : scL lenD [.t (.d (.lst ds))] M = .ok (.t (.d (.int (ds.length : Nat)))) M := rfl
theorem intI (i : Int) (M : Mst) : scL intD [.t (.d (.int i))] M = .ok (.t (.d (.int i))) M := rfl
theorem pow18 (M : Mst) : powR (.t (.d (.int 10))) (.t (.d (.int 18))) M = .ok (.t (.d (.int 1000000000000000000))) M := by
  rfl
theorem atI_nat {α : Type} (xs : List α) (j : Nat) {x : α} (h : xs[j]? = some x) : atI xs (j : Int) = some x := by
  have hl := (List.getElem?_eq_some_iff.mp h).1
  unfold atI ixN
  rw [if_pos (by omega), if_pos (by omega)]
  simpa using h
theorem getI (cs : List Int) (p : Int) (M : Mst) (h0 : 0 ≤ p) (h1 : p < cs.length) : ∃ c, getR (.t (.d (.lst (cs.map D.int)))) (.t (.d (.int p))) M = .ok (.t (.d (.int c))) M := by
  obtain ⟨j, rfl⟩ : ∃ j : Nat, p = (j : Int) := ⟨p.toNat, by omega⟩
  have hj : j < cs.length := by omega
  refine ⟨cs[j], ?_⟩
  show (match atI ((cs.map D.int).map T.d) (j : Int) with | some t => _ | none => _) = _
  rw [atI_nat (x := T.d (.int cs[j])) _ j (by simp [hj])]
theorem mulC_r (i j : Int) (h : -18446744073709551616 < j ∧ j < 18446744073709551616) : mulC i j = true := by
  unfold mulC
  simp only [Bool.or_eq_true, Bool.and_eq_true, decide_eq_true_eq]
  exact .inr (by constructor <;> omega)
theorem seq_step {F G : DenS} {ρ ρ' : Ev} {M M' : Mst} (h : F ρ M = some (.nx ρ', M')) : sSeq F G ρ M = G ρ' M' := by unfold sSeq; rw [h]
theorem seq_ret {F G : DenS} {ρ : Ev} {M M' : Mst} {r : R} (h : F ρ M = some (.rt r, M')) : sSeq F G ρ M = some (.rt r, M') := by unfold sSeq; rw [h]
theorem mulC_l (i j : Int) (h : -18446744073709551616 < i ∧ i < 18446744073709551616) : mulC i j = true := by
  unfold mulC
  simp only [Bool.or_eq_true, Bool.and_eq_true, decide_eq_true_eq]
  exact .inl (by constructor <;> omega)
theorem set_set' (M : Mst) (k : Nat) (a b : T) : (M.set k a).set k b = M.set k b := by simp
def rho (k : Nat) (size : Int) (a b c : Option SV) : Ev := [some (.h k), some (.d (.int size)), a, b, c]
/-- the first half: a cell of the script is taken in -/
theorem draw0 (h : Reel M k cs p r s) (size : Int) : ∃ a p' r' s', t_zdraw_0 (rho k size none none none) M = some (.nx (rho k size a none none), M.set k (reelT cs p' r' s')) ∧ 0 ≤ p' ∧ 0 ≤ s' ∧ s' < 18446744073709551616 := by
  have self : M.set k (reelT cs p r s) = M := by
    have := h.at_
    apply List.ext_getElem?
    intro j
    by_cases hj : j = k
    · subst hj; rw [List.getElem?_set_self h.lt, this]
    · rw [List.getElem?_set_ne (fun e => hj e.symm)]
  unfold t_zdraw_0 rho
  by_cases hr : r = 0
  · subst hr
    by_cases hp : p < (cs.map D.int).length
    · obtain ⟨c, hc⟩ := getI cs p M h.p0 (by simpa using hp)
      have h1 := h.set (p + 1) 0 s (by have := h.p0; omega) h.s0 h.s1
      by_cases hb : 1000000000000000000 < c
      · refine ⟨some (.d (.int c)), p + 1, c, s, ?_, by have := h.p0; omega, h.s0, h.s1⟩
        simp only [Out.bind, eVar, eC, eSeq2, eNil, eCons, eTB, tAndD, tOrD, tNotD, bindS, sSeq, sNil, sIf, sRet, sAsg, gSet, svR, frz, eB, gItem, List.getElem?_cons_zero, List.getElem?_cons_succ, List.set_cons_zero, List.set_cons_succ, if_true, if_false, Bool.false_eq_true, decide_true, decide_false, get2 h, get1 h, get0 h, get3 h, eqI, ltI, gtI, hp, lenL, hc, addI, set1 h, pow18, hb, set2 h1, set_set']
      · refine ⟨some (.d (.int c)), p + 1, 0, (s * 48611 + c % 1000003 * 7919 + 104729) % 1000000007, ?_, by have := h.p0; omega, by omega, by omega⟩
        simp only [Out.bind, eVar, eC, eSeq2, eNil, eCons, eTB, tAndD, tOrD, tNotD, bindS, sSeq, sNil, sIf, sRet, sAsg, gSet, svR, frz, eB, gItem, List.getElem?_cons_zero, List.getElem?_cons_succ, List.set_cons_zero, List.set_cons_succ, if_true, if_false, Bool.false_eq_true, decide_true, decide_false, get2 h, get1 h, get0 h, get3 h, eqI, ltI, gtI, hp, lenL, hc, addI, set1 h, pow18, hb, get3 h1, set3 h1, set_set', intI, modI _ 1000003 _ (by decide), modI _ 1000000007 _ (by decide), mulI _ 48611 _ (mulC_r _ _ (by decide)), mulI _ 7919 _ (mulC_r _ _ (by decide))]
    · refine ⟨none, p, 0, s, ?_, h.p0, h.s0, h.s1⟩
      rw [self]
      simp only [Out.bind, eVar, eC, eSeq2, eNil, eCons, eTB, tAndD, tOrD, tNotD, bindS, sSeq, sNil, sIf, sRet, sAsg, gSet, svR, frz, eB, gItem, List.getElem?_cons_zero, List.getElem?_cons_succ, List.set_cons_zero, List.set_cons_succ, if_true, if_false, Bool.false_eq_true, decide_true, decide_false, get2 h, get1 h, get0 h, get3 h, eqI, ltI, hp, lenL]
  · refine ⟨none, p, r, s, ?_, h.p0, h.s0, h.s1⟩
    rw [self]
    simp only [Out.bind, eVar, eC, eSeq2, eNil, eCons, eTB, tAndD, tOrD, tNotD, bindS, sSeq, sNil, sIf, sRet, sAsg, gSet, svR, frz, eB, gItem, List.getElem?_cons_zero, List.getElem?_cons_succ, List.set_cons_zero, List.set_cons_succ, if_true, if_false, Bool.false_eq_true, decide_true, decide_false, get2 h, get1 h, get0 h, get3 h, eqI, ltI, hr]
theorem outOf_rt (n : Nat) (x : T) (M : Mst) (hn : M.length = n) : outOf n (some (.rt (.t x), M)) = .ok (.t x) M := by
  subst hn
  show Out.ok (R.t x) (M.take M.length) = _
  rw [List.take_length]
/-- the second half: the digit -/
theorem draw1 (h : Reel M k cs p r s) (size : Int) (hs : 0 < size) (h60 : size < 10 ^ 60) (a : Option SV) :
    ∃ i p' r' s', sSeq t_zdraw_1 (sSeq t_zdraw_2 (sSeq t_zdraw_3 t_zdraw_4)) (rho k size a none none) M = some (.rt (.t (.d (.int i))), M.set k (reelT cs p' r' s')) ∧ 0 ≤ i ∧ i < size ∧ 0 ≤ p' ∧ 0 ≤ s' ∧ s' < 18446744073709551616 := by
  unfold rho
  by_cases hr : 0 < r
  · refine ⟨r % size, p, r / size, s, ?_, Int.emod_nonneg _ (by omega), Int.emod_lt_of_pos _ hs, h.p0, h.s0, h.s1⟩
    refine seq_ret ?_
    unfold t_zdraw_1
    simp only [Out.bind, eVar, eC, eSeq2, eNil, eCons, eTB, tAndD, tOrD, tNotD, bindS, sSeq, sNil, sIf, sRet, sAsg, gSet, svR, frz, eB, gItem, List.getElem?_cons_zero, List.getElem?_cons_succ, List.set_cons_zero, List.set_cons_succ, if_true, if_false, Bool.false_eq_true, decide_true, decide_false, get2 h, gtI, hr, intI, modI _ size _ hs, divI _ size _ hs h60, set2 h]
  · obtain ⟨mx, hmx⟩ : ∃ mx, mx = (s * s + s * 31) % 1000000007 := ⟨_, rfl⟩
    obtain ⟨st, hst⟩ : ∃ st, st = (mx * 69621 + s * 40014 + 25013) % 1000000007 := ⟨_, rfl⟩
    have h1 := h.set p r st h.p0 (by omega) (by omega)
    have m1 := modI (st / 53 + st % 9973 * 97) size (M.set k (reelT cs p r st)) hs
    refine ⟨(st / 53 + st % 9973 * 97) % size, p, r, st, ?_, Int.emod_nonneg _ (by omega), Int.emod_lt_of_pos _ hs, h.p0, by omega, by omega⟩
    have e1 : t_zdraw_1 [some (.h k), some (.d (.int size)), a, none, none] M = some (.nx [some (.h k), some (.d (.int size)), a, none, none], M) := by
      unfold t_zdraw_1
      simp only [Out.bind, eVar, eC, eSeq2, eNil, eCons, eTB, tAndD, tOrD, tNotD, bindS, sSeq, sNil, sIf, sRet, sAsg, gSet, svR, frz, eB, gItem, List.getElem?_cons_zero, List.getElem?_cons_succ, List.set_cons_zero, List.set_cons_succ, if_true, if_false, Bool.false_eq_true, decide_true, decide_false, get2 h, gtI, hr]
    have e2 : t_zdraw_2 [some (.h k), some (.d (.int size)), a, none, none] M = some (.nx [some (.h k), some (.d (.int size)), a, none, some (.d (.int mx))], M) := by
      unfold t_zdraw_2
      simp only [Out.bind, eVar, eC, eSeq2, eNil, eCons, eTB, tAndD, tOrD, tNotD, bindS, sSeq, sNil, sIf, sRet, sAsg, gSet, svR, frz, eB, gItem, List.getElem?_cons_zero, List.getElem?_cons_succ, List.set_cons_zero, List.set_cons_succ, if_true, if_false, Bool.false_eq_true, decide_true, decide_false, get3 h, mulI s s _ (mulC_r _ _ (by have := h.s0; have := h.s1; omega)), mulI _ 31 _ (mulC_r _ _ (by decide)), addI, intI, modI _ 1000000007 _ (by decide), hmx]
    have e3 : t_zdraw_3 [some (.h k), some (.d (.int size)), a, none, some (.d (.int mx))] M = some (.nx [some (.h k), some (.d (.int size)), a, none, some (.d (.int mx))], M.set k (reelT cs p r st)) := by
      unfold t_zdraw_3
      simp only [Out.bind, eVar, eC, eSeq2, eNil, eCons, eTB, tAndD, tOrD, tNotD, bindS, sSeq, sNil, sIf, sRet, sAsg, gSet, svR, frz, eB, gItem, List.getElem?_cons_zero, List.getElem?_cons_succ, List.set_cons_zero, List.set_cons_succ, if_true, if_false, Bool.false_eq_true, decide_true, decide_false, get3 h, mulI _ 69621 _ (mulC_r _ _ (by decide)), mulI _ 40014 _ (mulC_r _ _ (by decide)), addI, intI, modI _ 1000000007 _ (by decide), hst, set3 h]
    rw [seq_step e1, seq_step e2, seq_step e3]
    unfold t_zdraw_4
    simp only [Out.bind, eVar, eC, eSeq2, eNil, eCons, eTB, tAndD, tOrD, tNotD, bindS, sSeq, sNil, sIf, sRet, sAsg, gSet, svR, frz, eB, gItem, List.getElem?_cons_zero, List.getElem?_cons_succ, List.set_cons_zero, List.set_cons_succ, if_true, if_false, Bool.false_eq_true, decide_true, decide_false, get3 h1, divI _ 53 _ (by decide) (by decide), intI, modI _ 9973 _ (by decide), mulI _ 97 _ (mulC_r _ _ (by decide)), addI, m1]
theorem draw (h : Reel M k cs p r s) (size : Int) (hs : 0 < size) (h60 : size < 10 ^ 60) :
    ∃ i p' r' s', m_zdraw [.h k, .d (.int size)] M = .ok (.t (.d (.int i))) (M.set k (reelT cs p' r' s')) ∧ 0 ≤ i ∧ i < size ∧ Reel (M.set k (reelT cs p' r' s')) k cs p' r' s' := by
  obtain ⟨a, p1, r1, s1, e0, a1, a2, a3⟩ := draw0 h size
  have h1 := h.set p1 r1 s1 a1 a2 a3
  obtain ⟨i, p2, r2, s2, e1, b1, b2, b3, b4, b5⟩ := draw1 h1 size hs h60 a
  refine ⟨i, p2, r2, s2, ?_, b1, b2, h.set p2 r2 s2 b3 b4 b5⟩
  show outOf M.length (sSeq t_zdraw_0 _ (rho k size none none none) M) = _
  rw [seq_step e0, e1, set_set', outOf_rt _ _ _ (by simp)]

/-! ### texts -/
abbrev S (l : List Nat) : Str := ⟨l.toArray⟩
theorem S_len (l : List Nat) : (S l).length = l.length := rfl
theorem S_app (a b : List Nat) : (S a ++ S b : Str) = S (a ++ b) := by
  show (⟨a.toArray ++ b.toArray⟩ : Str) = ⟨(a ++ b).toArray⟩
  simp
theorem S_chars (l : List Nat) : chars (S l) = l.map fun c => D.str (S [c]) := rfl
theorem lenS (l : List Nat) (M : Mst) (h : l.length ≤ 1000000) : scL lenD [.t (.d (.str (S l)))] M = .ok (.t (.d (.int (l.length : Nat)))) M := by
  show (match (if (S l).length ≤ strCap then some (D.int ((S l).length : Nat)) else none) with | some d => _ | none => _) = _
  rw [if_pos (show (S l).length ≤ strCap from h)]
  rfl
theorem getS (l : List Nat) (i : Int) (M : Mst) (h0 : 0 ≤ i) (h1 : i < l.length) (hc : l.length ≤ 1000000) : getR (.t (.d (.str (S l)))) (.t (.d (.int i))) M = .ok (.t (.d (.str (S [l.getD i.toNat 0])))) M := by
  obtain ⟨j, rfl⟩ : ∃ j : Nat, i = (j : Int) := ⟨i.toNat, by omega⟩
  have hj : j < l.length := by omega
  show (match atI l (j : Int) with | some c => (if (S l).length ≤ strCap then _ else _) | none => _) = _
  rw [atI_nat (x := l[j]) _ j (by simp [hj])]
  show (if (S l).length ≤ strCap then _ else _) = _
  rw [if_pos (show (S l).length ≤ strCap from hc)]
  simp [hj]
theorem getLst (ds : List D) (i : Int) (M : Mst) (h0 : 0 ≤ i) (h1 : i < ds.length) : getR (.t (.d (.lst ds))) (.t (.d (.int i))) M = .ok (.t (.d (ds.getD i.toNat .non))) M := by
  obtain ⟨j, rfl⟩ : ∃ j : Nat, i = (j : Int) := ⟨i.toNat, by omega⟩
  have hj : j < ds.length := by omega
  show (match atI (ds.map T.d) (j : Int) with | some t => _ | none => _) = _
  rw [atI_nat (x := T.d ds[j]) _ j (by simp [hj])]
  simp [hj]
theorem catSS (a b : List Nat) (M : Mst) (h : a.length + b.length ≤ 1000000) : addR (.t (.d (.str (S a)))) (.t (.d (.str (S b)))) M = .ok (.t (.d (.str (S (a ++ b))))) M := by
  show (if (S a).length + (S b).length ≤ strCap then Out.ok (R.t (T.d (.str (S a ++ S b)))) M else Out.bad) = _
  rw [if_pos (show (S a).length + (S b).length ≤ strCap from h), S_app]
/-! ### the reel goes on -/
def RD (k : Nat) (M0 M : Mst) : Prop := ∃ cs p r s, Reel M k cs p r s ∧ M = M0.set k (reelT cs p r s)
theorem RD.self {M : Mst} {k : Nat} {cs : List Int} {p r s : Int} (h : Reel M k cs p r s) : RD k M M := ⟨cs, p, r, s, h, by
  apply List.ext_getElem?
  intro j
  by_cases hj : j = k
  · subst hj; rw [List.getElem?_set_self h.lt, h.at_]
  · rw [List.getElem?_set_ne (fun e => hj e.symm)]⟩
theorem RD.draw {M0 M : Mst} {k : Nat} (h : RD k M0 M) {size : Int} (hs : 0 < size) (h60 : size < 10 ^ 60) : ∃ i M', m_zdraw [.h k, .d (.int size)] M = .ok (.t (.d (.int i))) M' ∧ 0 ≤ i ∧ i < size ∧ RD k M0 M' := by
  obtain ⟨cs, p, r, s, h, e⟩ := h
  obtain ⟨i, p', r', s', h1, h2, h3, h4⟩ := Toy.draw h size hs h60
  exact ⟨i, _, h1, h2, h3, cs, p', r', s', h4, by rw [e, set_set']⟩
theorem RD.ofS {M0 M : Mst} {k : Nat} (h : RD k M0 M) {l : List Nat} (hl : 0 < l.length) (hc : l.length ≤ 1000000) : ∃ c M', m_zof [.h k, .d (.str (S l))] M = .ok (.t (.d (.str (S [c])))) M' ∧ c ∈ l ∧ RD k M0 M' := by
  obtain ⟨i, M', h1, h2, h3, h4⟩ := h.draw (size := (l.length : Nat)) (by omega) (by omega)
  have hlen : M'.length = M.length := by
    obtain ⟨_, _, _, _, _, e⟩ := h
    obtain ⟨_, _, _, _, _, e'⟩ := h4
    rw [e, e']; simp
  refine ⟨l.getD i.toNat 0, M', ?_, ?_, h4⟩
  · show outOf M.length (b_zof [some (.h k), some (.d (.str (S l)))] M) = _
    unfold b_zof
    simp only [Out.bind, eVar, eC, eSeq2, eNil, eCons, eTB, tAndD, tOrD, tNotD, bindS, sSeq, sNil, sIf, sRet, sAsg, gSet, svR, frz, eB, gItem, List.getElem?_cons_zero, List.getElem?_cons_succ, List.set_cons_zero, List.set_cons_succ, if_true, if_false, Bool.false_eq_true, decide_true, decide_false, eCall, eArity, List.map, lenS l _ hc, List.length, if_true, Nat.reduceAdd, h1, getS l i M' h2 h3 hc]
    exact outOf_rt _ _ _ hlen
  · have : i.toNat < l.length := by omega
    simp [this]
theorem RD.ofL {M0 M : Mst} {k : Nat} (h : RD k M0 M) {ds : List D} (hl : 0 < ds.length) (hc : ds.length ≤ 1000000) : ∃ d M', m_zof [.h k, .d (.lst ds)] M = .ok (.t (.d d)) M' ∧ d ∈ ds ∧ RD k M0 M' := by
  obtain ⟨i, M', h1, h2, h3, h4⟩ := h.draw (size := (ds.length : Nat)) (by omega) (by omega)
  have hlen : M'.length = M.length := by
    obtain ⟨_, _, _, _, _, e⟩ := h
    obtain ⟨_, _, _, _, _, e'⟩ := h4
    rw [e, e']; simp
  refine ⟨ds.getD i.toNat .non, M', ?_, ?_, h4⟩
  · show outOf M.length (b_zof [some (.h k), some (.d (.lst ds))] M) = _
    unfold b_zof
    simp only [Out.bind, eVar, eC, eSeq2, eNil, eCons, eTB, tAndD, tOrD, tNotD, bindS, sSeq, sNil, sIf, sRet, sAsg, gSet, svR, frz, eB, gItem, List.getElem?_cons_zero, List.getElem?_cons_succ, List.set_cons_zero, List.set_cons_succ, if_true, if_false, Bool.false_eq_true, decide_true, decide_false, eCall, eArity, List.map, lenL, List.length, if_true, Nat.reduceAdd, h1, getLst ds i M' h2 h3]
    exact outOf_rt _ _ _ hlen
  · have : i.toNat < ds.length := by omega
    simp [this]
/-! ### comprehensions -/
theorem lc_inv {g : Tg} {own : List Nat} {c : DenT} {f : Den} {ρ : Ev} (P : Mst → Prop) (Q : D → D → Prop) : ∀ (ds : List D), (∀ d ∈ ds, ∀ M, P M → ∃ ρ1 x M', setT g d (wipeE ρ own) = some ρ1 ∧ c ρ1 M = .ok true M ∧ f ρ1 M = .ok (.t (.d x)) M' ∧ P M' ∧ Q d x) → ∀ (acc : List T) (M : Mst), P M → acc.length + ds.length ≤ 1000000 →
    ∃ (xs : List D) (M' : Mst), lcL g own c f ρ ds acc M = .ok (acc ++ xs.map T.d) M' ∧ P M' ∧ xs.length = ds.length ∧ ∀ x ∈ xs, ∃ d ∈ ds, Q d x := by
  intro ds
  induction ds with
  | nil => exact fun _ acc M hP _ => ⟨[], M, by simp [lcL], hP, rfl, fun _ z => nomatch z⟩
  | cons d r ih =>
    intro h acc M hP hn
    obtain ⟨ρ1, x, M1, e1, e2, e3, p1, q1⟩ := h d (List.mem_cons_self ..) M hP
    have hn' : acc.length + (r.length + 1) ≤ 1000000 := hn
    obtain ⟨xs, M2, f1, f2, f3, f4⟩ := ih (fun d' hd => h d' (List.mem_cons_of_mem _ hd)) (acc ++ [T.d x]) M1 p1 (by rw [List.length_append]; show acc.length + 1 + r.length ≤ _; omega)
    refine ⟨x :: xs, M2, ?_, f2, by rw [List.length_cons, f3]; rfl, fun y hy => ?_⟩
    · unfold lcL
      rw [e1]
      simp only [e2, noX, Out.bind, if_true, e3]
      rw [if_pos (by omega)]
      show lcL g own c f ρ r (acc ++ [T.d x]) M1 = _
      rw [f1]
      simp
    · rcases List.mem_cons.mp hy with rfl | hy
      · exact ⟨d, List.mem_cons_self .., q1⟩
      · obtain ⟨d', m, q⟩ := f4 y hy
        exact ⟨d', List.mem_cons_of_mem _ m, q⟩
/-- one that changes nothing: a map -/
theorem lc_map {g : Tg} {own : List Nat} {c : DenT} {f : Den} {ρ : Ev} {M : Mst} (q : D → D) : ∀ (ds : List D), (∀ d ∈ ds, ∃ ρ1, setT g d (wipeE ρ own) = some ρ1 ∧ c ρ1 M = .ok true M ∧ f ρ1 M = .ok (.t (.d (q d))) M) → ∀ acc : List T, acc.length + ds.length ≤ 1000000 →
    lcL g own c f ρ ds acc M = .ok (acc ++ (ds.map q).map T.d) M := by
  intro ds
  induction ds with
  | nil => exact fun _ acc _ => by simp [lcL]
  | cons d r ih =>
    intro h acc hn
    obtain ⟨ρ1, e1, e2, e3⟩ := h d (List.mem_cons_self ..)
    have hn' : acc.length + (r.length + 1) ≤ 1000000 := hn
    unfold lcL
    rw [e1]
    simp only [e2, noX, Out.bind, if_true, e3]
    rw [if_pos (by omega)]
    show lcL g own c f ρ r (acc ++ [T.d (q d)]) M = _
    rw [ih (fun d' hd => h d' (List.mem_cons_of_mem _ hd)) _ (by rw [List.length_append]; show acc.length + 1 + r.length ≤ _; omega)]
    simp

/-! ### slices, join -/
theorem slS (l : List Nat) (lo hi : Option Int) (M : Mst) (hc : l.length ≤ 1000000) : slR lo hi (.t (.d (.str (S l)))) M = .ok (.t (.d (.str (S ((l.drop (HT.sIx l.length 0 lo)).take (HT.sIx l.length l.length hi - HT.sIx l.length 0 lo)))))) M := by
  show (if (S l).length ≤ strCap then _ else _) = _
  rw [if_pos (show (S l).length ≤ strCap from hc)]
  rfl
theorem sIxI (n d : Nat) (i : Int) (h : 0 ≤ i) : HT.sIx n d (some i) = min i.toNat n := by
  obtain ⟨j, rfl⟩ : ∃ j : Nat, i = (j : Int) := ⟨i.toNat, by omega⟩
  rw [HT.sIx_nat]; rfl
theorem slS_to (l : List Nat) (i : Int) (M : Mst) (hc : l.length ≤ 1000000) (h : 0 ≤ i) : slR none (some i) (.t (.d (.str (S l)))) M = .ok (.t (.d (.str (S (l.take i.toNat))))) M := by
  rw [slS l _ _ M hc, sIxI _ _ _ h, HT.sIx_none]
  congr 5
  rw [Nat.sub_zero, List.drop_zero]
  by_cases hi : i.toNat ≤ l.length
  · rw [Nat.min_eq_left hi]
  · rw [Nat.min_eq_right (by omega), List.take_of_length_le (Nat.le_refl _), List.take_of_length_le (by omega)]
theorem slS_from (l : List Nat) (i : Int) (M : Mst) (hc : l.length ≤ 1000000) (h : 0 ≤ i) : slR (some i) none (.t (.d (.str (S l)))) M = .ok (.t (.d (.str (S (l.drop i.toNat))))) M := by
  rw [slS l _ _ M hc, sIxI _ _ _ h, HT.sIx_none]
  congr 5
  apply List.ext_getElem?
  intro j
  by_cases hi : i.toNat ≤ l.length
  · rw [Nat.min_eq_left hi, List.take_of_length_le (by simp)]
  · rw [Nat.min_eq_right (by omega), List.drop_eq_nil_of_le (as := l) (i := i.toNat) (by omega)]
    simp
theorem slS_mid (l : List Nat) (i j : Int) (M : Mst) (hc : l.length ≤ 1000000) (h : 0 ≤ i) (hij : i ≤ j) (hj : j ≤ l.length) : slR (some i) (some j) (.t (.d (.str (S l)))) M = .ok (.t (.d (.str (S ((l.drop i.toNat).take (j.toNat - i.toNat)))))) M := by
  rw [slS l _ _ M hc, sIxI _ _ _ h, sIxI _ _ _ (by omega), Nat.min_eq_left (by omega), Nat.min_eq_left (by omega)]
def abc : List Nat := [97, 98, 99, 100, 101, 102, 103, 104, 105, 106, 107, 108, 109, 110, 111, 112, 113, 114, 115, 116, 117, 118, 119, 120, 121, 122]
theorem abc_lit : ("abcdefghijklmnopqrstuvwxyz" : Str) = S abc := by decide +kernel
theorem mem_abc (c : Nat) : c ∈ abc ↔ 97 ≤ c ∧ c ≤ 122 := by
  constructor
  · intro h; simp [abc] at h; omega
  · intro h; simp [abc]; omega
theorem frz_ds (ds : List D) : frz (.lst (ds.map T.d)) = .lst ds := by
  unfold frz
  rw [frzL_eq]
  congr 1
  rw [List.map_map]
  exact (List.map_congr_left fun x _ => rfl).trans (List.map_id ds)
theorem frzL_ds (ds : List D) : frzL (ds.map T.d) = ds := by
  rw [frzL_eq, List.map_map]
  exact (List.map_congr_left fun x _ => rfl).trans (List.map_id ds)
theorem joinS (cs : List Nat) (M : Mst) (h : cs.length ≤ 1000000) : joinR "" (.t (.lst ((cs.map fun c => D.str (S [c])).map T.d))) M = .ok (.t (.d (.str (S cs)))) M := by
  have e1 : src M (.t (.lst ((cs.map fun c => D.str (S [c])).map T.d))) = some (.l (cs.map fun c => D.str (S [c])), M) := by
    show (match sqD (frz (.lst ((cs.map fun c => D.str (S [c])).map T.d))) with | some q => some (q, M) | none => none) = _
    rw [frz_ds]; rfl
  have e2 : strsD (cs.map fun c => D.str (S [c])) = some (cs.map fun c => S [c]) := by
    rw [show (cs.map fun c => D.str (S [c])) = (cs.map fun c => S [c]).map D.str by rw [List.map_map]; rfl]
    exact strsD_map _
  have e3 : Txt.join ("" : Str) (cs.map fun c => S [c]) = S cs := by
    rw [show Txt.join ("" : Str) (cs.map fun c => S [c]) = Str.join "" (cs.map fun c => S [c]) from TL.join_eq _ _]
    clear e1 e2 h
    induction cs with
    | nil => rfl
    | cons c r ih =>
      cases r with
      | nil => rfl
      | cons c' r' =>
        show S [c] ++ ("" : Str) ++ Str.join "" ((c' :: r').map fun c => S [c]) = _
        rw [ih, show ("" : Str) = S [] by decide +kernel, S_app, S_app]
        rfl
  unfold joinR
  rw [e1]
  show (match Sq.l (cs.map fun c => D.str (S [c])), strsD (cs.map fun c => D.str (S [c])) with | .l _, some ys => _ | .t _, some ys => _ | _, _ => _) = _
  rw [e2]
  show (if _ then Out.ok (R.t (T.d (.str (Txt.join "" (cs.map fun c => S [c]))))) M else Out.bad) = _
  rw [if_pos, e3]
  rw [List.map_map, show ((fun x : Str => x.length) ∘ fun c => S [c]) = fun _ => 1 from rfl, show (("" : Str)).length = 0 by decide +kernel]
  have : ∀ cs : List Nat, (cs.map fun _ => 1).sum = cs.length := fun cs => by
    induction cs with
    | nil => rfl
    | cons x r ih => rw [List.map_cons, List.sum_cons, ih, List.length_cons, Nat.add_comm]
  rw [this]
  omega
/-! ### is_word -/
theorem isi_ev (d : D) (n t : String) (M : Mst) (h : tyName d = some t) (ho : okTy n = true) : isiR [.t (.d d), .t (.d (.ty n))] M = .ok (.t (.d (.bl (isI t n)))) M := by
  show (match tyName d with | some t => (if okTy n = true then _ else _) | none => _) = _
  rw [h]
  show (if okTy n = true then _ else _) = _
  rw [if_pos ho]
theorem leI (i j : Int) (M : Mst) : leR (.t (.d (.int i))) (.t (.d (.int j))) M = .ok (.t (.d (.bl (decide (i ≤ j))))) M := rfl
theorem inS (c : Nat) (l : List Nat) (M : Mst) : sc2 (inOp false) (.t (.d (.str (S [c])))) (.t (.d (.str (S l)))) M = .ok (.t (.d (.bl (decide (c ∈ l))))) M := rfl
def isW (l : List Nat) (most : Int) : Bool := decide (1 ≤ (l.length : Int) ∧ (l.length : Int) ≤ most) && l.all fun c => decide (c ∈ abc)
theorem outOf_rt' (x : T) (M : Mst) : outOf M.length (some (.rt (.t x), M)) = .ok (.t x) M := outOf_rt _ _ _ rfl
theorem isWord_str (l : List Nat) (most : Int) (M : Mst) (hc : l.length ≤ 1000000) : m_is_word [.d (.str (S l)), .d (.int most)] M = .ok (.t (.d (.bl (isW l most)))) M := by
  show outOf M.length (sSeq t_is_word_0 t_is_word_1 [some (.d (.str (S l))), some (.d (.int most)), none] M) = _
  by_cases h1 : 1 ≤ (l.length : Int)
  · by_cases h2 : (l.length : Int) ≤ most
    · rw [seq_step (ρ' := [some (.d (.str (S l))), some (.d (.int most)), none]) (M' := M)]
      · unfold t_is_word_1
        have e := lc_map (g := .one 2) (own := [2]) (c := tYesD) (f := eSeq2 (sc2 (inOp false)) (eVar 2) (eC (.str "abcdefghijklmnopqrstuvwxyz"))) (ρ := [some (.d (.str (S l))), some (.d (.int most)), none]) (M := M)
          (fun d => match d with | .str x => (match x.cps.toList with | [c] => .bl (decide (c ∈ abc)) | _ => .non) | _ => .non) (l.map fun c => D.str (S [c])) (fun d hd => by
            obtain ⟨c, hc, rfl⟩ := List.mem_map.mp hd
            refine ⟨_, rfl, rfl, ?_⟩
            show sc2 (inOp false) (.t (.d (.str (S [c])))) (.t (.d (.str "abcdefghijklmnopqrstuvwxyz"))) M = _
            rw [abc_lit, inS]) [] (by simpa using hc)
        have e2 : iOf (eVar 0) [some (.d (.str (S l))), some (.d (.int most)), none] M = .ok (l.map fun c => D.str (S [c])) M := rfl
        have e4 : (l.map fun c => D.str (S [c])).map (fun d => match d with | .str x => (match x.cps.toList with | [c] => D.bl (decide (c ∈ abc)) | _ => .non) | _ => .non) = l.map fun c => D.bl (decide (c ∈ abc)) := by
          rw [List.map_map]; rfl
        rw [e4, List.nil_append] at e
        have e3 : scL allDD [.t (.lst (((l.map fun c => D.bl (decide (c ∈ abc)))).map T.d))] M = .ok (.t (.d (.bl (l.all fun c => decide (c ∈ abc))))) M := by
          show (match allDD [frz (.lst _)] with | some d => _ | none => _) = _
          rw [frz_ds]
          show (match (boolsD (l.map fun c => D.bl (decide (c ∈ abc)))).map fun bs => D.bl (bs.all id) with | some d => _ | none => _) = _
          have : ∀ l : List Nat, boolsD (l.map fun c => D.bl (decide (c ∈ abc))) = some (l.map fun c => decide (c ∈ abc)) := fun l => by
            induction l with
            | nil => rfl
            | cons x r ih => show (boolsD (r.map _)).map _ = _; rw [ih]; rfl
          rw [this]
          show Out.ok (R.t (T.d (D.bl _))) M = _
          rw [List.all_map]; rfl
        simp only [Out.bind, eVar, eC, eSeq2, eNil, eCons, eTB, tAndD, tOrD, tNotD, bindS, sSeq, sNil, sIf, sRet, sAsg, gSet, svR, frz, eB, gItem, List.getElem?_cons_zero, List.getElem?_cons_succ, List.set_cons_zero, List.set_cons_succ, if_true, if_false, Bool.false_eq_true, decide_true, decide_false, eLc, e2, e, e3]
        rw [outOf_rt']
        unfold isW
        rw [decide_eq_true ⟨h1, h2⟩, Bool.true_and]
      · unfold t_is_word_0
        simp only [Out.bind, eVar, eC, eSeq2, eNil, eCons, eTB, tAndD, tOrD, tNotD, bindS, sSeq, sNil, sIf, sRet, sAsg, gSet, svR, frz, eB, gItem, List.getElem?_cons_zero, List.getElem?_cons_succ, List.set_cons_zero, List.set_cons_succ, if_true, if_false, Bool.false_eq_true, decide_true, decide_false, eTru, frzR, isi_ev (.str (S l)) "str" "str" M rfl (by decide), truth, eChain, dat, lenS l M hc, leI, h1, h2]
        rfl
    · rw [seq_ret (r := .t (.d (.bl false))) (M' := M)]
      · unfold isW
        rw [outOf_rt', decide_eq_false (fun z => h2 z.2)]; rfl
      · unfold t_is_word_0
        simp only [Out.bind, eVar, eC, eSeq2, eNil, eCons, eTB, tAndD, tOrD, tNotD, bindS, sSeq, sNil, sIf, sRet, sAsg, gSet, svR, frz, eB, gItem, List.getElem?_cons_zero, List.getElem?_cons_succ, List.set_cons_zero, List.set_cons_succ, if_true, if_false, Bool.false_eq_true, decide_true, decide_false, eTru, frzR, isi_ev (.str (S l)) "str" "str" M rfl (by decide), truth, eChain, dat, lenS l M hc, leI, h1, h2]
        rfl
  · rw [seq_ret (r := .t (.d (.bl false))) (M' := M)]
    · unfold isW
      rw [outOf_rt', decide_eq_false (fun z => h1 z.1)]; rfl
    · unfold t_is_word_0
      simp only [Out.bind, eVar, eC, eSeq2, eNil, eCons, eTB, tAndD, tOrD, tNotD, bindS, sSeq, sNil, sIf, sRet, sAsg, gSet, svR, frz, eB, gItem, List.getElem?_cons_zero, List.getElem?_cons_succ, List.set_cons_zero, List.set_cons_succ, if_true, if_false, Bool.false_eq_true, decide_true, decide_false, eTru, frzR, isi_ev (.str (S l)) "str" "str" M rfl (by decide), truth, eChain, dat, lenS l M hc, leI, h1]
      rfl
/-- what is no text is no word -/
theorem isWord_no (d : D) (t : String) (most : Int) (M : Mst) (h : tyName d = some t) (hn : isI t "str" = false) : m_is_word [.d d, .d (.int most)] M = .ok (.t (.d (.bl false))) M := by
  show outOf M.length (sSeq t_is_word_0 t_is_word_1 [some (.d d), some (.d (.int most)), none] M) = _
  rw [seq_ret (r := .t (.d (.bl false))) (M' := M), outOf_rt']
  unfold t_is_word_0
  simp only [Out.bind, eVar, eC, eSeq2, eNil, eCons, eTB, tAndD, tOrD, tNotD, bindS, sSeq, sNil, sIf, sRet, sAsg, gSet, svR, frz, eB, gItem, List.getElem?_cons_zero, List.getElem?_cons_succ, List.set_cons_zero, List.set_cons_succ, if_true, if_false, Bool.false_eq_true, decide_true, decide_false, eTru, frzR, isi_ev d "str" t M h (by decide), truth, hn]
  rfl
theorem isKind_str (l : List Nat) (M : Mst) (hc : l.length ≤ 1000000) : m_is_kind [.d (.str (S l))] M = .ok (.t (.d (.bl (isW l 6)))) M := by
  show outOf M.length (b_is_kind [some (.d (.str (S l)))] M) = _
  unfold b_is_kind
  simp only [Out.bind, eVar, eC, eSeq2, eNil, eCons, eTB, tAndD, tOrD, tNotD, bindS, sSeq, sNil, sIf, sRet, sAsg, gSet, svR, frz, eB, gItem, List.getElem?_cons_zero, List.getElem?_cons_succ, List.set_cons_zero, List.set_cons_succ, if_true, if_false, Bool.false_eq_true, decide_true, decide_false, eCall, eArity, List.map, List.length, Nat.reduceAdd, isWord_str l 6 M hc]
  exact outOf_rt' _ _
theorem isKind_no (d : D) (t : String) (M : Mst) (h : tyName d = some t) (hn : isI t "str" = false) : m_is_kind [.d d] M = .ok (.t (.d (.bl false))) M := by
  show outOf M.length (b_is_kind [some (.d d)] M) = _
  unfold b_is_kind
  simp only [Out.bind, eVar, eC, eSeq2, eNil, eCons, eTB, tAndD, tOrD, tNotD, bindS, sSeq, sNil, sIf, sRet, sAsg, gSet, svR, frz, eB, gItem, List.getElem?_cons_zero, List.getElem?_cons_succ, List.set_cons_zero, List.set_cons_succ, if_true, if_false, Bool.false_eq_true, decide_true, decide_false, eCall, eArity, List.map, List.length, Nat.reduceAdd, isWord_no d t 6 M h hn]
  exact outOf_rt' _ _


/-! ### words -/
theorem subI (i j : Int) (M : Mst) : subR (.t (.d (.int i))) (.t (.d (.int j))) M = .ok (.t (.d (.int (i - j)))) M := rfl
theorem RD.len {k : Nat} {M0 M : Mst} (h : RD k M0 M) : M.length = M0.length := by
  obtain ⟨_, _, _, _, _, e⟩ := h
  rw [e]; simp
theorem nats_of {P : Nat → Prop} : ∀ xs : List D, (∀ x ∈ xs, ∃ c, P c ∧ x = .str (S [c])) → ∃ cs : List Nat, xs = cs.map (fun c => D.str (S [c])) ∧ ∀ c ∈ cs, P c
  | [], _ => ⟨[], rfl, fun _ z => nomatch z⟩
  | x :: r, h => by
    obtain ⟨c, hc, rfl⟩ := h x (List.mem_cons_self ..)
    obtain ⟨cs, e, hcs⟩ := nats_of r fun y hy => h y (List.mem_cons_of_mem _ hy)
    exact ⟨c :: cs, by rw [e]; rfl, fun y hy => by rcases List.mem_cons.mp hy with rfl | hy; exact hc; exact hcs y hy⟩
theorem ints_of {P : Int → Prop} : ∀ xs : List D, (∀ x ∈ xs, ∃ c, P c ∧ x = .int c) → ∃ cs : List Int, xs = cs.map D.int ∧ ∀ c ∈ cs, P c
  | [], _ => ⟨[], rfl, fun _ z => nomatch z⟩
  | x :: r, h => by
    obtain ⟨c, hc, rfl⟩ := h x (List.mem_cons_self ..)
    obtain ⟨cs, e, hcs⟩ := ints_of r fun y hy => h y (List.mem_cons_of_mem _ hy)
    exact ⟨c :: cs, by rw [e]; rfl, fun y hy => by rcases List.mem_cons.mp hy with rfl | hy; exact hc; exact hcs y hy⟩
theorem rangeD_len (lo : Int) (n : Nat) : (rangeD lo n).length = n := by unfold rangeD; simp
theorem range1_ev {A : DenA} {ρ : Ev} {M M1 : Mst} (i : Int) (h : i < 1000000000 ∧ -1000000000 < i) (hA : A ρ M = .ok [.t (.d (.int i))] M1) : iRange1 A ρ M = .ok (rangeD 0 i.toNat) M1 := by
  unfold iRange1
  rw [hA]
  show (if i < 1000000000 ∧ -1000000000 < i then Out.ok (rangeD 0 i.toNat) M1 else .bad) = _
  rw [if_pos h]
theorem range1_nat {A : DenA} {ρ : Ev} {M M1 : Mst} (n : Nat) (h : n ≤ 1000) (hA : A ρ M = .ok [.t (.d (.int (n : Nat)))] M1) : iRange1 A ρ M = .ok (rangeD 0 n) M1 := by
  rw [range1_ev (n : Int) (by omega) hA, Int.toNat_natCast]
abbrev rw9 (k : Nat) (many most : Int) (a b c d e f : Option SV) : Ev := [some (.h k), some (.d (.int many)), some (.d (.int most)), a, b, c, d, e, f]
theorem words1 {k : Nat} {M0 M : Mst} (h : RD k M0 M) (many most : Int) (hm : 1 ≤ most) (hm2 : most ≤ 1000) (b c d e f : Option SV) :
    ∃ stem M', t_zwords_1 (rw9 k many most (some (.d (.str (S abc)))) b c d e f) M = some (.nx (rw9 k many most (some (.d (.str (S abc)))) (some (.d (.str (S stem)))) c d e f), M') ∧ RD k M0 M' ∧ (stem.length : Int) < most ∧ ∀ c ∈ stem, c ∈ abc := by
  obtain ⟨i, M1, h1, h2, h3, h4⟩ := h.draw (size := most) (by omega) (by omega)
  obtain ⟨xs, M2, e1, p1, hl, hq⟩ := lc_inv (g := .one 8) (own := [8]) (c := tYesD) (f := (eCall m_zof (eArity 2 (eCons (eVar 0) (eCons (eVar 3) eNil))))) (ρ := rw9 k many most (some (.d (.str (S abc)))) b c d e f) (RD k M0) (fun _ x => ∃ c, c ∈ abc ∧ x = .str (S [c])) (rangeD 0 i.toNat)
    (fun d' _ M' hP => by
      obtain ⟨c', M3, q1, q2, q3⟩ := hP.ofS (l := abc) (by decide) (by decide)
      refine ⟨_, _, M3, rfl, rfl, ?_, q3, c', q2, rfl⟩
      show m_zof [.h k, .d (.str (S abc))] M' = _
      exact q1) [] M1 h4 (by rw [rangeD_len]; show 0 + i.toNat ≤ _; omega)
  obtain ⟨cs, rfl, hcs⟩ := nats_of xs (fun x hx => let ⟨_, _, q⟩ := hq x hx; q)
  rw [List.length_map, rangeD_len] at hl
  refine ⟨cs, M2, ?_, p1, by omega, hcs⟩
  have e2 : iRange1 (eCons (eCall m_zdraw (eArity 2 (eCons (eVar 0) (eCons (eVar 2) eNil)))) eNil) (rw9 k many most (some (.d (.str (S abc)))) b c d e f) M = .ok (rangeD 0 i.toNat) M1 := by
    simp only [Out.bind, eVar, eC, eSeq2, eNil, eCons, eTB, tAndD, tOrD, tNotD, bindS, sSeq, sNil, sIf, sRet, sAsg, gSet, svR, frz, eB, gItem, List.getElem?_cons_zero, List.getElem?_cons_succ, List.set_cons_zero, List.set_cons_succ, if_true, if_false, Bool.false_eq_true, decide_true, decide_false, iRange1, eCall, eArity, List.map, List.length, Nat.reduceAdd, h1, frzR]
    rw [if_pos (by omega)]
  unfold t_zwords_1
  simp only [Out.bind, eVar, eC, eSeq2, eNil, eCons, eTB, tAndD, tOrD, tNotD, bindS, sSeq, sNil, sIf, sRet, sAsg, gSet, svR, frz, eB, gItem, List.getElem?_cons_zero, List.getElem?_cons_succ, List.set_cons_zero, List.set_cons_succ, if_true, if_false, Bool.false_eq_true, decide_true, decide_false, eM1, eLc, e2, e1, List.nil_append, joinS cs M2 (by omega)]
theorem words2 {k : Nat} {M0 M : Mst} (h : RD k M0 M) (many most : Int) (stem : List Nat) (hs : stem.length ≤ 1000) (c d e f : Option SV) :
    ∃ sp st M', t_zwords_2 (rw9 k many most (some (.d (.str (S abc)))) (some (.d (.str (S stem)))) c d e f) M = some (.nx (rw9 k many most (some (.d (.str (S abc)))) (some (.d (.str (S stem)))) (some (.d (.int sp))) (some (.d (.int st))) e f), M') ∧ RD k M0 M' ∧ 0 ≤ sp ∧ sp ≤ stem.length ∧ 0 ≤ st ∧ st < 26 := by
  obtain ⟨sp, M1, h1, h2, h3, h4⟩ := h.draw (size := (stem.length : Nat) + 1) (by omega) (by omega)
  obtain ⟨st, M2, g1, g2, g3, g4⟩ := h4.draw (size := 26) (by omega) (by omega)
  refine ⟨sp, st, M2, ?_, g4, h2, by omega, g2, g3⟩
  unfold t_zwords_2
  simp only [Out.bind, eVar, eC, eSeq2, eNil, eCons, eTB, tAndD, tOrD, tNotD, bindS, sSeq, sNil, sIf, sRet, sAsg, gSet, svR, frz, eB, gItem, List.getElem?_cons_zero, List.getElem?_cons_succ, List.set_cons_zero, List.set_cons_succ, if_true, if_false, Bool.false_eq_true, decide_true, decide_false, eTup, eCall, eArity, List.map, List.length, Nat.reduceAdd, lenS stem _ (show stem.length ≤ 1000000 by omega), addI, h1, g1, treesM]
  rfl
theorem words3 {k : Nat} {M0 M : Mst} (h : RD k M0 M) (many most : Int) (stem : List Nat) (hs : stem.length ≤ 1000) (hm0 : 0 ≤ many) (hmany : many ≤ 1000) (sp st : Int) (h0 : 0 ≤ sp) (h1 : sp ≤ stem.length) (e f : Option SV) :
    ∃ (tl : List Int) (M' : Mst), t_zwords_3 (rw9 k many most (some (.d (.str (S abc)))) (some (.d (.str (S stem)))) (some (.d (.int sp))) (some (.d (.int st))) e f) M = some (.nx (rw9 k many most (some (.d (.str (S abc)))) (some (.d (.str (S stem)))) (some (.d (.int sp))) (some (.d (.int st))) (some (.d (.lst (tl.map D.int)))) f), M') ∧ RD k M0 M' ∧ tl.length = many.toNat ∧ ∀ t ∈ tl, sp ≤ t ∧ t ≤ stem.length := by
  obtain ⟨xs, M2, e1, p1, hl, hq⟩ := lc_inv (g := .one 8) (own := [8]) (c := tYesD) (f := (eSeq2 addR (eVar 5) (eCall m_zdraw (eArity 2 (eCons (eVar 0) (eCons (eSeq2 addR (eSeq2 subR (eB (scL lenD) (eCons (eVar 4) eNil)) (eVar 5)) (eC (.int 1))) eNil)))))) (ρ := rw9 k many most (some (.d (.str (S abc)))) (some (.d (.str (S stem)))) (some (.d (.int sp))) (some (.d (.int st))) e f) (RD k M0) (fun _ x => ∃ c : Int, (sp ≤ c ∧ c ≤ stem.length) ∧ x = .int c) (rangeD 0 many.toNat)
    (fun d' _ M' hP => by
      obtain ⟨j, M3, q1, q2, q3, q4⟩ := hP.draw (size := (stem.length : Nat) - sp + 1) (by omega) (by omega)
      refine ⟨_, .int (sp + j), M3, rfl, rfl, ?_, q4, sp + j, ⟨by omega, by omega⟩, rfl⟩
      simp only [Out.bind, eVar, eC, eSeq2, eNil, eCons, eTB, tAndD, tOrD, tNotD, bindS, sSeq, sNil, sIf, sRet, sAsg, gSet, svR, frz, eB, gItem, List.getElem?_cons_zero, List.getElem?_cons_succ, List.set_cons_zero, List.set_cons_succ, if_true, if_false, Bool.false_eq_true, decide_true, decide_false, wipeE, setT, eCall, eArity, List.map, List.length, Nat.reduceAdd, lenS stem _ (show stem.length ≤ 1000000 by omega), subI, addI, q1]) [] M h (by rw [rangeD_len]; show 0 + many.toNat ≤ _; omega)
  obtain ⟨tl, rfl, htl⟩ := ints_of xs (fun x hx => let ⟨_, _, q⟩ := hq x hx; q)
  rw [List.length_map, rangeD_len] at hl
  refine ⟨tl, M2, ?_, p1, hl, htl⟩
  have e2 : iRange1 (eCons (eVar 1) eNil) (rw9 k many most (some (.d (.str (S abc)))) (some (.d (.str (S stem)))) (some (.d (.int sp))) (some (.d (.int st))) e f) M = .ok (rangeD 0 many.toNat) M  := range1_ev many (by omega) rfl
  unfold t_zwords_3
  simp only [Out.bind, eVar, eC, eSeq2, eNil, eCons, eTB, tAndD, tOrD, tNotD, bindS, sSeq, sNil, sIf, sRet, sAsg, gSet, svR, frz, eB, gItem, List.getElem?_cons_zero, List.getElem?_cons_succ, List.set_cons_zero, List.set_cons_succ, if_true, if_false, Bool.false_eq_true, decide_true, decide_false, eLc, e2, e1, List.nil_append, frzL_ds]

def wordOf (stem : List Nat) (sp st : Int) (tl : List Int) (j : Nat) : List Nat := stem.take sp.toNat ++ [abc.getD ((st + 11 * (0 + (j : Int))) % 26).toNat 0] ++ (stem.drop sp.toNat).take ((tl.getD j 0).toNat - sp.toNat)
theorem words4 {k : Nat} {M : Mst} (many most : Int) (stem : List Nat) (hs : stem.length ≤ 1000) (hm0 : 0 ≤ many) (hmany : many ≤ 1000) (sp st : Int) (h0 : 0 ≤ sp) (h1 : sp ≤ stem.length) (h2 : 0 ≤ st) (tl : List Int) (hl : tl.length = many.toNat) (ht : ∀ t ∈ tl, sp ≤ t ∧ t ≤ stem.length) (f : Option SV) :
    t_zwords_4 (rw9 k many most (some (.d (.str (S abc)))) (some (.d (.str (S stem)))) (some (.d (.int sp))) (some (.d (.int st))) (some (.d (.lst (tl.map D.int)))) f) M = some (.rt (.t (.lst (((List.range many.toNat).map fun j => D.str (S (wordOf stem sp st tl j))).map T.d))), M) := by
  have e := lc_map (g := .one 8) (own := [8]) (c := tYesD) (f := eSeq2 addR (eSeq2 addR (eSl (eVar 4) oNone (oSome (eVar 5))) (eSeq2 getR (eVar 3) (eSeq2 modR (eB (scL intD) (eCons (eSeq2 addR (eVar 6) (eSeq2 mulR (eC (.int 11)) (eVar 8))) eNil)) (eC (.int 26))))) (eSl (eVar 4) (oSome (eVar 5)) (oSome (eSeq2 getR (eVar 7) (eVar 8))))) (M := M)
    (ρ := rw9 k many most (some (.d (.str (S abc)))) (some (.d (.str (S stem)))) (some (.d (.int sp))) (some (.d (.int st))) (some (.d (.lst (tl.map D.int)))) f)
    (fun d => match d with | .int j => .str (S (wordOf stem sp st tl j.toNat)) | _ => .non) (rangeD 0 many.toNat) (fun d hd => by
      unfold rangeD at hd
      obtain ⟨j, hj, rfl⟩ := List.mem_map.mp hd
      have hj' : j < tl.length := by rw [hl]; exact List.mem_range.mp hj
      have htj := ht tl[j] (List.getElem_mem hj')
      refine ⟨_, rfl, rfl, ?_⟩
      have g1 : getR (.t (.d (.lst (tl.map D.int)))) (.t (.d (.int (0 + (j : Nat))))) M = .ok (.t (.d (.int (tl.getD j 0)))) M := by
        rw [getLst _ _ _ (by omega) (by rw [List.length_map]; omega)]
        congr 3
        simp [hj']
      have htd : tl.getD j 0 = tl[j] := by simp [hj']
      have ab : ((st + 11 * (0 + (j : Int))) % 26) < (abc.length : Nat) := Int.emod_lt_of_pos _ (by decide)
      have hsp : sp.toNat ≤ stem.length := by omega
      have c1 : (stem.take sp.toNat).length + [abc.getD ((st + 11 * (0 + (j : Int))) % 26).toNat 0].length ≤ 1000000 := by
        rw [List.length_take]; simp only [List.length_cons, List.length_nil]; omega
      have c2 : (stem.take sp.toNat ++ [abc.getD ((st + 11 * (0 + (j : Int))) % 26).toNat 0]).length + ((stem.drop sp.toNat).take ((tl.getD j 0).toNat - sp.toNat)).length ≤ 1000000 := by
        rw [List.length_append, List.length_take, List.length_take, List.length_drop]; simp only [List.length_cons, List.length_nil]; omega
      simp only [Out.bind, eVar, eC, eSeq2, eNil, eCons, eTB, tAndD, tOrD, tNotD, bindS, sSeq, sNil, sIf, sRet, sAsg, gSet, svR, frz, eB, gItem, List.getElem?_cons_zero, List.getElem?_cons_succ, List.set_cons_zero, List.set_cons_succ, if_true, if_false, Bool.false_eq_true, decide_true, decide_false, wipeE, eSl, oNone, oSome, frzR, slS_to stem sp _ (show stem.length ≤ 1000000 by omega) h0, mulI 11 _ _ (mulC_l _ _ (by decide)), addI, intI, modI _ 26 _ (by decide),
        getS abc _ _ (Int.emod_nonneg _ (by decide)) ab (by decide), catSS _ _ _ c1, g1, slS_mid stem sp (tl.getD j 0) _ (show stem.length ≤ 1000000 by omega) h0 (by rw [htd]; exact htj.1) (by rw [htd]; exact htj.2), catSS _ _ _ c2]
      congr 5
      unfold wordOf
      rw [show ((0 : Int) + (j : Nat)).toNat = j by omega]) [] (by rw [rangeD_len]; show 0 + many.toNat ≤ _; omega)
  have e4 : (rangeD 0 many.toNat).map (fun d => match d with | .int j => D.str (S (wordOf stem sp st tl j.toNat)) | _ => .non) = (List.range many.toNat).map fun j => D.str (S (wordOf stem sp st tl j)) := by
    unfold rangeD
    rw [List.map_map]
    refine List.map_congr_left fun j _ => ?_
    show D.str (S (wordOf stem sp st tl ((0 : Int) + (j : Nat)).toNat)) = _
    rw [show ((0 : Int) + (j : Nat)).toNat = j by omega]
  rw [e4, List.nil_append] at e
  have e2 : iRange1 (eCons (eVar 1) eNil) (rw9 k many most (some (.d (.str (S abc)))) (some (.d (.str (S stem)))) (some (.d (.int sp))) (some (.d (.int st))) (some (.d (.lst (tl.map D.int)))) f) M = .ok (rangeD 0 many.toNat) M  := range1_ev many (by omega) rfl
  unfold t_zwords_4
  simp only [Out.bind, eVar, eC, eSeq2, eNil, eCons, eTB, tAndD, tOrD, tNotD, bindS, sSeq, sNil, sIf, sRet, sAsg, gSet, svR, frz, eB, gItem, List.getElem?_cons_zero, List.getElem?_cons_succ, List.set_cons_zero, List.set_cons_succ, if_true, if_false, Bool.false_eq_true, decide_true, decide_false, eLc, e2, e]
theorem abc_inj : ∀ a < 26, ∀ b < 26, abc.getD a 0 = abc.getD b 0 → a = b := by decide
theorem wordOf_at (stem : List Nat) (sp st : Int) (tl : List Int) (h : sp.toNat ≤ stem.length) (j : Nat) : (wordOf stem sp st tl j)[sp.toNat]? = some (abc.getD ((st + 11 * (0 + (j : Int))) % 26).toNat 0) := by
  unfold wordOf
  rw [List.append_assoc, List.getElem?_append_right (by rw [List.length_take]; omega), List.length_take, Nat.min_eq_left h, Nat.sub_self]
  rfl
theorem words_nodup (stem : List Nat) (sp st : Int) (tl : List Int) (h : sp.toNat ≤ stem.length) {many : Int} (h26 : many ≤ 26) : ((List.range many.toNat).map (wordOf stem sp st tl)).Nodup := by
  rw [List.nodup_iff_pairwise_ne, List.pairwise_map]
  refine List.Pairwise.imp_of_mem (fun {a b} ha hb hab e => ?_) (List.nodup_iff_pairwise_ne.mp List.nodup_range)
  have ha := List.mem_range.mp ha
  have hb := List.mem_range.mp hb
  have e1 := congrArg (fun l : List Nat => l[sp.toNat]?) e
  simp only [wordOf_at stem sp st tl h] at e1
  have e2 := abc_inj _ (by omega) _ (by omega) (Option.some.inj e1)
  exact hab (by omega)
theorem words {k : Nat} {M0 M : Mst} (h : RD k M0 M) (many most : Int) (hm0 : 0 ≤ many) (hmany : many ≤ 1000) (hm : 1 ≤ most) (hm2 : most ≤ 1000) :
    ∃ (ws : List (List Nat)) (M' : Mst), m_zwords [.h k, .d (.int many), .d (.int most)] M = .ok (.t (.lst ((ws.map fun l => D.str (S l)).map T.d))) M' ∧ RD k M0 M' ∧ ws.length = many.toNat ∧ (∀ w ∈ ws, 1 ≤ w.length ∧ (w.length : Int) ≤ most ∧ ∀ c ∈ w, c ∈ abc) ∧ (many ≤ 26 → ws.Nodup) := by
  obtain ⟨stem, M1, a1, a2, a3, a4⟩ := words1 h many most hm hm2 none none none none none
  obtain ⟨sp, st, M2, b1, b2, b3, b4, b5, b6⟩ := words2 a2 many most stem (by omega) none none none none
  obtain ⟨tl, M3, c1, c2, c3, c4⟩ := words3 b2 many most stem (by omega) hm0 hmany sp st b3 b4 none none
  have d1 := words4 (k := k) (M := M3) many most stem (by omega) hm0 hmany sp st b3 b4 b5 tl c3 c4 none
  refine ⟨(List.range many.toNat).map (wordOf stem sp st tl), M3, ?_, c2, by simp, fun w hw => ?_, fun h26 => words_nodup stem sp st tl (by omega) h26⟩
  · show outOf M.length (sSeq t_zwords_0 _ [some (.h k), some (.d (.int many)), some (.d (.int most)), none, none, none, none, none, none] M) = _
    rw [seq_step (ρ' := rw9 k many most (some (.d (.str (S abc)))) none none none none none) (M' := M)]
    · rw [seq_step a1, seq_step b1, seq_step c1, d1, outOf_rt _ _ _ (by rw [c2.len, h.len]), List.map_map (f := wordOf stem sp st tl)]
      rfl
    · unfold t_zwords_0
      simp only [Out.bind, eVar, eC, eSeq2, eNil, eCons, eTB, tAndD, tOrD, tNotD, bindS, sSeq, sNil, sIf, sRet, sAsg, gSet, svR, frz, eB, gItem, List.getElem?_cons_zero, List.getElem?_cons_succ, List.set_cons_zero, List.set_cons_succ, if_true, if_false, Bool.false_eq_true, decide_true, decide_false]
      rw [abc_lit]
  · obtain ⟨j, hj, rfl⟩ := List.mem_map.mp hw
    have hj' : j < tl.length := by rw [c3]; exact List.mem_range.mp hj
    have htj := c4 tl[j] (List.getElem_mem hj')
    have htd : tl.getD j 0 = tl[j] := by simp [hj']
    have ab : ((st + 11 * (0 + (j : Int))) % 26) < (26 : Nat) := Int.emod_lt_of_pos _ (by decide)
    have ab0 := Int.emod_nonneg (st + 11 * (0 + (j : Int))) (show (26 : Int) ≠ 0 by decide)
    have hx : ((st + 11 * (0 + (j : Int))) % 26).toNat < abc.length := by show _ < 26; omega
    unfold wordOf
    rw [htd]
    refine ⟨?_, ?_, fun c hc => ?_⟩
    · simp only [List.length_append, List.length_cons, List.length_nil]; omega
    · simp only [List.length_append, List.length_cons, List.length_nil, List.length_take, List.length_drop]; omega
    · rcases List.mem_append.mp hc with hc | hc
      · rcases List.mem_append.mp hc with hc | hc
        · exact a4 c (List.mem_of_mem_take hc)
        · rw [List.mem_singleton] at hc
          rw [hc, List.getD_eq_getElem?_getD, List.getElem?_eq_getElem hx]
          exact List.getElem_mem hx
      · exact a4 c (List.mem_of_mem_drop (List.mem_of_mem_take hc))
theorem kinds {k : Nat} {M0 M : Mst} (h : RD k M0 M) (many : Int) (hm0 : 0 ≤ many) (hmany : many ≤ 1000) :
    ∃ (ws : List (List Nat)) (M' : Mst), m_zkinds [.h k, .d (.int many)] M = .ok (.t (.lst ((ws.map fun l => D.str (S l)).map T.d))) M' ∧ RD k M0 M' ∧ ws.length = many.toNat ∧ (∀ w ∈ ws, 1 ≤ w.length ∧ (w.length : Int) ≤ 6 ∧ ∀ c ∈ w, c ∈ abc) ∧ (many ≤ 26 → ws.Nodup) := by
  obtain ⟨ws, M', h1, h2, h3, h4⟩ := words h many 6 hm0 hmany (by decide) (by decide)
  refine ⟨ws, M', ?_, h2, h3, h4⟩
  show outOf M.length (b_zkinds [some (.h k), some (.d (.int many))] M) = _
  unfold b_zkinds
  simp only [Out.bind, eVar, eC, eSeq2, eNil, eCons, eTB, tAndD, tOrD, tNotD, bindS, sSeq, sNil, sIf, sRet, sAsg, gSet, svR, frz, eB, gItem, List.getElem?_cons_zero, List.getElem?_cons_succ, List.set_cons_zero, List.set_cons_succ, if_true, if_false, Bool.false_eq_true, decide_true, decide_false, eCall, eArity, List.map, List.length, Nat.reduceAdd, h1]
  exact outOf_rt _ _ _ (by rw [h2.len, h.len])

/-! ### _law_same is reflexive -/
def okS : Nat → D → Bool
  | _, .non => true
  | _, .bl _ => true
  | _, .int _ => true
  | _, .str _ => true
  | n + 1, .lst ds => decide (ds.length ≤ 1000) && ds.all (okS n)
  | n + 1, .tupP _ ds => decide (ds.length ≤ 1000) && ds.all (okS n)
  | _, _ => false
theorem isN_ev (d : D) (M : Mst) : sc2 (isN false) (.t (.d d)) (.t (.d .non)) M = .ok (.t (.d (.bl (isNonD d)))) M := rfl
abbrev r4 (d : D) : Ev := [some (.d d), some (.d d), none, none]
theorem same_unf (n : Nat) (d : D) (M : Mst) : m_zsame (n + 1) [.d d, .d d] M = outOf M.length (sSeq (t_zsame_0 (m_zsame n)) (sSeq (t_zsame_1 (m_zsame n)) (sSeq (t_zsame_2 (m_zsame n)) (sSeq (t_zsame_3 (m_zsame n)) (sSeq (t_zsame_4 (m_zsame n)) (t_zsame_5 (m_zsame n)))))) (r4 d) M) := rfl
theorem same_non (n : Nat) (M : Mst) : m_zsame (n + 1) [.d .non, .d .non] M = .ok (.t (.d (.bl true))) M := by
  rw [same_unf, seq_ret (r := .t (.d (.bl true))) (M' := M), outOf_rt']
  unfold t_zsame_0
  simp only [Out.bind, eVar, eC, eSeq2, eNil, eCons, eTB, tAndD, tOrD, tNotD, bindS, sSeq, sNil, sIf, sRet, sAsg, gSet, svR, frz, eB, gItem, List.getElem?_cons_zero, List.getElem?_cons_succ, List.set_cons_zero, List.set_cons_succ, if_true, if_false, Bool.false_eq_true, decide_true, decide_false, isN_ev, isNonD, eAnd]
theorem same0 (rec : Fn) (d : D) (M : Mst) (h : isNonD d = false) : t_zsame_0 rec (r4 d) M = some (.nx (r4 d), M) := by
  unfold t_zsame_0
  simp only [Out.bind, eVar, eC, eSeq2, eNil, eCons, eTB, tAndD, tOrD, tNotD, bindS, sSeq, sNil, sIf, sRet, sAsg, gSet, svR, frz, eB, gItem, List.getElem?_cons_zero, List.getElem?_cons_succ, List.set_cons_zero, List.set_cons_succ, if_true, if_false, Bool.false_eq_true, decide_true, decide_false, isN_ev, h]
theorem same_isi (rec : Fn) (d : D) (M : Mst) (t : String) (ht : tyName d = some t) :
    (isI t "list" = false → t_zsame_1 rec (r4 d) M = some (.nx (r4 d), M)) ∧ (isI t "tuple" = false → t_zsame_2 rec (r4 d) M = some (.nx (r4 d), M)) ∧ (isI t "bool" = false → t_zsame_3 rec (r4 d) M = some (.nx (r4 d), M)) ∧ (isI t "int" = false → t_zsame_4 rec (r4 d) M = some (.nx (r4 d), M)) := by
  refine ⟨fun h => ?_, fun h => ?_, fun h => ?_, fun h => ?_⟩
  · unfold t_zsame_1; simp only [Out.bind, eVar, eC, eSeq2, eNil, eCons, eTB, tAndD, tOrD, tNotD, bindS, sSeq, sNil, sIf, sRet, sAsg, gSet, svR, frz, eB, gItem, List.getElem?_cons_zero, List.getElem?_cons_succ, List.set_cons_zero, List.set_cons_succ, if_true, if_false, Bool.false_eq_true, decide_true, decide_false, eTru, frzR, isi_ev d "list" t M ht (by decide), truth, h]
  · unfold t_zsame_2; simp only [Out.bind, eVar, eC, eSeq2, eNil, eCons, eTB, tAndD, tOrD, tNotD, bindS, sSeq, sNil, sIf, sRet, sAsg, gSet, svR, frz, eB, gItem, List.getElem?_cons_zero, List.getElem?_cons_succ, List.set_cons_zero, List.set_cons_succ, if_true, if_false, Bool.false_eq_true, decide_true, decide_false, eTru, frzR, isi_ev d "tuple" t M ht (by decide), truth, h]
  · unfold t_zsame_3; simp only [Out.bind, eVar, eC, eSeq2, eNil, eCons, eTB, tAndD, tOrD, tNotD, bindS, sSeq, sNil, sIf, sRet, sAsg, gSet, svR, frz, eB, gItem, List.getElem?_cons_zero, List.getElem?_cons_succ, List.set_cons_zero, List.set_cons_succ, if_true, if_false, Bool.false_eq_true, decide_true, decide_false, eTru, frzR, isi_ev d "bool" t M ht (by decide), truth, h]
  · unfold t_zsame_4; simp only [Out.bind, eVar, eC, eSeq2, eNil, eCons, eTB, tAndD, tOrD, tNotD, bindS, sSeq, sNil, sIf, sRet, sAsg, gSet, svR, frz, eB, gItem, List.getElem?_cons_zero, List.getElem?_cons_succ, List.set_cons_zero, List.set_cons_succ, if_true, if_false, Bool.false_eq_true, decide_true, decide_false, eTru, frzR, isi_ev d "int" t M ht (by decide), truth, h]
theorem eqB (a b : Bool) (M : Mst) : eqR (.t (.d (.bl a))) (.t (.d (.bl b))) M = .ok (.t (.d (.bl (decide (a = b))))) M := by cases a <;> cases b <;> rfl
theorem eqS (a b : Str) (M : Mst) : eqR (.t (.d (.str a))) (.t (.d (.str b))) M = .ok (.t (.d (.bl (decide (a = b))))) M := rfl
theorem neI (i j : Int) (M : Mst) : neR (.t (.d (.int i))) (.t (.d (.int j))) M = .ok (.t (.d (.bl (!decide (i = j))))) M := by
  show Out.ok (R.t (T.d (D.bl (!eqv (.int i) (.int j))))) M = _
  congr 4
theorem pair_mem {ds : List D} {d : D} (h : d ∈ pairD ds ds) : ∃ a ∈ ds, d = .tup [a, a] := by
  induction ds with
  | nil => cases h
  | cons x r ih =>
    rcases List.mem_cons.mp h with rfl | h
    · exact ⟨x, List.mem_cons_self .., rfl⟩
    · obtain ⟨a, m, e⟩ := ih h
      exact ⟨a, List.mem_cons_of_mem _ m, e⟩
theorem pair_len (ds : List D) : (pairD ds ds).length = ds.length := by unfold pairD; simp
theorem all_true (n : Nat) (M : Mst) : scL allDD [.t (.lst ((List.replicate n (D.bl true)).map T.d))] M = .ok (.t (.d (.bl true))) M := by
  show (match allDD [frz (.lst _)] with | some d => _ | none => _) = _
  rw [frz_ds]
  have : boolsD (List.replicate n (D.bl true)) = some (List.replicate n true) := by
    induction n with
    | zero => rfl
    | succ n ih => show (boolsD (List.replicate n _)).map _ = _; rw [ih]; rfl
  show (match (boolsD (List.replicate n (D.bl true))).map fun bs => D.bl (bs.all id) with | some d => _ | none => _) = _
  rw [this]
  show Out.ok (R.t (T.d (D.bl ((List.replicate n true).all id)))) M = _
  congr 4
  simp
theorem same_lc (rec : Fn) (ds : List D) (D0 : D) (M : Mst) (hl : ds.length ≤ 1000) (hr : ∀ a ∈ ds, ∀ M, rec [.d a, .d a] M = .ok (.t (.d (.bl true))) M) :
    lcL (.many [2, 3]) [2, 3] tYesD (eCall rec (eArity 2 (eCons (eVar 2) (eCons (eVar 3) eNil)))) (r4 D0) (pairD ds ds) [] M = .ok ((List.replicate ds.length (D.bl true)).map T.d) M := by
  have e := lc_map (g := .many [2, 3]) (own := [2, 3]) (c := tYesD) (f := (eCall rec (eArity 2 (eCons (eVar 2) (eCons (eVar 3) eNil))))) (ρ := r4 D0) (M := M) (fun _ => .bl true) (pairD ds ds) (fun d hd => by
    obtain ⟨a, ha, rfl⟩ := pair_mem hd
    refine ⟨_, rfl, rfl, ?_⟩
    show rec [.d a, .d a] M = _
    exact hr a ha M) [] (by rw [pair_len]; show 0 + ds.length ≤ _; omega)
  rw [e, List.nil_append, List.map_const', pair_len]
theorem sc_l (rec : Fn) (ds : List D) (M : Mst) (hl : ds.length ≤ 1000) (hr : ∀ a ∈ ds, ∀ M, rec [.d a, .d a] M = .ok (.t (.d (.bl true))) M) : t_zsame_1 rec (r4 (.lst ds)) M = some (.rt (.t (.d (.bl true))), M) := by
  have e1 : iZipD (eCons (eVar 0) (eCons (eVar 1) eNil)) (r4 (.lst ds)) M = .ok (pairD ds ds) M := rfl
  unfold t_zsame_1
  simp only [Out.bind, eVar, eC, eSeq2, eNil, eCons, eTB, tAndD, tOrD, tNotD, bindS, sSeq, sNil, sIf, sRet, sAsg, gSet, svR, frz, eB, gItem, List.getElem?_cons_zero, List.getElem?_cons_succ, List.set_cons_zero, List.set_cons_succ, if_true, if_false, Bool.false_eq_true, decide_true, decide_false, eTru, frzR, isi_ev (.lst ds) "list" "list" M rfl (by decide), truth, show isI "list" "list" = true by decide, lenL, neI, Bool.not_true, eLc, e1, same_lc rec ds (.lst ds) M hl hr, all_true]
theorem lenT (p : Bool) (ds : List D) (M : Mst) : scL lenD [.t (.d (.tupP p ds))] M = .ok (.t (.d (.int (ds.length : Nat)))) M := rfl
theorem sc_t (p : Bool) (rec : Fn) (ds : List D) (M : Mst) (hl : ds.length ≤ 1000) (hr : ∀ a ∈ ds, ∀ M, rec [.d a, .d a] M = .ok (.t (.d (.bl true))) M) : t_zsame_2 rec (r4 (.tupP p ds)) M = some (.rt (.t (.d (.bl true))), M) := by
  have e1 : iZipD (eCons (eVar 0) (eCons (eVar 1) eNil)) (r4 (.tupP p ds)) M = .ok (pairD ds ds) M := rfl
  unfold t_zsame_2
  simp only [Out.bind, eVar, eC, eSeq2, eNil, eCons, eTB, tAndD, tOrD, tNotD, bindS, sSeq, sNil, sIf, sRet, sAsg, gSet, svR, frz, eB, gItem, List.getElem?_cons_zero, List.getElem?_cons_succ, List.set_cons_zero, List.set_cons_succ, if_true, if_false, Bool.false_eq_true, decide_true, decide_false, eTru, frzR, isi_ev (.tupP p ds) "tuple" "tuple" M rfl (by decide), truth, show isI "tuple" "tuple" = true by decide, lenT, neI, Bool.not_true, eLc, e1, same_lc rec ds (.tupP p ds) M hl hr, all_true]
theorem same_refl : ∀ (n : Nat) (d : D) (M : Mst), okS n d = true → m_zsame (n + 1) [.d d, .d d] M = .ok (.t (.d (.bl true))) M := by
  intro n d M h
  cases d with
  | non => exact same_non n M
  | bl b =>
    obtain ⟨s1, s2, s3, s4⟩ := same_isi (m_zsame n) (.bl b) M "bool" rfl
    rw [same_unf, seq_step (same0 _ _ _ rfl), seq_step (s1 (by decide)), seq_step (s2 (by decide)), seq_ret (r := .t (.d (.bl true))) (M' := M), outOf_rt']
    unfold t_zsame_3
    simp only [Out.bind, eVar, eC, eSeq2, eNil, eCons, eTB, tAndD, tOrD, tNotD, bindS, sSeq, sNil, sIf, sRet, sAsg, gSet, svR, frz, eB, gItem, List.getElem?_cons_zero, List.getElem?_cons_succ, List.set_cons_zero, List.set_cons_succ, if_true, if_false, Bool.false_eq_true, decide_true, decide_false, eTru, frzR, isi_ev (.bl b) "bool" "bool" M rfl (by decide), truth, show isI "bool" "bool" = true by decide, eAnd, eqB]
  | int i =>
    obtain ⟨s1, s2, s3, s4⟩ := same_isi (m_zsame n) (.int i) M "int" rfl
    rw [same_unf, seq_step (same0 _ _ _ rfl), seq_step (s1 (by decide)), seq_step (s2 (by decide)), seq_step (s3 (by decide)), seq_ret (r := .t (.d (.bl true))) (M' := M), outOf_rt']
    unfold t_zsame_4
    simp only [Out.bind, eVar, eC, eSeq2, eNil, eCons, eTB, tAndD, tOrD, tNotD, bindS, sSeq, sNil, sIf, sRet, sAsg, gSet, svR, frz, eB, gItem, List.getElem?_cons_zero, List.getElem?_cons_succ, List.set_cons_zero, List.set_cons_succ, if_true, if_false, Bool.false_eq_true, decide_true, decide_false, eTru, frzR, isi_ev (.int i) "int" "int" M rfl (by decide), isi_ev (.int i) "bool" "int" M rfl (by decide), truth, show isI "int" "int" = true by decide, show isI "int" "bool" = false by decide, eAnd, eNot, Bool.not_false, eqI]
  | str x =>
    obtain ⟨s1, s2, s3, s4⟩ := same_isi (m_zsame n) (.str x) M "str" rfl
    rw [same_unf, seq_step (same0 _ _ _ rfl), seq_step (s1 (by decide)), seq_step (s2 (by decide)), seq_step (s3 (by decide)), seq_step (s4 (by decide))]
    have : t_zsame_5 (m_zsame n) (r4 (.str x)) M = some (.rt (.t (.d (.bl true))), M) := by
      unfold t_zsame_5
      simp only [Out.bind, eVar, eC, eSeq2, eNil, eCons, eTB, tAndD, tOrD, tNotD, bindS, sSeq, sNil, sIf, sRet, sAsg, gSet, svR, frz, eB, gItem, List.getElem?_cons_zero, List.getElem?_cons_succ, List.set_cons_zero, List.set_cons_succ, if_true, if_false, Bool.false_eq_true, decide_true, decide_false, eTru, frzR, isi_ev (.str x) "str" "str" M rfl (by decide), truth, show isI "str" "str" = true by decide, eAnd, eqS]
    rw [this, outOf_rt']
  | lst ds =>
    cases n with
    | zero => cases h
    | succ n =>
      have h : (decide (ds.length ≤ 1000) && ds.all (okS n)) = true := h
      rw [Bool.and_eq_true, decide_eq_true_eq, List.all_eq_true] at h
      rw [same_unf, seq_step (same0 _ _ _ rfl), seq_ret (sc_l _ ds M h.1 fun a ha M => same_refl n a M (h.2 a ha)), outOf_rt']
  | tupP p ds =>
    cases n with
    | zero => cases h
    | succ n =>
      have h : (decide (ds.length ≤ 1000) && ds.all (okS n)) = true := h
      rw [Bool.and_eq_true, decide_eq_true_eq, List.all_eq_true] at h
      obtain ⟨s1, s2, s3, s4⟩ := same_isi (m_zsame (n + 1)) (.tupP p ds) M "tuple" rfl
      rw [same_unf, seq_step (same0 _ _ _ rfl), seq_step (s1 (by decide)), seq_ret (sc_t p _ ds M h.1 fun a ha M => same_refl n a M (h.2 a ha)), outOf_rt']
  | ins c f => cases n <;> cases h
  | dic f => cases n <;> cases h
  | glo x => cases n <;> cases h
  | ty x => cases n <;> cases h
  | ro x => cases n <;> cases h
  | junk => cases n <;> cases h

/-! ### the law -/
theorem src_lst (ds : List D) (M : Mst) : src M (.t (.lst (ds.map T.d))) = some (.l ds, M) := by
  show (match sqD (frz (.lst (ds.map T.d))) with | some q => some (q, M) | none => none) = _
  rw [frz_ds]; rfl
theorem src_ld (ds : List D) (M : Mst) : src M (.t (.d (.lst ds))) = some (.l ds, M) := rfl
theorem catLL {r1 r2 : R} {a b : List D} {M : Mst} (h1 : src M r1 = some (.l a, M)) (h2 : src M r2 = some (.l b, M)) (hq : isSq (frzR M r1) = true) (h : a.length + b.length ≤ 1000000) : addR r1 r2 M = .ok (.t (.lst ((a ++ b).map T.d))) M := by
  unfold addR case2
  rw [if_pos hq]
  unfold catR
  simp only [h1, h2]
  rw [if_pos h]
theorem isSq_lst (ds : List D) (M : Mst) : isSq (frzR M (.t (.lst (ds.map T.d)))) = true := by
  show isSq (frz _) = true
  rw [frz_ds]; rfl
theorem iOf_lst {F : Den} {ρ : Ev} {M : Mst} {ds : List D} (h : F ρ M = .ok (.t (.lst (ds.map T.d))) M) : iOf F ρ M = .ok ds M := by
  unfold iOf
  rw [h]
  show (match items (frz (.lst (ds.map T.d))) with | some ds => Out.ok ds M | none => .bad) = _
  rw [frz_ds]; rfl
theorem lc_ev {G : DenI} {g : Tg} {own : List Nat} {f : Den} {ρ : Ev} {M : Mst} (q : D → D) {ds : List D} (hG : G ρ M = .ok ds M) (h : ∀ d ∈ ds, ∃ ρ1, setT g d (wipeE ρ own) = some ρ1 ∧ f ρ1 M = .ok (.t (.d (q d))) M) (hn : ds.length ≤ 1000) :
    eLc G g own tYesD f ρ M = .ok (.t (.lst ((ds.map q).map T.d))) M := by
  unfold eLc
  rw [hG]
  show (lcL g own tYesD f ρ ds [] M).bind _ = _
  rw [lc_map (c := tYesD) q ds (fun d hd => let ⟨ρ1, h1, h2⟩ := h d hd; ⟨ρ1, h1, rfl, h2⟩) [] (by rw [List.length_nil]; omega)]
  rfl
theorem same_step {A B : Den} {ρ : Ev} {M : Mst} {r1 r2 : R} {d : D} (hA : A ρ M = .ok r1 M) (hB : B ρ M = .ok r2 M) (h1 : svR r1 = .d d) (h2 : svR r2 = .d d) (ho : okS 2 d = true) :
    eCall (m_zsame 3) (eArity 2 (eCons A (eCons B eNil))) ρ M = .ok (.t (.d (.bl true))) M := by
  simp only [Out.bind, eVar, eC, eSeq2, eNil, eCons, eTB, tAndD, tOrD, tNotD, bindS, sSeq, sNil, sIf, sRet, sAsg, gSet, svR, frz, eB, gItem, List.getElem?_cons_zero, List.getElem?_cons_succ, List.set_cons_zero, List.set_cons_succ, if_true, if_false, Bool.false_eq_true, decide_true, decide_false, eCall, eArity, hA, hB, List.length, Nat.reduceAdd, List.map]
  show m_zsame 3 [svR r1, svR r2] M = _
  rw [h1, h2, same_refl 2 d M ho]
theorem svR_lst (ds : List D) : svR (.t (.lst (ds.map T.d))) = .d (.lst ds) := by
  show SV.d (frz _) = _
  rw [frz_ds]
theorem guard_step {A : Den} {ρ : Ev} {M : Mst} (h : A ρ M = .ok (.t (.d (.bl true))) M) : sIf (tNotD (eTru A)) (sRet (eC (.bl false))) sNil ρ M = some (.nx ρ, M) := by
  simp only [Out.bind, eVar, eC, eSeq2, eNil, eCons, eTB, tAndD, tOrD, tNotD, bindS, sSeq, sNil, sIf, sRet, sAsg, gSet, svR, frz, eB, gItem, List.getElem?_cons_zero, List.getElem?_cons_succ, List.set_cons_zero, List.set_cons_succ, if_true, if_false, Bool.false_eq_true, decide_true, decide_false, eTru, h, frzR, truth, Bool.not_true]
theorem isW_good {w : List Nat} {most : Int} (h : 1 ≤ w.length ∧ (w.length : Int) ≤ most ∧ ∀ c ∈ w, c ∈ abc) : isW w most = true := by
  unfold isW
  rw [Bool.and_eq_true, List.all_eq_true]
  exact ⟨decide_eq_true ⟨by omega, h.2.1⟩, fun c hc => decide_eq_true (h.2.2 c hc)⟩
theorem reel_ev (ns : List Int) : ∃ cs s, m_zreel [.d (.ro (ns.map D.int))] [] = .ok (.t (reelT cs 0 0 s)) [] ∧ 0 ≤ s ∧ s < 18446744073709551616 := by
  have hc : cutD (ns.map D.int) none (some 63) = (ns.take 63).map D.int := by
    unfold cutD
    rw [HT.sIx_none, sIxI _ _ _ (by decide), List.drop_zero, Nat.sub_zero]
    rw [show (63 : Int).toNat = 63 from rfl, List.length_map]
    by_cases h : 63 ≤ ns.length
    · rw [Nat.min_eq_left h, List.map_take]
    · rw [Nat.min_eq_right (by omega), List.take_of_length_le (by simp), List.take_of_length_le (l := ns) (by omega)]
  have hl : (ns.take 63).length ≤ 63 := by rw [List.length_take]; omega
  refine ⟨ns.take 63, 12011 + 7 * ((ns.take 63).length : Nat), ?_, by omega, by omega⟩
  have e0 : slR none (some 63) (.t (.d (.ro (ns.map D.int)))) [] = .ok (.t (.lst (((ns.take 63).map D.int).map T.d))) [] := by
    show Out.ok (R.t (.lst ((cutD (ns.map D.int) none (some 63)).map T.d))) [] = _
    rw [hc]
  have e1 : listR [.t (.lst (((ns.take 63).map D.int).map T.d))] [] = .ok (.t (.lst (((ns.take 63).map D.int).map T.d))) [] := by
    simp only [listR, src_lst]
  show outOf 0 (sSeq t_zreel_0 t_zreel_1 [some (.d (.ro (ns.map D.int))), none] []) = _
  rw [seq_step (ρ' := [some (.d (.ro (ns.map D.int))), some (.d (.lst ((ns.take 63).map D.int)))]) (M' := [])]
  · unfold t_zreel_1
    have m7 := mulI 7 ((ns.take 63).length : Nat) [] (mulC_l _ _ (by decide))
    simp only [Out.bind, eVar, eC, eSeq2, eNil, eCons, eTB, tAndD, tOrD, tNotD, bindS, sSeq, sNil, sIf, sRet, sAsg, gSet, svR, frz, eB, gItem, List.getElem?_cons_zero, List.getElem?_cons_succ, List.set_cons_zero, List.set_cons_succ, if_true, if_false, Bool.false_eq_true, decide_true, decide_false, eLst, lenL, List.length_map, m7, addI, treesM, List.length, Nat.reduceAdd, Nat.reduceLeDiff]
    rfl
  · unfold t_zreel_0
    simp only [Out.bind, eVar, eC, eSeq2, eNil, eCons, eTB, tAndD, tOrD, tNotD, bindS, sSeq, sNil, sIf, sRet, sAsg, gSet, svR, frz, eB, gItem, List.getElem?_cons_zero, List.getElem?_cons_succ, List.set_cons_zero, List.set_cons_succ, if_true, if_false, Bool.false_eq_true, decide_true, decide_false, eSl, oNone, oSome, frzR, e0, e1, frzL_ds]

theorem isW_bad {w : List Nat} {most : Int} {c : Nat} (h : c ∈ w) (hc : c ∉ abc) : isW w most = false := by
  unfold isW
  rw [Bool.and_eq_false_iff]
  refine .inr ?_
  rw [List.all_eq_false]
  exact ⟨c, h, by simpa using hc⟩
theorem isW_long {w : List Nat} {most : Int} (h : most < w.length) : isW w most = false := by
  unfold isW
  rw [decide_eq_false (fun z => by have := z.2; omega), Bool.false_and]
end
end Toy

/-! what a denotation promises, from behind -/
namespace Toy
open PySem L2 DL
def WpF {α : Type} (o : Out α) (Q : α → Mst → Prop) (E : Exc → Mst → Prop) : Prop := match o with
  | .ok a M => Q a M
  | .exc e M => E e M
  | .bad => False
structure Wp {α : Type} (o : Out α) (Q : α → Mst → Prop) (E : Exc → Mst → Prop) : Prop where
  w : WpF o Q E
def WpSF (o : Option (Fl × Mst)) (Φ : Fl → Mst → Prop) : Prop := match o with
  | some (f, M) => Φ f M
  | none => False
structure WpS (o : Option (Fl × Mst)) (Φ : Fl → Mst → Prop) : Prop where
  w : WpSF o Φ
section
variable {α β : Type} {Q : α → Mst → Prop} {Q' : R → Mst → Prop} {E : Exc → Mst → Prop} {Φ : Fl → Mst → Prop} {M : Mst} {ρ : Ev}
theorem Wp.mono {o : Out α} {Q1 : α → Mst → Prop} (h : Wp o Q1 E) (k : ∀ a M, Q1 a M → Q a M) : Wp o Q E := by
  obtain ⟨h⟩ := h
  cases o with
  | ok a M => exact ⟨k a M h⟩
  | exc e M => exact ⟨h⟩
  | bad => exact h.elim
theorem WpS.mono {o : Option (Fl × Mst)} {Φ1 : Fl → Mst → Prop} (h : WpS o Φ1) (k : ∀ a M, Φ1 a M → Φ a M) : WpS o Φ := by
  obtain ⟨h⟩ := h
  cases o with
  | none => exact h.elim
  | some q => exact ⟨k q.1 q.2 h⟩
theorem wp_ok (a : α) : Wp (.ok a M) Q E ↔ Q a M := ⟨fun h => h.w, fun h => ⟨h⟩⟩
theorem wp_exc (e : Exc) : Wp (.exc e M : Out α) Q E ↔ E e M := ⟨fun h => h.w, fun h => ⟨h⟩⟩
theorem wp_bad : Wp (.bad : Out α) Q E ↔ False := ⟨fun h => h.w, False.elim⟩
theorem wp_bind (o : Out β) (k : β → Mst → Out α) : Wp (o.bind k) Q E ↔ Wp o (fun b M1 => Wp (k b M1) Q E) E := by cases o <;> first | exact ⟨fun h => ⟨h⟩, fun h => h.w⟩ | exact ⟨fun h => ⟨h.w⟩, fun h => ⟨h.w⟩⟩
theorem wp_ite (c : Prop) [Decidable c] (a b : Out α) : Wp (if c then a else b) Q E ↔ (if c then Wp a Q E else Wp b Q E) := by split <;> exact Iff.rfl
theorem wps_some (f : Fl) : WpS (some (f, M)) Φ ↔ Φ f M := ⟨fun h => h.w, fun h => ⟨h⟩⟩
theorem wps_none : WpS none Φ ↔ False := ⟨fun h => h.w, False.elim⟩
theorem wps_ite (c : Prop) [Decidable c] (a b : Option (Fl × Mst)) : WpS (if c then a else b) Φ ↔ (if c then WpS a Φ else WpS b Φ) := by split <;> exact Iff.rfl
theorem wps_bind (o : Out α) (k : α → Mst → Option (Fl × Mst)) : WpS (bindS o ρ k) Φ ↔ Wp o (fun a M1 => WpS (k a M1) Φ) (fun e M1 => Φ (.xc e ρ) M1) := by cases o <;> first | exact ⟨fun h => ⟨h⟩, fun h => h.w⟩ | exact ⟨fun h => ⟨h.w⟩, fun h => ⟨h.w⟩⟩
def seqK (G : DenS) (Φ : Fl → Mst → Prop) : Fl → Mst → Prop
  | .nx ρ1, M1 => WpS (G ρ1 M1) Φ
  | f, M1 => Φ f M1
theorem wps_seq (F G : DenS) : WpS (sSeq F G ρ M) Φ ↔ WpS (F ρ M) (seqK G Φ) := by
  unfold sSeq
  cases h : F ρ M with
  | none => exact ⟨fun h => ⟨h.w⟩, fun h => ⟨h.w⟩⟩
  | some q =>
    obtain ⟨f, M1⟩ := q
    cases f <;> first | exact ⟨fun h => ⟨h⟩, fun h => h.w⟩ | exact ⟨fun h => ⟨h.w⟩, fun h => ⟨h.w⟩⟩
theorem seqK_nx (G : DenS) (ρ1 : Ev) (M1 : Mst) : seqK G Φ (.nx ρ1) M1 ↔ WpS (G ρ1 M1) Φ := Iff.rfl
theorem seqK_rt (G : DenS) (r : R) (M1 : Mst) : seqK G Φ (.rt r) M1 ↔ Φ (.rt r) M1 := Iff.rfl
theorem seqK_xc (G : DenS) (e : Exc) (ρ1 : Ev) (M1 : Mst) : seqK G Φ (.xc e ρ1) M1 ↔ Φ (.xc e ρ1) M1 := Iff.rfl
theorem seqK_ct (G : DenS) (ρ1 : Ev) (M1 : Mst) : seqK G Φ (.ct ρ1) M1 ↔ Φ (.ct ρ1) M1 := Iff.rfl
theorem seqK_bk (G : DenS) (ρ1 : Ev) (M1 : Mst) : seqK G Φ (.bk ρ1) M1 ↔ Φ (.bk ρ1) M1 := Iff.rfl
/-- what is wanted behind a def's body -/
def fnK (n : Nat) (Q : R → Mst → Prop) (E : Exc → Mst → Prop) : Fl → Mst → Prop
  | .nx _, M' => Q (.t (.d .non)) (M'.take n)
  | .rt r, M' => Q (retR n M' r) (M'.take n)
  | .xc e _, M' => E e (M'.take n)
  | _, _ => False
theorem wp_body (N : Nat) (b : DenS) (xs : List SV) : Wp (body N b xs M) Q' E ↔ WpS (b (env0 N xs) M) (fnK M.length Q' E) := by
  unfold body outOf
  cases h : b (env0 N xs) M with
  | none => exact ⟨fun h => ⟨h.w⟩, fun h => ⟨h.w⟩⟩
  | some q =>
    obtain ⟨f, M1⟩ := q
    cases f <;> exact ⟨fun h => ⟨h.w⟩, fun h => ⟨h.w⟩⟩
/-- a def by its body -/
theorem wp_fn {N : Nat} {b : DenS} {xs : List SV} {ρ : Ev} (he : env0 N xs = ρ) (h : WpS (b ρ M) (fnK M.length Q' E)) : Wp (body N b xs M) Q' E := by
  rw [wp_body, he]; exact h
theorem fnK_rt (n : Nat) (x : T) (M' : Mst) : fnK n Q' E (.rt (.t x)) M' ↔ Q' (.t x) (M'.take n) := Iff.rfl
theorem fnK_nx (n : Nat) (ρ' : Ev) (M' : Mst) : fnK n Q' E (.nx ρ') M' ↔ Q' (.t (.d .non)) (M'.take n) := Iff.rfl
theorem wp_eq {o : Out α} {a : α} {M' : Mst} (h : o = .ok a M') (q : Q a M') : Wp o Q E := by rw [h]; exact ⟨q⟩
theorem ok_of {o : Out R} {r : R} {M' : Mst} (h : Wp o (fun a M1 => a = r ∧ M1 = M') (fun _ _ => False)) : o = .ok r M' := by
  obtain ⟨h⟩ := h
  cases o with
  | ok a M1 => obtain ⟨h1, h2⟩ := h; subst h1; subst h2; rfl
  | exc e M1 => exact h.elim
  | bad => exact h.elim
/-- what a promise without exceptions gives -/
theorem Wp.get {o : Out α} (h : Wp o Q (fun _ _ => False)) : ∃ a M', o = .ok a M' ∧ Q a M' := by
  obtain ⟨h⟩ := h
  cases o with
  | ok a M1 => exact ⟨a, M1, rfl, h⟩
  | exc e M1 => exact h.elim
  | bad => exact h.elim
theorem take_len (M : Mst) : M.take M.length = M := List.take_length
/-! ### comprehensions, loops -/
theorem wp_lc {G : DenI} {g : Tg} {own : List Nat} {c : DenT} {f : Den} (I : List D → Mst → Prop)
    (h : Wp (G ρ M) (fun ds M1 => ds.length ≤ 1000000 ∧ I [] M1 ∧ (∀ (n : Nat) (d : D) (xs : List D) M2, ds[n]? = some d → xs.length = n → I xs M2 → ∃ ρ1, setT g d (wipeE ρ own) = some ρ1 ∧ c ρ1 M2 = .ok true M2 ∧ Wp (f ρ1 M2) (fun r M3 => ∃ x, r = .t (.d x) ∧ I (xs ++ [x]) M3) (fun _ _ => False)) ∧
      ∀ xs M2, xs.length = ds.length → I xs M2 → Q' (.t (.lst (xs.map T.d))) M2) E) : Wp (eLc G g own c f ρ M) Q' E := by
  unfold eLc
  rw [wp_bind]
  refine h.mono fun ds M1 ⟨hl, h0, hs, hq⟩ => ?_
  rw [wp_bind]
  have key : ∀ (ds' : List D) (xs : List D) (M2 : Mst), (∃ pre, ds = pre ++ ds' ∧ pre.length = xs.length) → I xs M2 → ∃ xs' M3, lcL g own c f ρ ds' (xs.map T.d) M2 = .ok (xs'.map T.d) M3 ∧ xs'.length = ds.length ∧ I xs' M3 := by
    intro ds'
    induction ds' with
    | nil => intro xs M2 ⟨pre, e, el⟩ hI; exact ⟨xs, M2, rfl, by rw [e, List.append_nil, el], hI⟩
    | cons d r ih =>
      intro xs M2 ⟨pre, e, el⟩ hI
      have hd : ds[xs.length]? = some d := by rw [e, ← el]; simp
      obtain ⟨ρ1, e1, e2, e3⟩ := hs xs.length d xs M2 hd rfl hI
      cases z : f ρ1 M2 with
      | bad => rw [z] at e3; exact e3.w.elim
      | exc _ _ => rw [z] at e3; exact e3.w.elim
      | ok r3 M3 =>
        rw [z] at e3
        obtain ⟨x, rfl, hx⟩ := e3.w
        obtain ⟨xs', M4, k1, k2, k3⟩ := ih (xs ++ [x]) M3 ⟨pre ++ [d], by rw [e]; simp, by simp [el]⟩ hx
        refine ⟨xs', M4, ?_, k2, k3⟩
        unfold lcL
        rw [e1]
        simp only [e2, noX, Out.bind, if_true, z]
        have hlen : xs.length < ds.length := (List.getElem?_eq_some_iff.mp hd).1
        rw [List.length_map, if_pos (by omega)]
        show lcL g own c f ρ r (xs.map T.d ++ [T.d x]) M3 = _
        rw [show xs.map T.d ++ [T.d x] = (xs ++ [x]).map T.d by simp]
        exact k1
  obtain ⟨xs', M3, k1, k2, k3⟩ := key ds [] M1 ⟨[], rfl, rfl⟩ h0
  rw [show ([] : List T) = ([] : List D).map T.d from rfl, k1]
  exact ⟨⟨hq xs' M3 k2 k3⟩⟩
/-- .. a map that changes nothing -/
theorem wp_lcm {G : DenI} {g : Tg} {own : List Nat} {f : Den} (q : D → D)
    (h : Wp (G ρ M) (fun ds M1 => ds.length ≤ 1000000 ∧ (∀ d ∈ ds, ∃ ρ1, setT g d (wipeE ρ own) = some ρ1 ∧ Wp (f ρ1 M1) (fun r M3 => r = .t (.d (q d)) ∧ M3 = M1) (fun _ _ => False)) ∧ Q' (.t (.lst ((ds.map q).map T.d))) M1) E) : Wp (eLc G g own tYesD f ρ M) Q' E := by
  unfold eLc
  rw [wp_bind]
  refine h.mono fun ds M1 ⟨hl, hs, hq⟩ => ?_
  have e := lc_map (g := g) (own := own) (c := tYesD) (f := f) (ρ := ρ) (M := M1) q ds (fun d hd => let ⟨ρ1, e1, e2⟩ := hs d hd; ⟨ρ1, e1, rfl, ok_of e2⟩) [] (by simpa using hl)
  rw [e, List.nil_append]
  exact ⟨hq⟩
/-- .. of rows that are kept as trees -/
theorem lc_mapT {g : Tg} {own : List Nat} {c : DenT} {f : Den} {ρ : Ev} {M : Mst} (q : D → T) (hq : ∀ d, treeT M (.t (q d)) = q d) : ∀ (ds : List D), (∀ d ∈ ds, ∃ ρ1, setT g d (wipeE ρ own) = some ρ1 ∧ c ρ1 M = .ok true M ∧ f ρ1 M = .ok (.t (q d)) M) → ∀ acc : List T, acc.length + ds.length ≤ 1000000 →
    lcL g own c f ρ ds acc M = .ok (acc ++ ds.map q) M := by
  intro ds
  induction ds with
  | nil => exact fun _ acc _ => by simp [lcL]
  | cons d r ih =>
    intro h acc hn
    obtain ⟨ρ1, e1, e2, e3⟩ := h d (List.mem_cons_self ..)
    have hn' : acc.length + (r.length + 1) ≤ 1000000 := hn
    unfold lcL
    rw [e1]
    simp only [e2, noX, Out.bind, if_true, e3]
    rw [if_pos (by omega)]
    show lcL g own c f ρ r (acc ++ [q d]) M = _
    rw [ih (fun d' hd => h d' (List.mem_cons_of_mem _ hd)) _ (by rw [List.length_append]; show acc.length + 1 + r.length ≤ _; omega)]
    simp
theorem wp_lcT {G : DenI} {g : Tg} {own : List Nat} {f : Den} (q : D → T)
    (h : Wp (G ρ M) (fun ds M1 => ds.length ≤ 1000000 ∧ (∀ d ∈ ds, ∃ ρ1, setT g d (wipeE ρ own) = some ρ1 ∧ Wp (f ρ1 M1) (fun r M3 => r = .t (q d) ∧ M3 = M1) (fun _ _ => False)) ∧ Q' (.t (.lst (ds.map q))) M1) E) : Wp (eLc G g own tYesD f ρ M) Q' E := by
  unfold eLc
  rw [wp_bind]
  refine h.mono fun ds M1 ⟨hl, hs, hq⟩ => ?_
  have e := lc_mapT (g := g) (own := own) (c := tYesD) (f := f) (ρ := ρ) (M := M1) q (fun _ => rfl) ds (fun d hd => let ⟨ρ1, e1, e2⟩ := hs d hd; ⟨ρ1, e1, rfl, ok_of e2⟩) [] (by simpa using hl)
  rw [e, List.nil_append]
  exact ⟨hq⟩
/-- a loop by its invariant -/
theorem wps_forS {g : Tg} {b : DenS} (I : Ev → Mst → Prop) : ∀ (ds : List D) (ρ : Ev) (M : Mst), I ρ M → (∀ d ∈ ds, ∀ ρ M, I ρ M → ∃ ρ1, setT g d ρ = some ρ1 ∧ WpS (b ρ1 M) fun f M' => match f with
      | .nx ρ2 => I ρ2 M'
      | .ct ρ2 => I ρ2 M'
      | .rt r => Φ (.rt r) M'
      | .xc e ρ2 => Φ (.xc e ρ2) M'
      | .bk _ => False) → (∀ ρ M, I ρ M → Φ (.nx ρ) M) → WpS (forS g b ds ρ M) Φ := by
  intro ds
  induction ds with
  | nil => exact fun ρ M hI _ k => ⟨k ρ M hI⟩
  | cons d r ih =>
    intro ρ M hI hb k
    obtain ⟨ρ1, e1, e2⟩ := hb d List.mem_cons_self ρ M hI
    unfold forS
    rw [e1]
    show WpS (match b ρ1 M with
      | some (.nx ρ2, M2) => forS g b r ρ2 M2
      | some (.ct ρ2, M2) => forS g b r ρ2 M2
      | some (.bk ρ2, M2) => some (.nx ρ2, M2)
      | o => o) Φ
    have go := ih
    cases z : b ρ1 M with
    | none => rw [z] at e2; exact e2.w.elim
    | some q =>
      obtain ⟨f, M2⟩ := q
      rw [z] at e2
      replace e2 := e2.w
      cases f with
      | nx ρ2 => exact ih ρ2 M2 e2 (fun d hd => hb d (List.mem_cons_of_mem _ hd)) k
      | ct ρ2 => exact ih ρ2 M2 e2 (fun d hd => hb d (List.mem_cons_of_mem _ hd)) k
      | rt r => exact ⟨e2⟩
      | xc e ρ2 => exact ⟨e2⟩
      | bk ρ2 => exact e2.elim
theorem wps_for {G : DenI} {g : Tg} {b : DenS} (I : Ev → Mst → Prop) (h : Wp (G ρ M) (fun ds M1 => I ρ M1 ∧ (∀ d ∈ ds, ∀ ρ M, I ρ M → ∃ ρ1, setT g d ρ = some ρ1 ∧ WpS (b ρ1 M) fun f M' => match f with
      | .nx ρ2 => I ρ2 M'
      | .ct ρ2 => I ρ2 M'
      | .rt r => Φ (.rt r) M'
      | .xc e ρ2 => Φ (.xc e ρ2) M'
      | .bk _ => False) ∧ ∀ ρ M, I ρ M → Φ (.nx ρ) M) (fun e M1 => Φ (.xc e ρ) M1)) : WpS (sFor G g b ρ M) Φ := by
  unfold sFor
  rw [wps_bind]
  exact h.mono fun ds M1 ⟨h0, h1, h2⟩ => wps_forS I ds ρ M1 h0 h1 h2
end
end Toy

/-! tables: what is looked at, how one is made -/
namespace Toy
open PySem L2 DL
section
variable {M : Mst}
/-- a tuple that tuple(..) has made -/
abbrev tpD (ds : List D) : D := .tupP true ds
def seqD (c : Bool) (ds : List D) : D := match c with
  | true => tpD ds
  | false => .lst ds
theorem ty_seq (c : Bool) (ds : List D) : tyName (seqD c ds) = some (if c then "tuple" else "list") := by cases c <;> rfl
theorem isi2_ev (d : D) (t : String) (M : Mst) (h : tyName d = some t) : isiR [.t (.d d), .t (.tup [.d (.ty "list"), .d (.ty "tuple")])] M = .ok (.t (.d (.bl ([("list" : String), "tuple"].any (isI t))))) M := by
  show (match tyName d, tysT [T.d (.ty "list"), T.d (.ty "tuple")] with
    | some t, some ns => if ns.all okTy = true then _ else _
    | _, _ => _) = _
  rw [h]
  rfl
theorem isListed (d : D) (t : String) (M : Mst) (h : tyName d = some t) : m_is_listed [.d d] M = .ok (.t (.d (.bl ([("list" : String), "tuple"].any (isI t))))) M :=
  ok_of (wp_fn (ρ := [some (.d d)]) rfl (by
    unfold b_is_listed
    simp only [wp_ok, wp_bind, wp_ite, wps_some, wps_none, wps_ite, wps_bind, wps_seq, seqK_nx, seqK_rt, seqK_xc, seqK_ct, seqK_bk, fnK_rt, fnK_nx, eVar, eC, eSeq2, eSeq1, eNil, eCons, eTB, eTru, tAndD, tOrD, tNotD, eNot, eAnd, eOr, eIf, sNil, sBad, sIf, sRet, sExpr, sAsg, gSet, svR, frz, frzR, eB, eCall, eArity, eLst, eTup, treesM, tYesD, eChain, dat, truth, List.getElem?_cons_zero, List.getElem?_cons_succ, List.set_cons_zero, List.set_cons_succ, List.map_cons, List.map_nil, List.length_cons, List.length_nil, Nat.reduceAdd, if_true, if_false, Bool.false_eq_true, decide_true, decide_false, Bool.not_true, Bool.not_false, frzL, take_len, and_true, true_and, isi2_ev d t M h, Nat.reduceLeDiff]))
theorem listed_seq (c : Bool) (ds : List D) (M : Mst) : m_is_listed [.d (seqD c ds)] M = .ok (.t (.d (.bl true))) M := by
  rw [isListed _ _ M (ty_seq c ds)]
  cases c <;> rfl
theorem isNumber (i : Int) (M : Mst) : m_is_number [.d (.int i)] M = .ok (.t (.d (.bl true))) M :=
  ok_of (wp_fn (ρ := [some (.d (.int i))]) rfl (by
    unfold b_is_number
    simp only [wp_ok, wp_bind, wp_ite, wps_some, wps_none, wps_ite, wps_bind, wps_seq, seqK_nx, seqK_rt, seqK_xc, seqK_ct, seqK_bk, fnK_rt, fnK_nx, eVar, eC, eSeq2, eSeq1, eNil, eCons, eTB, eTru, tAndD, tOrD, tNotD, eNot, eAnd, eOr, eIf, sNil, sBad, sIf, sRet, sExpr, sAsg, gSet, svR, frz, frzR, eB, eCall, eArity, eLst, eTup, treesM, tYesD, eChain, dat, truth, List.getElem?_cons_zero, List.getElem?_cons_succ, List.set_cons_zero, List.set_cons_succ, List.map_cons, List.map_nil, List.length_cons, List.length_nil, Nat.reduceAdd, if_true, if_false, Bool.false_eq_true, decide_true, decide_false, Bool.not_true, Bool.not_false, frzL, take_len, and_true, true_and, isi_ev (.int i) "int" "int" M rfl (by decide), isi_ev (.int i) "bool" "int" M rfl (by decide), show isI "int" "int" = true by decide, show isI "int" "bool" = false by decide]))
theorem len_seq (c : Bool) (ds : List D) (M : Mst) : scL lenD [.t (.d (seqD c ds))] M = .ok (.t (.d (.int (ds.length : Nat)))) M := by cases c <;> rfl
theorem frzR_d' (x : D) (M : Mst) : frzR M (.t (.d x)) = x := rfl
theorem enum_seq (c : Bool) (ds : List D) {A : DenA} {ρ : Ev} {M M1 : Mst} (h : A ρ M = .ok [.t (.d (seqD c ds))] M1) : iEnumS A ρ M = .ok (enumD ds) M1 := by
  unfold iEnumS
  rw [h]
  cases c <;> rfl
theorem enumD_len (ds : List D) : (enumD ds).length = ds.length := by unfold enumD; simp
theorem enum_mem {ds : List D} {d : D} (h : d ∈ enumD ds) : ∃ (n : Nat) (x : D), ds[n]? = some x ∧ d = .tup [.int (n : Nat), x] := by
  unfold enumD at h
  obtain ⟨n, hn, e⟩ := List.mem_iff_getElem.mp h
  rw [List.getElem_zipWith] at e
  have hn' : n < ds.length := by simpa using hn
  exact ⟨n, ds[n], List.getElem?_eq_getElem hn', by rw [← e]; simp⟩
theorem list_to (c : Bool) (ds : List D) (n : Nat) (M : Mst) (h : n ≤ ds.length) : ∃ r, slR none (some (n : Int)) (.t (.d (seqD c ds))) M = .ok r M ∧ listR [r] M = .ok (.t (.lst ((ds.take n).map T.d))) M := by
  have e1 : cutD ds none (some (n : Int)) = ds.take n := by
    unfold cutD
    rw [HT.sIx_none, sIxI _ _ _ (by omega), List.drop_zero, Nat.sub_zero, Int.toNat_natCast, Nat.min_eq_left h]
  cases c with
  | false =>
    refine ⟨.t (.lst ((ds.take n).map T.d)), ?_, ?_⟩
    · show Out.ok (R.t (.lst ((cutD ds none (some (n : Int))).map T.d))) M = _
      rw [e1]
    · simp only [listR, src_lst]
  | true =>
    by_cases hn : n = ds.length
    · refine ⟨.t (.d (.tup ds)), ?_, ?_⟩
      · show (if HT.sIx ds.length 0 none = 0 ∧ HT.sIx ds.length ds.length (some (n : Int)) = ds.length then _ else _) = _
        rw [if_pos (by rw [HT.sIx_none, sIxI _ _ _ (by omega)]; exact ⟨rfl, by rw [Int.toNat_natCast, hn, Nat.min_self]⟩)]
        rfl
      · show Out.ok (R.t (.lst (ds.map T.d))) M = _
        rw [hn, List.take_length]
    · refine ⟨.t (.tup ((ds.take n).map T.d)), ?_, ?_⟩
      · show (if HT.sIx ds.length 0 none = 0 ∧ HT.sIx ds.length ds.length (some (n : Int)) = ds.length then _ else _) = _
        rw [if_neg (by rw [HT.sIx_none, sIxI _ _ _ (by omega), Int.toNat_natCast, Nat.min_eq_left h]; exact fun z => hn z.2), e1]
        rfl
      · have e2 : src M (.t (.tup ((ds.take n).map T.d))) = some (.t (ds.take n), M) := by
          show (match sqD (.tup (frzL ((ds.take n).map T.d))) with | some q => some (q, M) | none => none) = _
          rw [frzL_ds]; rfl
        simp only [listR, e2]
abbrev kd (ws : List (List Nat)) : List D := ws.map fun l => D.str (S l)
theorem eqv_str (a b : Str) : eqv (.str a) (.str b) = decide (a = b) := rfl
theorem in_strs (x : List Nat) (ws : List (List Nat)) (M : Mst) : sc2 (inOp false) (.t (.d (.str (S x)))) (.t (.lst ((kd ws).map T.d))) M = .ok (.t (.d (.bl (decide (x ∈ ws))))) M := by
  show (match inOp false (.str (S x)) (frz (.lst ((kd ws).map T.d))) with | some d => Out.ok (R.t (.d d)) M | none => .bad) = _
  rw [frz_ds]
  have h1 : (kd ws).all flatD = true := by rw [List.all_eq_true]; intro d hd; obtain ⟨w, _, rfl⟩ := List.mem_map.mp hd; rfl
  have h2 : memD (.str (S x)) (kd ws) = decide (x ∈ ws) := by
    unfold memD
    rw [List.any_map]
    have : ((fun y => eqv y (D.str (S x))) ∘ fun l => D.str (S l)) = fun l => decide (l = x) := by
      funext l
      show eqv (.str (S l)) (.str (S x)) = _
      rw [eqv_str]
      congr 1
      refine propext ⟨fun e => ?_, fun e => by rw [e]⟩
      have : (S l).cps.toList = (S x).cps.toList := by rw [e]
      simpa using this
    rw [this, Bool.eq_iff_iff, List.any_eq_true, decide_eq_true_eq]
    exact ⟨fun ⟨y, h1, h2⟩ => by simp at h2; exact h2 ▸ h1, fun h => ⟨x, h, by simp⟩⟩
  show (match (if (flatD (.str (S x)) = true ∧ (kd ws).all flatD = true) ∨ (okD 12 (.str (S x)) = true ∧ okD 12 (.lst (kd ws)) = true) then some (D.bl (if false = true then !memD (.str (S x)) (kd ws) else memD (.str (S x)) (kd ws))) else none) with | some d => Out.ok (R.t (.d d)) M | none => .bad) = _
  rw [if_pos (.inl ⟨rfl, h1⟩), h2]
  rfl
/-- kinds of a side -/
structure Sd (ws : List (List Nat)) : Prop where
  l1 : 1 ≤ ws.length
  l5 : ws.length ≤ 5
  ok : ∀ w ∈ ws, 1 ≤ w.length ∧ (w.length : Int) ≤ 6 ∧ ∀ c ∈ w, c ∈ abc
  nd : ws.Nodup
theorem not_before {α : Type} {xs : List α} (h : xs.Nodup) {n : Nat} {x : α} (hx : xs[n]? = some x) : x ∉ xs.take n := fun hm => by
  obtain ⟨m, hm', e⟩ := List.mem_iff_getElem.mp hm
  rw [List.length_take] at hm'
  rw [List.getElem_take] at e
  obtain ⟨hn, e2⟩ := List.getElem?_eq_some_iff.mp hx
  exact List.pairwise_iff_getElem.mp (List.nodup_iff_pairwise_ne.mp h) m n (by omega) hn (by omega) (e.trans e2.symm)
theorem checkKinds (c : Bool) {ws : List (List Nat)} (h : Sd ws) (s : Str) (M : Mst) : m_check_kinds [.d (seqD c (kd ws)), .d (.str s)] M = .ok (.t (.d .non)) M :=
  ok_of (wp_fn (ρ := [some (.d (seqD c (kd ws))), some (.d (.str s)), none, none]) rfl (by
    unfold b_check_kinds
    rw [wps_seq]
    have c1 : (1 : Int) ≤ ((kd ws).length : Nat) := by have := h.l1; simp; omega
    have c2 : ((kd ws).length : Int) ≤ (5 : Int) := by have := h.l5; simp; omega
    unfold t_check_kinds_0
    simp only [wp_ok, wp_bind, wp_ite, wps_some, wps_none, wps_ite, wps_bind, wps_seq, seqK_nx, seqK_rt, seqK_xc, seqK_ct, seqK_bk, fnK_rt, fnK_nx, eVar, eC, eSeq2, eSeq1, eNil, eCons, eTB, eTru, tAndD, tOrD, tNotD, eNot, eAnd, eOr, eIf, sNil, sBad, sIf, sRet, sExpr, sAsg, gSet, svR, frz, frzR, eB, eCall, eArity, eLst, eTup, treesM, tYesD, eChain, dat, truth, List.getElem?_cons_zero, List.getElem?_cons_succ, List.set_cons_zero, List.set_cons_succ, List.map_cons, List.map_nil, List.length_cons, List.length_nil, Nat.reduceAdd, if_true, if_false, Bool.false_eq_true, decide_true, decide_false, Bool.not_true, Bool.not_false, frzL, take_len, and_true, true_and, listed_seq, len_seq, leI, c1, c2]
    unfold t_check_kinds_1
    refine wps_for (fun ρ M' => ∃ a b, ρ = [some (.d (seqD c (kd ws))), some (.d (.str s)), a, b] ∧ M' = M) (wp_eq (enum_seq c (kd ws) rfl) ⟨⟨none, none, rfl, rfl⟩, fun d hd ρ M' ⟨a, b, e1, e2⟩ => ?_, fun ρ M' ⟨a, b, e1, e2⟩ => ?_⟩)
    · subst e1; subst e2
      obtain ⟨n, x, hx, rfl⟩ := enum_mem hd
      rw [List.getElem?_map] at hx
      cases z : ws[n]? with
      | none => rw [z] at hx; cases hx
      | some w =>
        rw [z] at hx
        cases hx
        refine ⟨_, rfl, ?_⟩
        obtain ⟨hn, _⟩ := List.getElem?_eq_some_iff.mp z
        have hw := h.ok w (List.mem_of_getElem? z)
        obtain ⟨r, k1, k2⟩ := list_to c (kd ws) n M' (by rw [List.length_map]; omega)
        rw [show (kd ws).take n = kd (ws.take n) from List.map_take.symm] at k2
        have k3 := isKind_str w M' (by omega)
        rw [isW_good hw] at k3
        show WpS _ _
        simp only [wp_ok, wp_bind, wp_ite, wps_some, wps_none, wps_ite, wps_bind, wps_seq, seqK_nx, seqK_rt, seqK_xc, seqK_ct, seqK_bk, fnK_rt, fnK_nx, eVar, eC, eSeq2, eSeq1, eNil, eCons, eTB, eTru, tAndD, tOrD, tNotD, eNot, eAnd, eOr, eIf, sNil, sBad, sIf, sRet, sExpr, sAsg, gSet, svR, frz, frzR, eB, eCall, eArity, eLst, eTup, treesM, tYesD, eChain, dat, truth, List.getElem?_cons_zero, List.getElem?_cons_succ, List.set_cons_zero, List.set_cons_succ, List.map_cons, List.map_nil, List.length_cons, List.length_nil, Nat.reduceAdd, if_true, if_false, Bool.false_eq_true, decide_true, decide_false, Bool.not_true, Bool.not_false, frzL, take_len, and_true, true_and, setAll, k3, eSl, oNone, oSome, k1, k2, in_strs, not_before h.nd z]
        exact ⟨_, _, rfl⟩
    · subst e1; subst e2
      simp only [wp_ok, wp_bind, wp_ite, wps_some, wps_none, wps_ite, wps_bind, wps_seq, seqK_nx, seqK_rt, seqK_xc, seqK_ct, seqK_bk, fnK_rt, fnK_nx, eVar, eC, eSeq2, eSeq1, eNil, eCons, eTB, eTru, tAndD, tOrD, tNotD, eNot, eAnd, eOr, eIf, sNil, sBad, sIf, sRet, sExpr, sAsg, gSet, svR, frz, frzR, eB, eCall, eArity, eLst, eTup, treesM, tYesD, eChain, dat, truth, List.getElem?_cons_zero, List.getElem?_cons_succ, List.set_cons_zero, List.set_cons_succ, List.map_cons, List.map_nil, List.length_cons, List.length_nil, Nat.reduceAdd, if_true, if_false, Bool.false_eq_true, decide_true, decide_false, Bool.not_true, Bool.not_false, frzL, take_len, and_true, true_and]))
theorem neI' (i j : Nat) (M : Mst) : neR (.t (.d (.int (i : Nat)))) (.t (.d (.int (j : Nat)))) M = .ok (.t (.d (.bl (!decide (i = j))))) M := by
  rw [neI]
  congr 4
  first | omega | (rw [decide_eq_decide]; omega) | (simp; omega)
abbrev ri (r : List Int) : List D := r.map D.int
theorem bools_true (n : Nat) (M : Mst) {xs : List D} (h : xs = List.replicate n (D.bl true)) : scL allDD [.t (.lst (xs.map T.d))] M = .ok (.t (.d (.bl true))) M := by
  rw [h]; exact all_true n M
/-- rows of numbers -/
def Rc (g : List (List Int)) (h w : Nat) : Prop := g.length = h ∧ ∀ r ∈ g, r.length = w
theorem iOf_seq (c : Bool) (ds : List D) {F : Den} {ρ : Ev} {M M1 : Mst} (h : F ρ M = .ok (.t (.d (seqD c ds))) M1) : iOf F ρ M = .ok ds M1 := by
  unfold iOf
  rw [h]
  cases c <;> rfl
theorem checkValues (c c' : Bool) {g : List (List Int)} {h w : Nat} (H : Rc g h w) (hh : h ≤ 1000) (hw : w ≤ 1000) (M : Mst) : m_check_values [.d (seqD c (g.map fun r => seqD c' (ri r))), .d (.int (h : Nat)), .d (.int (w : Nat))] M = .ok (.t (.d .non)) M :=
  ok_of (wp_fn (ρ := [some (.d (seqD c (g.map fun r => seqD c' (ri r)))), some (.d (.int (h : Nat))), some (.d (.int (w : Nat))), none, none, none]) rfl (by
    unfold b_check_values
    rw [wps_seq]
    have c1 : (g.map fun r => seqD c' (ri r)).length = h := by rw [List.length_map]; exact H.1
    unfold t_check_values_0
    simp only [wp_ok, wp_bind, wp_ite, wps_some, wps_none, wps_ite, wps_bind, wps_seq, seqK_nx, seqK_rt, seqK_xc, seqK_ct, seqK_bk, fnK_rt, fnK_nx, eVar, eC, eSeq2, eSeq1, eNil, eCons, eTB, eTru, tAndD, tOrD, tNotD, eNot, eAnd, eOr, eIf, sNil, sBad, sIf, sRet, sExpr, sAsg, gSet, svR, frz, frzR, eB, eCall, eArity, eLst, eTup, treesM, tYesD, eChain, dat, truth, List.getElem?_cons_zero, List.getElem?_cons_succ, List.set_cons_zero, List.set_cons_succ, List.map_cons, List.map_nil, List.length_cons, List.length_nil, Nat.reduceAdd, if_true, if_false, Bool.false_eq_true, decide_true, decide_false, Bool.not_true, Bool.not_false, frzL, take_len, and_true, true_and, listed_seq, len_seq, neI', c1]
    unfold t_check_values_1
    refine wps_for (fun ρ M' => ∃ a b e, ρ = [some (.d (seqD c (g.map fun r => seqD c' (ri r)))), some (.d (.int (h : Nat))), some (.d (.int (w : Nat))), a, b, e] ∧ M' = M) (wp_eq (enum_seq c _ rfl) ⟨⟨none, none, none, rfl, rfl⟩, fun d hd ρ M' ⟨a, b, e, e1, e2⟩ => ?_, fun ρ M' ⟨a, b, e, e1, e2⟩ => ?_⟩)
    · subst e1; subst e2
      obtain ⟨n, x, hx, rfl⟩ := enum_mem hd
      rw [List.getElem?_map] at hx
      cases z : g[n]? with
      | none => rw [z] at hx; cases hx
      | some r =>
        rw [z] at hx
        cases hx
        refine ⟨_, rfl, ?_⟩
        have hr := H.2 r (List.mem_of_getElem? z)
        have c2 : (ri r).length = w := by rw [List.length_map]; exact hr
        show WpS _ _
        simp only [wp_ok, wp_bind, wp_ite, wps_some, wps_none, wps_ite, wps_bind, wps_seq, seqK_nx, seqK_rt, seqK_xc, seqK_ct, seqK_bk, fnK_rt, fnK_nx, eVar, eC, eSeq2, eSeq1, eNil, eCons, eTB, eTru, tAndD, tOrD, tNotD, eNot, eAnd, eOr, eIf, sNil, sBad, sIf, sRet, sExpr, sAsg, gSet, svR, frz, frzR, eB, eCall, eArity, eLst, eTup, treesM, tYesD, eChain, dat, truth, List.getElem?_cons_zero, List.getElem?_cons_succ, List.set_cons_zero, List.set_cons_succ, List.map_cons, List.map_nil, List.length_cons, List.length_nil, Nat.reduceAdd, if_true, if_false, Bool.false_eq_true, decide_true, decide_false, Bool.not_true, Bool.not_false, frzL, take_len, and_true, true_and, setAll, listed_seq, len_seq, neI', c2]
        refine wp_lcm (fun _ => .bl true) (wp_eq (iOf_seq c' _ rfl) ⟨by omega, fun d hd => ?_, ?_⟩)
        · obtain ⟨i, _, rfl⟩ := List.mem_map.mp hd
          refine ⟨_, rfl, wp_eq (isNumber i M') ⟨rfl, rfl⟩⟩
        · rw [List.map_const']
          simp only [wp_ok, wp_bind, wp_ite, wps_some, wps_none, wps_ite, wps_bind, wps_seq, seqK_nx, seqK_rt, seqK_xc, seqK_ct, seqK_bk, fnK_rt, fnK_nx, eVar, eC, eSeq2, eSeq1, eNil, eCons, eTB, eTru, tAndD, tOrD, tNotD, eNot, eAnd, eOr, eIf, sNil, sBad, sIf, sRet, sExpr, sAsg, gSet, svR, frz, frzR, eB, eCall, eArity, eLst, eTup, treesM, tYesD, eChain, dat, truth, List.getElem?_cons_zero, List.getElem?_cons_succ, List.set_cons_zero, List.set_cons_succ, List.map_cons, List.map_nil, List.length_cons, List.length_nil, Nat.reduceAdd, if_true, if_false, Bool.false_eq_true, decide_true, decide_false, Bool.not_true, Bool.not_false, frzL, take_len, and_true, true_and, all_true]
          exact ⟨_, _, _, rfl⟩
    · subst e1; subst e2
      simp only [wp_ok, wp_bind, wp_ite, wps_some, wps_none, wps_ite, wps_bind, wps_seq, seqK_nx, seqK_rt, seqK_xc, seqK_ct, seqK_bk, fnK_rt, fnK_nx, eVar, eC, eSeq2, eSeq1, eNil, eCons, eTB, eTru, tAndD, tOrD, tNotD, eNot, eAnd, eOr, eIf, sNil, sBad, sIf, sRet, sExpr, sAsg, gSet, svR, frz, frzR, eB, eCall, eArity, eLst, eTup, treesM, tYesD, eChain, dat, truth, List.getElem?_cons_zero, List.getElem?_cons_succ, List.set_cons_zero, List.set_cons_succ, List.map_cons, List.map_nil, List.length_cons, List.length_nil, Nat.reduceAdd, if_true, if_false, Bool.false_eq_true, decide_true, decide_false, Bool.not_true, Bool.not_false, frzL, take_len, and_true, true_and]))
/-! ### the class -/
def tabF (l r : List (List Nat)) (g : List (List Int)) : List (Str × D) := [("left_kinds", tpD (kd l)), ("right_kinds", tpD (kd r)), ("value_rows", tpD (g.map fun r => tpD (ri r))), ("cells", .lst (ri g.flatten))]
def tabD (l r : List (List Nat)) (g : List (List Int)) : D := .ins "Table" (tabF l r g)
def tabT (l r : List (List Nat)) (g : List (List Int)) : T := .ins "Table" [("left_kinds", .d (tpD (kd l))), ("right_kinds", .d (tpD (kd r))), ("value_rows", .d (tpD (g.map fun r => tpD (ri r)))), ("cells", .lst ((ri g.flatten).map T.d))]
structure Tb (l r : List (List Nat)) (g : List (List Int)) : Prop where
  hl : Sd l
  hr : Sd r
  hg : Rc g l.length r.length
theorem tup_seq (c : Bool) (ds : List D) (M : Mst) : tuplePR [.t (.d (seqD c ds))] M = .ok (.t (.d (tpD ds))) M := by cases c <;> rfl
theorem tup_lst (ds : List D) (M : Mst) : tuplePR [.t (.lst (ds.map T.d))] M = .ok (.t (.d (tpD ds))) M := by
  show (match src M (.t (.lst (ds.map T.d))) with
    | some (.l ds, M1) => Out.ok (R.t (.d (.tupP true ds))) M1
    | _ => .bad) = _
  rw [src_lst]
theorem wps_fld {cs : List Str} {f c : Str} {Fv Fo : Den} {ρ : Ev} {k : Nat} {fs : List (Str × T)} {d : D} {M1 : Mst} {Φ : Fl → Mst → Prop} (hv : Fv ρ M = .ok (.t (.d d)) M1 ∨ ∃ r, Fv ρ M = .ok r M1 ∧ frzR M1 r = d ∧ frzM M1 r = M1)
    (ho : Fo ρ M1 = .ok (.h k) M1) (hk : M1[k]? = some (.ins c fs)) (hc : cs.contains c = true) (hl : fs.length < 1000) (q : Φ (.nx ρ) (M1.set k (.ins c (putT f (.d d) fs)))) : WpS (sFldD cs f Fv Fo ρ M) Φ := by
  obtain ⟨r, h1, h2, h3⟩ : ∃ r, Fv ρ M = .ok r M1 ∧ frzR M1 r = d ∧ frzM M1 r = M1 := hv.elim (fun h => ⟨_, h, rfl, rfl⟩) id
  unfold sFldD
  rw [h1]
  show WpS (bindS (Fo ρ (frzM M1 r)) ρ _) Φ
  rw [h3, ho]
  show WpS (match M1[k]? with
    | some (.ins c fs) => if cs.contains c = true ∧ fs.length < 1000 then some (.nx ρ, M1.set k (.ins c (putT f (.d (frzR M1 r)) fs))) else none
    | _ => none) Φ
  rw [hk]
  show WpS (if cs.contains c = true ∧ fs.length < 1000 then some (.nx ρ, M1.set k (.ins c (putT f (.d (frzR M1 r)) fs))) else none) Φ
  rw [if_pos ⟨hc, hl⟩, h2]
  exact ⟨q⟩
/-- the numbers of all rows, one behind the other -/
theorem lc2_flat {f : Den} {ρ : Ev} {M : Mst} {g1 g2 : Nat} {own own1 : List Nat} {G1 : DenI} (hG : ∀ (r : List Int), ∃ ρ1, setT (.one g1) (tpD (ri r)) (wipeE ρ own) = some ρ1 ∧ G1 ρ1 M = .ok (ri r) M ∧ ∀ i : Int, ∃ ρ2, setT (.one g2) (.int i) (wipeE ρ1 own1) = some ρ2 ∧ f ρ2 M = .ok (.t (.d (.int i))) M) :
    ∀ (g : List (List Int)) (acc : List Int), acc.length + g.flatten.length ≤ 1000000 → lcL2 (.one g1) own tYesD G1 (.one g2) own1 tYesD f ρ (g.map fun r => tpD (ri r)) ((ri acc).map T.d) M = .ok ((ri (acc ++ g.flatten)).map T.d) M := by
  intro g
  induction g with
  | nil => intro acc _; simp [lcL2]
  | cons r g ih =>
    intro acc hl
    obtain ⟨ρ1, e1, e2, e3⟩ := hG r
    rw [List.flatten_cons, List.length_append] at hl
    rw [List.map_cons]
    unfold lcL2
    rw [e1]
    have k1 := lc_map (g := .one g2) (own := own1) (c := tYesD) (f := f) (ρ := ρ1) (M := M) id (ri r) (fun d hd => by
      obtain ⟨i, _, rfl⟩ := List.mem_map.mp hd
      obtain ⟨ρ2, q1, q2⟩ := e3 i
      exact ⟨ρ2, q1, rfl, q2⟩) ((ri acc).map T.d) (by simp; omega)
    simp only [tYesD, noX, Out.bind, if_true, e2]
    rw [k1]
    show lcL2 (.one g1) own tYesD G1 (.one g2) own1 tYesD f ρ (g.map fun r => tpD (ri r)) ((ri acc).map T.d ++ ((ri r).map id).map T.d) M = _
    rw [List.map_id, ← List.map_append, ← List.map_append, ih (acc ++ r) (by rw [List.length_append]; omega)]
    simp
theorem len_flat {g : List (List Int)} {h w : Nat} (H : Rc g h w) : g.flatten.length = h * w := by
  obtain ⟨h1, h2⟩ := H
  subst h1
  induction g with
  | nil => simp
  | cons r g ih =>
    rw [List.flatten_cons, List.length_append, ih fun r hr => h2 r (List.mem_cons_of_mem _ hr), h2 r List.mem_cons_self, List.length_cons, Nat.succ_mul]
    omega
theorem small {a b : Nat} (h1 : a ≤ 5) (h2 : b ≤ 5) : a * b ≤ 25 := Nat.mul_le_mul h1 h2
theorem k12 : ¬ ("left_kinds" : Str) = "right_kinds" := by decide +kernel
theorem k13 : ¬ ("left_kinds" : Str) = "value_rows" := by decide +kernel
theorem k14 : ¬ ("left_kinds" : Str) = "cells" := by decide +kernel
theorem k23 : ¬ ("right_kinds" : Str) = "value_rows" := by decide +kernel
theorem k24 : ¬ ("right_kinds" : Str) = "cells" := by decide +kernel
theorem k34 : ¬ ("value_rows" : Str) = "cells" := by decide +kernel
theorem lk_eq {α : Type} (x : Str) (a : α) (r : List (Str × α)) : List.lookup x ((x, a) :: r) = some a := by rw [List.lookup_cons, beq_self_eq_true]
theorem lk_ne {α : Type} {x y : Str} (a : α) (r : List (Str × α)) (h : ¬ y = x) : List.lookup x ((y, a) :: r) = List.lookup x r := by rw [List.lookup_cons, show (x == y) = false from beq_eq_false_iff_ne.mpr fun z => h z.symm]
theorem rows_ev (c3 c4 : Bool) (g : List (List Int)) (hg : g.length ≤ 1000) (M : Mst) {ρ : Ev} (i j : Nat) (hρ : ρ[i]? = some (some (.d (seqD c3 (g.map fun r => seqD c4 (ri r)))))) (hj : j < ρ.length) :
    eB tuplePR (eCons (eLc (iOf (eVar i)) (.one j) [j] tYesD (eB tuplePR (eCons (eVar j) eNil))) eNil) ρ M = .ok (.t (.d (tpD (g.map fun r => tpD (ri r))))) M := by
  have e0 : eVar i ρ M = .ok (.t (.d (seqD c3 (g.map fun r => seqD c4 (ri r))))) M := by unfold eVar; rw [hρ]
  have e1 : iOf (eVar i) ρ M = .ok (g.map fun r => seqD c4 (ri r)) M := iOf_seq c3 _ e0
  have e2 := lc_map (g := .one j) (own := [j]) (c := tYesD) (f := eB tuplePR (eCons (eVar j) eNil)) (ρ := ρ) (M := M) (fun d => match d with | .lst ds => tpD ds | x => x) (g.map fun r => seqD c4 (ri r)) (fun d hd => by
    obtain ⟨r, _, rfl⟩ := List.mem_map.mp hd
    refine ⟨_, rfl, rfl, ?_⟩
    have e3 : eVar j ((wipeE ρ [j]).set j (some (.d (seqD c4 (ri r))))) M = .ok (.t (.d (seqD c4 (ri r)))) M := by
      unfold eVar
      rw [List.getElem?_set_self (by simpa [wipeE] using hj)]
    simp only [eB, eCons, eNil, Out.bind, e3, tup_seq]
    cases c4 <;> rfl) [] (by simp; omega)
  have e4 : (g.map fun r => seqD c4 (ri r)).map (fun d => match d with | .lst ds => tpD ds | x => x) = g.map fun r => tpD (ri r) := by
    rw [List.map_map]
    refine List.map_congr_left fun r _ => ?_
    cases c4 <;> rfl
  rw [e4] at e2
  simp only [eB, eCons, eNil, Out.bind, eLc, e1, e2, List.nil_append]
  exact tup_lst _ M
theorem wps_fldT {cs : List Str} {f c : Str} {Fv : Den} {j : Nat} {ρ : Ev} {k : Nat} {fs : List (Str × T)} {x : T} {M1 : Mst} {Φ : Fl → Mst → Prop} (hv : Fv ρ M = .ok (.t x) M1) (hj : ρ[j]? = some (some (.h k))) (hk : M1[k]? = some (.ins c fs)) (hc : cs.contains c = true) (hl : fs.length < 1000) (hf : fs.lookup f = none) (q : Φ (.nx ρ) (M1.set k (.ins c (fs ++ [(f, x)])))) : WpS (sFldT cs f Fv j ρ M) Φ := by
  unfold sFldT
  rw [hv]
  simp only [bindS, hj, hk]
  rw [if_pos ⟨hc, hl, hf⟩]
  exact ⟨q⟩
theorem tableInit (c1 c2 c3 c4 : Bool) {l r : List (List Nat)} {g : List (List Int)} (H : Tb l r g) {k : Nat} (hk : M[k]? = some (.ins "Table" [])) :
    m_Table_init [.h k, .d (seqD c1 (kd l)), .d (seqD c2 (kd r)), .d (seqD c3 (g.map fun r => seqD c4 (ri r)))] M = .ok (.t (.d .non)) (M.set k (tabT l r g)) :=
  have hkl : k < M.length := (List.getElem?_eq_some_iff.mp hk).1
  ok_of (wp_fn (ρ := [some (.h k), some (.d (seqD c1 (kd l))), some (.d (seqD c2 (kd r))), some (.d (seqD c3 (g.map fun r => seqD c4 (ri r)))), none, none]) rfl (by
    have gl : (kd l).length = l.length := List.length_map _
    have gr : (kd r).length = r.length := List.length_map _
    unfold b_Table_init
    rw [wps_seq]; unfold t_Table_init_0; simp only [wp_ok, wp_bind, wp_ite, wps_some, wps_none, wps_ite, wps_bind, wps_seq, seqK_nx, seqK_rt, seqK_xc, seqK_ct, seqK_bk, fnK_rt, fnK_nx, eVar, eC, eSeq2, eSeq1, eNil, eCons, eTB, eTru, tAndD, tOrD, tNotD, eNot, eAnd, eOr, eIf, sNil, sBad, sIf, sRet, sExpr, sAsg, gSet, svR, frz, frzR, eB, eCall, eArity, eLst, eTup, treesM, tYesD, eChain, dat, truth, List.getElem?_cons_zero, List.getElem?_cons_succ, List.set_cons_zero, List.set_cons_succ, List.map_cons, List.map_nil, List.length_cons, List.length_nil, Nat.reduceAdd, if_true, if_false, Bool.false_eq_true, decide_true, decide_false, Bool.not_true, Bool.not_false, frzL, take_len, and_true, true_and, checkKinds c1 H.hl]
    unfold t_Table_init_1; simp only [wp_ok, wp_bind, wp_ite, wps_some, wps_none, wps_ite, wps_bind, wps_seq, seqK_nx, seqK_rt, seqK_xc, seqK_ct, seqK_bk, fnK_rt, fnK_nx, eVar, eC, eSeq2, eSeq1, eNil, eCons, eTB, eTru, tAndD, tOrD, tNotD, eNot, eAnd, eOr, eIf, sNil, sBad, sIf, sRet, sExpr, sAsg, gSet, svR, frz, frzR, eB, eCall, eArity, eLst, eTup, treesM, tYesD, eChain, dat, truth, List.getElem?_cons_zero, List.getElem?_cons_succ, List.set_cons_zero, List.set_cons_succ, List.map_cons, List.map_nil, List.length_cons, List.length_nil, Nat.reduceAdd, if_true, if_false, Bool.false_eq_true, decide_true, decide_false, Bool.not_true, Bool.not_false, frzL, take_len, and_true, true_and, checkKinds c2 H.hr]
    unfold t_Table_init_2; simp only [wp_ok, wp_bind, wp_ite, wps_some, wps_none, wps_ite, wps_bind, wps_seq, seqK_nx, seqK_rt, seqK_xc, seqK_ct, seqK_bk, fnK_rt, fnK_nx, eVar, eC, eSeq2, eSeq1, eNil, eCons, eTB, eTru, tAndD, tOrD, tNotD, eNot, eAnd, eOr, eIf, sNil, sBad, sIf, sRet, sExpr, sAsg, gSet, svR, frz, frzR, eB, eCall, eArity, eLst, eTup, treesM, tYesD, eChain, dat, truth, List.getElem?_cons_zero, List.getElem?_cons_succ, List.set_cons_zero, List.set_cons_succ, List.map_cons, List.map_nil, List.length_cons, List.length_nil, Nat.reduceAdd, if_true, if_false, Bool.false_eq_true, decide_true, decide_false, Bool.not_true, Bool.not_false, frzL, take_len, and_true, true_and, len_seq, gl, gr, checkValues c3 c4 H.hg (by have := H.hl.l5; omega) (by have := H.hr.l5; omega)]
    unfold t_Table_init_3
    refine wps_fld (c := "Table") (k := k) (d := tpD (kd l)) (.inl (tup_seq c1 (kd l) M)) rfl hk rfl (by decide) ?_
    rw [seqK_nx, wps_seq]
    unfold t_Table_init_4
    refine wps_fld (c := "Table") (k := k) (d := tpD (kd r)) (.inl (tup_seq c2 (kd r) _)) rfl (List.getElem?_set_self hkl) rfl (by show 1 < 1000; decide) ?_
    rw [seqK_nx, wps_seq, set_set']
    unfold t_Table_init_5
    have hg5 : g.length ≤ 1000 := by have := H.hg.1; have := H.hl.l5; omega
    refine wps_fld (c := "Table") (k := k) (d := tpD (g.map fun r => tpD (ri r))) (.inl (rows_ev c3 c4 g hg5 _ 3 4 rfl (by simp))) rfl (List.getElem?_set_self hkl) rfl ?_ ?_
    · simp only [putT, if_neg k12]; show 2 < 1000; decide
    rw [seqK_nx, set_set']
    unfold t_Table_init_6
    refine wps_fldT (j := 0) (fs := putT "value_rows" (.d (tpD (g.map fun r => tpD (ri r)))) (putT "right_kinds" (.d (tpD (kd r))) (putT "left_kinds" (.d (tpD (kd l))) []))) (c := "Table") (k := k) (x := .lst ((ri g.flatten).map T.d)) ?_ rfl (List.getElem?_set_self hkl) rfl ?_ ?_ ?_
    · have e1 : iOf (eFld ["Table"] "value_rows" (eVar 0)) [some (.h k), some (.d (seqD c1 (kd l))), some (.d (seqD c2 (kd r))), some (.d (seqD c3 (g.map fun r => seqD c4 (ri r)))), none, none] (M.set k (.ins "Table" (putT "value_rows" (.d (tpD (g.map fun r => tpD (ri r)))) (putT "right_kinds" (.d (tpD (kd r))) (putT "left_kinds" (.d (tpD (kd l))) []))))) = .ok (g.map fun r => tpD (ri r)) (M.set k (.ins "Table" (putT "value_rows" (.d (tpD (g.map fun r => tpD (ri r)))) (putT "right_kinds" (.d (tpD (kd r))) (putT "left_kinds" (.d (tpD (kd l))) []))))) := by
        refine iOf_seq true _ ?_
        simp only [putT, if_neg k12, if_neg k13, if_neg k23]
        simp only [eFld, eSeq1, eVar, List.getElem?_cons_zero, Out.bind, fldR, getD_of (List.getElem?_set_self hkl)]
        rw [if_pos (by decide), lk_ne _ _ k13, lk_ne _ _ k23, lk_eq]
        rfl
      have e2 := lc2_flat (f := eVar 5) (ρ := [some (.h k), some (.d (seqD c1 (kd l))), some (.d (seqD c2 (kd r))), some (.d (seqD c3 (g.map fun r => seqD c4 (ri r)))), none, none]) (M := M.set k (.ins "Table" (putT "value_rows" (.d (tpD (g.map fun r => tpD (ri r)))) (putT "right_kinds" (.d (tpD (kd r))) (putT "left_kinds" (.d (tpD (kd l))) []))))) (g1 := 4) (g2 := 5) (own := [4, 5]) (own1 := [5]) (G1 := iOf (eVar 4))
        (fun r => ⟨_, rfl, rfl, fun i => ⟨_, rfl, rfl⟩⟩) g [] (by
          have := len_flat H.hg
          have := small H.hl.l5 H.hr.l5
          simp only [List.length_nil]; omega)
      simp only [eLc2, Out.bind, e1]
      rw [show ([] : List T) = (ri []).map T.d from rfl, e2]
      simp only [List.nil_append]
    · simp only [putT, if_neg k12, if_neg k13, if_neg k23]; show 3 < 1000; decide
    · simp only [putT, if_neg k12, if_neg k13, if_neg k23]
      rw [lk_ne _ _ k14, lk_ne _ _ k24, lk_ne _ _ k34]; rfl
    · simp only [putT, if_neg k12, if_neg k13, if_neg k23, set_set', List.cons_append, List.nil_append]
      rw [fnK_nx, show M.length = (M.set k (tabT l r g)).length by simp]
      exact ⟨rfl, List.take_length⟩))
end
end Toy

/-! numbers and grids that are drawn -/
namespace Toy
open PySem L2 DL
section
variable {M0 M M1 M' : Mst} {k : Nat}
theorem RD.trans (h1 : RD k M0 M) (h2 : RD k M M') : RD k M0 M' := by
  obtain ⟨_, _, _, _, _, e1⟩ := h1
  obtain ⟨cs, p, r, s, q, e2⟩ := h2
  exact ⟨cs, p, r, s, q, by rw [e2, e1, set_set']⟩
theorem RD.refl (h : RD k M0 M) : RD k M M := by
  obtain ⟨cs, p, r, s, q, _⟩ := h
  exact RD.self q
theorem RD.lt (h : RD k M0 M) : k < M.length := by
  obtain ⟨cs, p, r, s, q, _⟩ := h
  exact q.lt
theorem RD.push (h : RD k M0 M) (x : T) : RD k (M ++ [x]) (M ++ [x]) := by
  obtain ⟨cs, p, r, s, q, _⟩ := h
  exact RD.self (cs := cs) (p := p) (r := r) (s := s) ⟨by rw [List.getElem?_append_left q.lt]; exact q.at_, q.p0, q.s0, q.s1⟩
theorem RD.app {x : T} (hk : k < M.length) (h : RD k (M ++ [x]) M1) : ∃ M', M1 = M' ++ [x] ∧ RD k M M' := by
  obtain ⟨cs, p, r, s, q, e⟩ := h
  have e1 : M1 = M.set k (reelT cs p r s) ++ [x] := by rw [e, List.set_append_left _ _ hk]
  refine ⟨_, e1, cs, p, r, s, ⟨List.getElem?_set_self hk, q.p0, q.s0, q.s1⟩, rfl⟩
theorem outOf_rt2 {n : Nat} (x : T) (h : M'.length = n) : outOf n (some (.rt (.t x), M')) = .ok (.t x) M' := outOf_rt _ _ _ h
theorem RD.takeL (h : RD k M M') : M'.take M.length = M' := by rw [← h.len, List.take_length]
/-- a def that draws: its end -/
theorem fnK_rd {Q : R → Mst → Prop} {E : Exc → Mst → Prop} {x : T} (h : RD k M M') (q : Q (.t x) M') : fnK M.length Q E (.rt (.t x)) M' := by
  rw [fnK_rt, ← h.len, List.take_length]
  exact q
theorem Wp.draw {Q : R → Mst → Prop} {E : Exc → Mst → Prop} (h : RD k M0 M) {size : Int} (hs : 0 < size) (h60 : size < 10 ^ 60) (q : ∀ i M', 0 ≤ i → i < size → RD k M0 M' → RD k M M' → Q (.t (.d (.int i))) M') : Wp (m_zdraw [.h k, .d (.int size)] M) Q E := by
  obtain ⟨i, M', h1, h2, h3, h4⟩ := h.refl.draw hs h60
  rw [h1]
  exact ⟨q i M' h2 h3 (h.trans h4) h4⟩
theorem pow29 (M : Mst) : powR (.t (.d (.int 10))) (.t (.d (.int 29))) M = .ok (.t (.d (.int 100000000000000000000000000000))) M := rfl
def NumOk (i : Int) : Prop := -100000000000000000000000000000 ≤ i ∧ i ≤ 100000000000000000000000000000
theorem number (h : RD k M0 M) : ∃ i M', m_znumber [.h k] M = .ok (.t (.d (.int i))) M' ∧ NumOk i ∧ RD k M0 M' := by
  have main : Wp (m_znumber [.h k] M) (fun r M' => ∃ i, r = .t (.d (.int i)) ∧ NumOk i ∧ RD k M M') (fun _ _ => False) := by
    refine wp_fn (ρ := [some (.h k), none]) rfl ?_
    unfold b_znumber
    rw [wps_seq]
    unfold t_znumber_0
    simp only [wp_ok, wp_bind, wp_ite, wps_some, wps_none, wps_ite, wps_bind, wps_seq, seqK_nx, seqK_rt, seqK_xc, seqK_ct, seqK_bk, fnK_rt, fnK_nx, eVar, eC, eSeq2, eSeq1, eNil, eCons, eTB, eTru, tAndD, tOrD, tNotD, eNot, eAnd, eOr, eIf, sNil, sBad, sIf, sRet, sExpr, sAsg, gSet, svR, frz, frzR, eB, eCall, eArity, eLst, eTup, treesM, tYesD, eChain, dat, truth, List.getElem?_cons_zero, List.getElem?_cons_succ, List.set_cons_zero, List.set_cons_succ, List.map_cons, List.map_nil, List.length_cons, List.length_nil, Nat.reduceAdd, if_true, if_false, Bool.false_eq_true, decide_true, decide_false, Bool.not_true, Bool.not_false, frzL, take_len, and_true, true_and]
    refine Wp.draw h (by decide) (by decide) fun way M1 w0 w4 _ r1 => ?_
    simp only [wp_ok, wp_bind, wp_ite, wps_some, wps_none, wps_ite, wps_bind, wps_seq, seqK_nx, seqK_rt, seqK_xc, seqK_ct, seqK_bk, fnK_rt, fnK_nx, eVar, eC, eSeq2, eSeq1, eNil, eCons, eTB, eTru, tAndD, tOrD, tNotD, eNot, eAnd, eOr, eIf, sNil, sBad, sIf, sRet, sExpr, sAsg, gSet, svR, frz, frzR, eB, eCall, eArity, eLst, eTup, treesM, tYesD, eChain, dat, truth, List.getElem?_cons_zero, List.getElem?_cons_succ, List.set_cons_zero, List.set_cons_succ, List.map_cons, List.map_nil, List.length_cons, List.length_nil, Nat.reduceAdd, if_true, if_false, Bool.false_eq_true, decide_true, decide_false, Bool.not_true, Bool.not_false, frzL, take_len, and_true, true_and]
    unfold t_znumber_1
    simp only [wp_ok, wp_bind, wp_ite, wps_some, wps_none, wps_ite, wps_bind, wps_seq, seqK_nx, seqK_rt, seqK_xc, seqK_ct, seqK_bk, fnK_rt, fnK_nx, eVar, eC, eSeq2, eSeq1, eNil, eCons, eTB, eTru, tAndD, tOrD, tNotD, eNot, eAnd, eOr, eIf, sNil, sBad, sIf, sRet, sExpr, sAsg, gSet, svR, frz, frzR, eB, eCall, eArity, eLst, eTup, treesM, tYesD, eChain, dat, truth, List.getElem?_cons_zero, List.getElem?_cons_succ, List.set_cons_zero, List.set_cons_succ, List.map_cons, List.map_nil, List.length_cons, List.length_nil, Nat.reduceAdd, if_true, if_false, Bool.false_eq_true, decide_true, decide_false, Bool.not_true, Bool.not_false, frzL, take_len, and_true, true_and, eqI]
    by_cases c0 : way = 0
    · simp only [wp_ok, wp_bind, wp_ite, wps_some, wps_none, wps_ite, wps_bind, wps_seq, seqK_nx, seqK_rt, seqK_xc, seqK_ct, seqK_bk, fnK_rt, fnK_nx, eVar, eC, eSeq2, eSeq1, eNil, eCons, eTB, eTru, tAndD, tOrD, tNotD, eNot, eAnd, eOr, eIf, sNil, sBad, sIf, sRet, sExpr, sAsg, gSet, svR, frz, frzR, eB, eCall, eArity, eLst, eTup, treesM, tYesD, eChain, dat, truth, List.getElem?_cons_zero, List.getElem?_cons_succ, List.set_cons_zero, List.set_cons_succ, List.map_cons, List.map_nil, List.length_cons, List.length_nil, Nat.reduceAdd, if_true, if_false, Bool.false_eq_true, decide_true, decide_false, Bool.not_true, Bool.not_false, frzL, take_len, and_true, true_and, c0]
      refine Wp.draw (h.trans r1) (by decide) (by decide) fun i M2 i0 i1 _ r2 => ?_
      simp only [wp_ok, wp_bind, wp_ite, wps_some, wps_none, wps_ite, wps_bind, wps_seq, seqK_nx, seqK_rt, seqK_xc, seqK_ct, seqK_bk, fnK_rt, fnK_nx, eVar, eC, eSeq2, eSeq1, eNil, eCons, eTB, eTru, tAndD, tOrD, tNotD, eNot, eAnd, eOr, eIf, sNil, sBad, sIf, sRet, sExpr, sAsg, gSet, svR, frz, frzR, eB, eCall, eArity, eLst, eTup, treesM, tYesD, eChain, dat, truth, List.getElem?_cons_zero, List.getElem?_cons_succ, List.set_cons_zero, List.set_cons_succ, List.map_cons, List.map_nil, List.length_cons, List.length_nil, Nat.reduceAdd, if_true, if_false, Bool.false_eq_true, decide_true, decide_false, Bool.not_true, Bool.not_false, frzL, take_len, and_true, true_and, subI]
      rw [(r1.trans r2).takeL]
      exact ⟨_, rfl, ⟨by omega, by omega⟩, r1.trans r2⟩
    · simp only [wp_ok, wp_bind, wp_ite, wps_some, wps_none, wps_ite, wps_bind, wps_seq, seqK_nx, seqK_rt, seqK_xc, seqK_ct, seqK_bk, fnK_rt, fnK_nx, eVar, eC, eSeq2, eSeq1, eNil, eCons, eTB, eTru, tAndD, tOrD, tNotD, eNot, eAnd, eOr, eIf, sNil, sBad, sIf, sRet, sExpr, sAsg, gSet, svR, frz, frzR, eB, eCall, eArity, eLst, eTup, treesM, tYesD, eChain, dat, truth, List.getElem?_cons_zero, List.getElem?_cons_succ, List.set_cons_zero, List.set_cons_succ, List.map_cons, List.map_nil, List.length_cons, List.length_nil, Nat.reduceAdd, if_true, if_false, Bool.false_eq_true, decide_true, decide_false, Bool.not_true, Bool.not_false, frzL, take_len, and_true, true_and, c0]
      unfold t_znumber_2
      simp only [wp_ok, wp_bind, wp_ite, wps_some, wps_none, wps_ite, wps_bind, wps_seq, seqK_nx, seqK_rt, seqK_xc, seqK_ct, seqK_bk, fnK_rt, fnK_nx, eVar, eC, eSeq2, eSeq1, eNil, eCons, eTB, eTru, tAndD, tOrD, tNotD, eNot, eAnd, eOr, eIf, sNil, sBad, sIf, sRet, sExpr, sAsg, gSet, svR, frz, frzR, eB, eCall, eArity, eLst, eTup, treesM, tYesD, eChain, dat, truth, List.getElem?_cons_zero, List.getElem?_cons_succ, List.set_cons_zero, List.set_cons_succ, List.map_cons, List.map_nil, List.length_cons, List.length_nil, Nat.reduceAdd, if_true, if_false, Bool.false_eq_true, decide_true, decide_false, Bool.not_true, Bool.not_false, frzL, take_len, and_true, true_and, eqI]
      by_cases c1 : way = 1
      · simp only [wp_ok, wp_bind, wp_ite, wps_some, wps_none, wps_ite, wps_bind, wps_seq, seqK_nx, seqK_rt, seqK_xc, seqK_ct, seqK_bk, fnK_rt, fnK_nx, eVar, eC, eSeq2, eSeq1, eNil, eCons, eTB, eTru, tAndD, tOrD, tNotD, eNot, eAnd, eOr, eIf, sNil, sBad, sIf, sRet, sExpr, sAsg, gSet, svR, frz, frzR, eB, eCall, eArity, eLst, eTup, treesM, tYesD, eChain, dat, truth, List.getElem?_cons_zero, List.getElem?_cons_succ, List.set_cons_zero, List.set_cons_succ, List.map_cons, List.map_nil, List.length_cons, List.length_nil, Nat.reduceAdd, if_true, if_false, Bool.false_eq_true, decide_true, decide_false, Bool.not_true, Bool.not_false, frzL, take_len, and_true, true_and, c1]
        refine Wp.draw (h.trans r1) (by decide) (by decide) fun i M2 i0 i1 _ r2 => ?_
        simp only [wp_ok, wp_bind, wp_ite, wps_some, wps_none, wps_ite, wps_bind, wps_seq, seqK_nx, seqK_rt, seqK_xc, seqK_ct, seqK_bk, fnK_rt, fnK_nx, eVar, eC, eSeq2, eSeq1, eNil, eCons, eTB, eTru, tAndD, tOrD, tNotD, eNot, eAnd, eOr, eIf, sNil, sBad, sIf, sRet, sExpr, sAsg, gSet, svR, frz, frzR, eB, eCall, eArity, eLst, eTup, treesM, tYesD, eChain, dat, truth, List.getElem?_cons_zero, List.getElem?_cons_succ, List.set_cons_zero, List.set_cons_succ, List.map_cons, List.map_nil, List.length_cons, List.length_nil, Nat.reduceAdd, if_true, if_false, Bool.false_eq_true, decide_true, decide_false, Bool.not_true, Bool.not_false, frzL, take_len, and_true, true_and]
        rw [(r1.trans r2).takeL]
        exact ⟨_, rfl, ⟨by omega, by omega⟩, r1.trans r2⟩
      · simp only [wp_ok, wp_bind, wp_ite, wps_some, wps_none, wps_ite, wps_bind, wps_seq, seqK_nx, seqK_rt, seqK_xc, seqK_ct, seqK_bk, fnK_rt, fnK_nx, eVar, eC, eSeq2, eSeq1, eNil, eCons, eTB, eTru, tAndD, tOrD, tNotD, eNot, eAnd, eOr, eIf, sNil, sBad, sIf, sRet, sExpr, sAsg, gSet, svR, frz, frzR, eB, eCall, eArity, eLst, eTup, treesM, tYesD, eChain, dat, truth, List.getElem?_cons_zero, List.getElem?_cons_succ, List.set_cons_zero, List.set_cons_succ, List.map_cons, List.map_nil, List.length_cons, List.length_nil, Nat.reduceAdd, if_true, if_false, Bool.false_eq_true, decide_true, decide_false, Bool.not_true, Bool.not_false, frzL, take_len, and_true, true_and, c1]
        unfold t_znumber_3
        simp only [wp_ok, wp_bind, wp_ite, wps_some, wps_none, wps_ite, wps_bind, wps_seq, seqK_nx, seqK_rt, seqK_xc, seqK_ct, seqK_bk, fnK_rt, fnK_nx, eVar, eC, eSeq2, eSeq1, eNil, eCons, eTB, eTru, tAndD, tOrD, tNotD, eNot, eAnd, eOr, eIf, sNil, sBad, sIf, sRet, sExpr, sAsg, gSet, svR, frz, frzR, eB, eCall, eArity, eLst, eTup, treesM, tYesD, eChain, dat, truth, List.getElem?_cons_zero, List.getElem?_cons_succ, List.set_cons_zero, List.set_cons_succ, List.map_cons, List.map_nil, List.length_cons, List.length_nil, Nat.reduceAdd, if_true, if_false, Bool.false_eq_true, decide_true, decide_false, Bool.not_true, Bool.not_false, frzL, take_len, and_true, true_and, eqI]
        by_cases c2 : way = 2
        · simp only [wp_ok, wp_bind, wp_ite, wps_some, wps_none, wps_ite, wps_bind, wps_seq, seqK_nx, seqK_rt, seqK_xc, seqK_ct, seqK_bk, fnK_rt, fnK_nx, eVar, eC, eSeq2, eSeq1, eNil, eCons, eTB, eTru, tAndD, tOrD, tNotD, eNot, eAnd, eOr, eIf, sNil, sBad, sIf, sRet, sExpr, sAsg, gSet, svR, frz, frzR, eB, eCall, eArity, eLst, eTup, treesM, tYesD, eChain, dat, truth, List.getElem?_cons_zero, List.getElem?_cons_succ, List.set_cons_zero, List.set_cons_succ, List.map_cons, List.map_nil, List.length_cons, List.length_nil, Nat.reduceAdd, if_true, if_false, Bool.false_eq_true, decide_true, decide_false, Bool.not_true, Bool.not_false, frzL, take_len, and_true, true_and, c2, pow29, mulI 2 100000000000000000000000000000 _ (mulC_l _ _ (by decide)), addI]
          refine Wp.draw (h.trans r1) (by decide) (by decide) fun i M2 i0 i1 _ r2 => ?_
          simp only [wp_ok, wp_bind, wp_ite, wps_some, wps_none, wps_ite, wps_bind, wps_seq, seqK_nx, seqK_rt, seqK_xc, seqK_ct, seqK_bk, fnK_rt, fnK_nx, eVar, eC, eSeq2, eSeq1, eNil, eCons, eTB, eTru, tAndD, tOrD, tNotD, eNot, eAnd, eOr, eIf, sNil, sBad, sIf, sRet, sExpr, sAsg, gSet, svR, frz, frzR, eB, eCall, eArity, eLst, eTup, treesM, tYesD, eChain, dat, truth, List.getElem?_cons_zero, List.getElem?_cons_succ, List.set_cons_zero, List.set_cons_succ, List.map_cons, List.map_nil, List.length_cons, List.length_nil, Nat.reduceAdd, if_true, if_false, Bool.false_eq_true, decide_true, decide_false, Bool.not_true, Bool.not_false, frzL, take_len, and_true, true_and, pow29, subI]
          rw [(r1.trans r2).takeL]
          exact ⟨_, rfl, ⟨by omega, by omega⟩, r1.trans r2⟩
        · simp only [wp_ok, wp_bind, wp_ite, wps_some, wps_none, wps_ite, wps_bind, wps_seq, seqK_nx, seqK_rt, seqK_xc, seqK_ct, seqK_bk, fnK_rt, fnK_nx, eVar, eC, eSeq2, eSeq1, eNil, eCons, eTB, eTru, tAndD, tOrD, tNotD, eNot, eAnd, eOr, eIf, sNil, sBad, sIf, sRet, sExpr, sAsg, gSet, svR, frz, frzR, eB, eCall, eArity, eLst, eTup, treesM, tYesD, eChain, dat, truth, List.getElem?_cons_zero, List.getElem?_cons_succ, List.set_cons_zero, List.set_cons_succ, List.map_cons, List.map_nil, List.length_cons, List.length_nil, Nat.reduceAdd, if_true, if_false, Bool.false_eq_true, decide_true, decide_false, Bool.not_true, Bool.not_false, frzL, take_len, and_true, true_and, c2]
          unfold t_znumber_4
          simp only [wp_ok, wp_bind, wp_ite, wps_some, wps_none, wps_ite, wps_bind, wps_seq, seqK_nx, seqK_rt, seqK_xc, seqK_ct, seqK_bk, fnK_rt, fnK_nx, eVar, eC, eSeq2, eSeq1, eNil, eCons, eTB, eTru, tAndD, tOrD, tNotD, eNot, eAnd, eOr, eIf, sNil, sBad, sIf, sRet, sExpr, sAsg, gSet, svR, frz, frzR, eB, eCall, eArity, eLst, eTup, treesM, tYesD, eChain, dat, truth, List.getElem?_cons_zero, List.getElem?_cons_succ, List.set_cons_zero, List.set_cons_succ, List.map_cons, List.map_nil, List.length_cons, List.length_nil, Nat.reduceAdd, if_true, if_false, Bool.false_eq_true, decide_true, decide_false, Bool.not_true, Bool.not_false, frzL, take_len, and_true, true_and]
          refine Wp.draw (h.trans r1) (by decide) (by decide) fun i M2 i0 i1 _ r2 => ?_
          simp only [wp_ok, wp_bind, wp_ite, wps_some, wps_none, wps_ite, wps_bind, wps_seq, seqK_nx, seqK_rt, seqK_xc, seqK_ct, seqK_bk, fnK_rt, fnK_nx, eVar, eC, eSeq2, eSeq1, eNil, eCons, eTB, eTru, tAndD, tOrD, tNotD, eNot, eAnd, eOr, eIf, sNil, sBad, sIf, sRet, sExpr, sAsg, gSet, svR, frz, frzR, eB, eCall, eArity, eLst, eTup, treesM, tYesD, eChain, dat, truth, List.getElem?_cons_zero, List.getElem?_cons_succ, List.set_cons_zero, List.set_cons_succ, List.map_cons, List.map_nil, List.length_cons, List.length_nil, Nat.reduceAdd, if_true, if_false, Bool.false_eq_true, decide_true, decide_false, Bool.not_true, Bool.not_false, frzL, take_len, and_true, true_and, subI]
          rw [(r1.trans r2).takeL]
          exact ⟨_, rfl, ⟨by omega, by omega⟩, r1.trans r2⟩
  obtain ⟨r, M', e, i, rfl, h1, h2⟩ := main.get
  exact ⟨i, M', e, h1, h.trans h2⟩
/-! ### grids -/
abbrev rowsD (g : List (List Int)) : D := .lst (g.map fun r => .lst (ri r))
def rowsT (g : List (List Int)) : T := .lst (g.map fun r => T.lst ((ri r).map T.d))
theorem frz_rowsT (g : List (List Int)) : frz (rowsT g) = rowsD g := by
  unfold rowsT frz
  rw [frzL_eq, List.map_map]
  congr 1
  refine List.map_congr_left fun r _ => ?_
  exact frz_ds _
theorem Wp.number {Q : R → Mst → Prop} {E : Exc → Mst → Prop} (h : RD k M0 M) (q : ∀ i M', NumOk i → RD k M0 M' → RD k M M' → Q (.t (.d (.int i))) M') : Wp (m_znumber [.h k] M) Q E := by
  obtain ⟨i, M', h1, h2, h3⟩ := Toy.number h.refl
  rw [h1]
  exact ⟨q i M' h2 (h.trans h3) h3⟩
theorem Wp.ofL {Q : R → Mst → Prop} {E : Exc → Mst → Prop} (h : RD k M0 M) {ds : List D} (hl : 0 < ds.length) (hc : ds.length ≤ 1000000) (q : ∀ d M', d ∈ ds → RD k M0 M' → RD k M M' → Q (.t (.d d)) M') : Wp (m_zof [.h k, .d (.lst ds)] M) Q E := by
  obtain ⟨i, M', h1, h2, h3⟩ := h.refl.ofL hl hc
  rw [h1]
  exact ⟨q i M' h2 (h.trans h3) h3⟩
theorem range1_w {Q : List D → Mst → Prop} {E : Exc → Mst → Prop} {A : DenA} {ρ : Ev} (n : Nat) (h : n ≤ 1000) (hA : Wp (A ρ M) (fun rs M1 => rs = [.t (.d (.int (n : Nat)))] ∧ Q (rangeD 0 n) M1) E) : Wp (iRange1 A ρ M) Q E := by
  cases z : A ρ M with
  | bad => rw [z] at hA; exact hA.w.elim
  | exc e M1 =>
    rw [z] at hA
    unfold iRange1
    rw [z]
    exact ⟨hA.w⟩
  | ok rs M1 =>
    rw [z] at hA
    obtain ⟨rfl, q⟩ := hA.w
    rw [range1_nat n h z]
    exact ⟨q⟩
theorem range_mem {lo : Int} {n m : Nat} {d : D} (h : (rangeD lo n)[m]? = some d) : m < n ∧ d = .int (lo + (m : Nat)) := by
  unfold rangeD at h
  rw [List.getElem?_map] at h
  by_cases hm : m < n
  · rw [List.getElem?_range hm] at h
    cases h
    exact ⟨hm, rfl⟩
  · rw [List.getElem?_eq_none (by simpa using hm)] at h; cases h
/-- a list of drawn ints -/
theorem wp_drawn {Q : R → Mst → Prop} {E : Exc → Mst → Prop} {ρ : Ev} {A : DenA} {j : Nat} {own : List Nat} {f : Den} (P : Int → Prop) (n : Nat) (hn : n ≤ 1000) (h : RD k M0 M) (hA : A ρ M = .ok [.t (.d (.int (n : Nat)))] M) (hj : ∀ d, ∃ ρ1, setT (.one j) d (wipeE ρ own) = some ρ1 ∧ ∀ M1, RD k M0 M1 → Wp (f ρ1 M1) (fun r M2 => ∃ i, r = .t (.d (.int i)) ∧ P i ∧ RD k M0 M2) (fun _ _ => False))
    (q : ∀ (is : List Int) M', is.length = n → (∀ i ∈ is, P i) → RD k M0 M' → Q (.t (.lst ((ri is).map T.d))) M') : Wp (eLc (iRange1 A) (.one j) own tYesD f ρ M) Q E := by
  refine wp_lc (fun xs M' => RD k M0 M' ∧ ∃ is : List Int, xs = ri is ∧ ∀ i ∈ is, P i) (range1_w n hn (wp_eq hA ⟨rfl, by rw [rangeD_len]; omega, ⟨h, [], rfl, fun _ z => nomatch z⟩, fun m d xs M2 hd hx hI => ?_, fun xs M2 hx hI => ?_⟩))
  · obtain ⟨h2, is, rfl, hP⟩ := hI
    obtain ⟨ρ1, e1, e2⟩ := hj d
    refine ⟨ρ1, e1, rfl, (e2 M2 h2).mono fun r M3 ⟨i, e, p, h3⟩ => ⟨.int i, e, h3, is ++ [i], by simp, fun i' hi => ?_⟩⟩
    rcases List.mem_append.mp hi with z | z
    · exact hP _ z
    · rw [List.mem_singleton.mp z]; exact p
  · obtain ⟨h2, is, rfl, hP⟩ := hI
    exact q is M2 (by rw [List.length_map, rangeD_len] at hx; exact hx) hP h2
/-! ### a grid whose rows may be changed -/
theorem gSetM_lst (i : Nat) (ts : List T) (ρ : Ev) (M : Mst) : gSetM i (.t (.lst ts)) ρ M = some (ρ.set i (some (.h M.length)), M ++ [.lst ts]) := rfl
theorem at_last (M : Mst) (x : T) : (M ++ [x])[M.length]? = some x := by rw [List.getElem?_append_right (Nat.le_refl _), Nat.sub_self]; rfl
theorem getD_last (M : Mst) (x d : T) : (M ++ [x]).getD M.length d = x := by rw [List.getD_eq_getElem?_getD, at_last]; rfl
theorem set_last (M : Mst) (x y : T) : (M ++ [x]).set M.length y = M ++ [y] := by rw [List.set_append_right _ _ (Nat.le_refl _), Nat.sub_self]; rfl
theorem take_last (M : Mst) (x : T) : (M ++ [x]).take M.length = M := by rw [List.take_append_of_le_length (Nat.le_refl _), List.take_length]
theorem ixN_nat {n j : Nat} (h : j < n) : ixN n (j : Int) = some j := by
  unfold ixN
  rw [if_pos (by omega)]
  simp; omega
variable {K : Nat} {g : List (List Int)} {ρ : Ev} {Fo : DenP} {Fi Fj : DenV} {i j : Nat} {row : List Int} {v : Int}
theorem rowsT_at (h : g[i]? = some row) : (g.map fun r => T.lst ((ri r).map T.d))[i]? = some (T.lst ((ri row).map T.d)) := by rw [List.getElem?_map, h]; rfl
theorem place1 (hM : M[K]? = some (rowsT g)) (ho : Fo ρ M = some (K, [])) (hi : Fi ρ M = some (.int (i : Nat))) (h : g[i]? = some row) : pSub Fo Fi ρ M = some (K, [.i i]) ∧ atL M (K, [.i i]) = some (.lst ((ri row).map T.d)) := by
  have hl := (List.getElem?_eq_some_iff.mp h).1
  have a1 : atL M (K, []) = some (.lst (g.map fun r => T.lst ((ri r).map T.d))) := by
    unfold atL; rw [hM]; rfl
  refine ⟨?_, ?_⟩
  · unfold pSub
    rw [ho, hi]
    show (match atL M (K, []) with
      | some (.lst ts) => (match ixN ts.length (i : Int) with
        | some j => if (ts[j]?).isSome = true then some (K, [] ++ [Stp.i j]) else none
        | none => none)
      | _ => none) = _
    rw [a1]
    show (match ixN (g.map fun r => T.lst ((ri r).map T.d)).length (i : Int) with
        | some j => if ((g.map fun r => T.lst ((ri r).map T.d))[j]?).isSome = true then some (K, [] ++ [Stp.i j]) else none
        | none => none) = _
    rw [ixN_nat (by rw [List.length_map]; exact hl)]
    show (if ((g.map fun r => T.lst ((ri r).map T.d))[i]?).isSome = true then some (K, [] ++ [Stp.i i]) else none) = _
    rw [rowsT_at h]; rfl
  · unfold atL
    rw [hM]
    show (match (g.map fun r => T.lst ((ri r).map T.d))[i]? with
      | some t => subT [] t
      | none => none) = _
    rw [rowsT_at h]; rfl
theorem place2 (hM : M[K]? = some (rowsT g)) (ho : Fo ρ M = some (K, [])) (hi : Fi ρ M = some (.int (i : Nat))) (hj : Fj ρ M = some (.int (j : Nat))) (h : g[i]? = some row) (h2 : row[j]? = some v) : snP (pSub (pSub Fo Fi) Fj) ρ M = some (.int v) := by
  obtain ⟨p1, p2⟩ := place1 hM ho hi h
  have hl := (List.getElem?_eq_some_iff.mp h2).1
  have e2 : ((ri row).map T.d)[j]? = some (T.d (.int v)) := by rw [List.getElem?_map, List.getElem?_map, h2]; rfl
  have p3 : pSub (pSub Fo Fi) Fj ρ M = some (K, [.i i, .i j]) := by
    unfold pSub at p1 ⊢
    rw [p1, hj]
    show (match atL M (K, [Stp.i i]) with
      | some (.lst ts) => (match ixN ts.length (j : Int) with
        | some j => if (ts[j]?).isSome = true then some (K, [Stp.i i] ++ [Stp.i j]) else none
        | none => none)
      | _ => none) = _
    rw [p2]
    show (match ixN ((ri row).map T.d).length (j : Int) with
        | some j => if (((ri row).map T.d)[j]?).isSome = true then some (K, [Stp.i i] ++ [Stp.i j]) else none
        | none => none) = _
    rw [ixN_nat (by rw [List.length_map, List.length_map]; exact hl)]
    show (if (((ri row).map T.d)[j]?).isSome = true then some (K, [Stp.i i] ++ [Stp.i j]) else none) = _
    rw [e2]; rfl
  unfold snP
  rw [p3]
  show (atL M (K, [Stp.i i, Stp.i j])).map frz = _
  have : atL M (K, [Stp.i i, Stp.i j]) = some (T.d (.int v)) := by
    unfold atL
    rw [hM]
    show (match (g.map fun r => T.lst ((ri r).map T.d))[i]? with
      | some t => subT [.i j] t
      | none => none) = _
    rw [rowsT_at h]
    show (match ((ri row).map T.d)[j]? with
      | some t => subT [] t
      | none => none) = _
    rw [e2]; rfl
  rw [this]; rfl
theorem flat2 (hM : M[K]? = some (rowsT g)) (ho : Fo ρ M = some (K, [])) (hi : Fi ρ M = some (.int (i : Nat))) (hj : Fj ρ M = some (.int (j : Nat))) (h : g[i]? = some row) (h2 : row[j]? = some v) : eFlat (snP (pSub (pSub Fo Fi) Fj)) ρ M = .ok (.t (.d (.int v))) M := by
  unfold eFlat
  rw [place2 hM ho hi hj h h2]
  rfl
theorem lenS1 (hM : M[K]? = some (rowsT g)) (ho : Fo ρ M = some (K, [])) (hi : Fi ρ M = some (.int (i : Nat))) (h : g[i]? = some row) : eLenS (snP (pSub Fo Fi)) ρ M = .ok (.t (.d (.int (row.length : Nat)))) M := by
  obtain ⟨p1, p2⟩ := place1 hM ho hi h
  unfold eLenS snP
  rw [p1]
  show (match (atL M (K, [Stp.i i])).map frz with
    | some d => (match lenD [d] with
      | some n => (match d with
        | .lst _ => Out.ok (R.t (.d n)) M
        | .tupP _ _ => Out.ok (.t (.d n)) M
        | _ => Out.bad)
      | none => Out.bad)
    | none => Out.bad) = _
  rw [p2]
  show (match lenD [frz (.lst ((ri row).map T.d))] with
      | some n => (match frz (.lst ((ri row).map T.d)) with
        | .lst _ => Out.ok (R.t (.d n)) M
        | .tupP _ _ => Out.ok (.t (.d n)) M
        | _ => Out.bad)
      | none => Out.bad) = _
  rw [frz_ds]
  show Out.ok (R.t (.d (.int ((ri row).length : Nat)))) M = _
  rw [List.length_map]
theorem item_set (y : Int) (ho : Fo ρ (M ++ [rowsT g]) = some (M.length, [])) (hi : Fi ρ (M ++ [rowsT g]) = some (.int (i : Nat))) (hj : Fj ρ (M ++ [rowsT g]) = some (.int (j : Nat))) (h : g[i]? = some row) (h2 : j < row.length) :
    gItemP (pSub Fo Fi) Fj (.t (.d (.int y))) ρ (M ++ [rowsT g]) = some (ρ, M ++ [rowsT (g.set i (row.set j y))]) := by
  obtain ⟨p1, p2⟩ := place1 (at_last M (rowsT g)) ho hi h
  unfold gItemP
  show (match pSub Fo Fi ρ (M ++ [rowsT g]), Fj ρ (M ++ [rowsT g]) with
    | some l, some (.int i) => (match atL (M ++ [rowsT g]) l with
      | some (.lst ts) => (match ixN ts.length i with
        | some j => some (ρ, setL (M ++ [rowsT g]) l (.lst (ts.set j (.d (.int y)))))
        | none => none)
      | _ => none)
    | _, _ => none) = _
  rw [p1, hj]
  show (match atL (M ++ [rowsT g]) (M.length, [Stp.i i]) with
      | some (.lst ts) => (match ixN ts.length (j : Int) with
        | some j => some (ρ, setL (M ++ [rowsT g]) (M.length, [Stp.i i]) (.lst (ts.set j (.d (.int y)))))
        | none => none)
      | _ => none) = _
  rw [p2]
  show (match ixN ((ri row).map T.d).length (j : Int) with
        | some j => some (ρ, setL (M ++ [rowsT g]) (M.length, [Stp.i i]) (.lst (((ri row).map T.d).set j (.d (.int y)))))
        | none => none) = _
  rw [ixN_nat (by rw [List.length_map, List.length_map]; exact h2)]
  show some (ρ, setL (M ++ [rowsT g]) (M.length, [Stp.i i]) (.lst (((ri row).map T.d).set j (.d (.int y))))) = _
  unfold setL
  rw [show (M.length, [Stp.i i]).1 = M.length from rfl, at_last]
  show some (ρ, (M ++ [rowsT g]).set M.length (setP [Stp.i i] (rowsT g) (.lst (((ri row).map T.d).set j (.d (.int y)))))) = _
  rw [set_last]
  have e : setP [Stp.i i] (rowsT g) (.lst (((ri row).map T.d).set j (.d (.int y)))) = rowsT (g.set i (row.set j y)) := by
    show (match (g.map fun r => T.lst ((ri r).map T.d))[i]? with
      | some t => T.lst ((g.map fun r => T.lst ((ri r).map T.d)).set i (setP [] t (.lst (((ri row).map T.d).set j (.d (.int y))))))
      | none => .lst (g.map fun r => T.lst ((ri r).map T.d))) = _
    rw [rowsT_at h]
    show T.lst ((g.map fun r => T.lst ((ri r).map T.d)).set i (.lst (((ri row).map T.d).set j (.d (.int y))))) = _
    unfold rowsT
    simp only [ri, List.map_set]
  rw [e]
theorem Rc.set {hh ww : Nat} (H : Rc g hh ww) (h : g[i]? = some row) (y : Int) : Rc (g.set i (row.set j y)) hh ww := by
  refine ⟨by rw [List.length_set]; exact H.1, fun r hr => ?_⟩
  rcases List.mem_or_eq_of_mem_set hr with z | z
  · exact H.2 r z
  · rw [z, List.length_set]; exact H.2 row (List.mem_of_getElem? h)
end
end Toy

/-! grids that are drawn -/
namespace Toy
open PySem L2 DL
section
variable {M0 M M1 M' : Mst} {k : Nat} {g : List (List Int)} {hh ww : Nat} {Q : R → Mst → Prop} {E : Exc → Mst → Prop} {Φ : Fl → Mst → Prop} {ρ : Ev}
def B2 (i : Int) : Prop := -200000000000000000000000000000 ≤ i ∧ i ≤ 200000000000000000000000000000
def B3 (i : Int) : Prop := -300000000000000000000000000000 ≤ i ∧ i ≤ 300000000000000000000000000000
def AllG (P : Int → Prop) (g : List (List Int)) : Prop := ∀ r ∈ g, ∀ x ∈ r, P x
theorem AllG.mono {P P' : Int → Prop} {g : List (List Int)} (h : AllG P g) (k : ∀ x, P x → P' x) : AllG P' g := fun r hr x hx => k x (h r hr x hx)
theorem AllG.set {P : Int → Prop} {g : List (List Int)} {i j : Nat} {row : List Int} (h : AllG P g) (hr : g[i]? = some row) {y : Int} (hy : P y) : AllG P (g.set i (row.set j y)) := fun r hr' x hx => by
  rcases List.mem_or_eq_of_mem_set hr' with z | z
  · exact h r z x hx
  · subst z
    rcases List.mem_or_eq_of_mem_set hx with z | z
    · exact h row (List.mem_of_getElem? hr) x z
    · rw [z]; exact hy
theorem b23 (x : Int) (h : B2 x) : B3 x := ⟨by have := h.1; omega, by have := h.2; omega⟩
theorem numB2 (x : Int) (h : NumOk x) : B2 x := ⟨by have := h.1; omega, by have := h.2; omega⟩
/-- a draw where a list of rows is held -/
theorem Wp.draw2 {x : T} (h : RD k M0 M) {size : Int} (hs : 0 < size) (h60 : size < 10 ^ 60) (q : ∀ i M', 0 ≤ i → i < size → RD k M0 M' → RD k M M' → Q (.t (.d (.int i))) (M' ++ [x])) : Wp (m_zdraw [.h k, .d (.int size)] (M ++ [x])) Q E := by
  refine Wp.draw (h.push x) hs h60 fun i M1 i0 i1 r1 _ => ?_
  obtain ⟨M', rfl, r2⟩ := RD.app h.lt r1
  exact q i M' i0 i1 (h.trans r2) r2
theorem Wp.ofL2 {x : T} (h : RD k M0 M) {ds : List D} (hl : 0 < ds.length) (hc : ds.length ≤ 1000000) (q : ∀ d M', d ∈ ds → RD k M0 M' → RD k M M' → Q (.t (.d d)) (M' ++ [x])) : Wp (m_zof [.h k, .d (.lst ds)] (M ++ [x])) Q E := by
  refine Wp.ofL (h.push x) hl hc fun d M1 hd r1 _ => ?_
  obtain ⟨M', rfl, r2⟩ := RD.app h.lt r1
  exact q d M' hd (h.trans r2) r2
theorem lenRows (M : Mst) (g : List (List Int)) : scL lenD [.h M.length] (M ++ [rowsT g]) = .ok (.t (.d (.int (g.length : Nat)))) (M ++ [rowsT g]) := by
  show (match lenD [frz ((M ++ [rowsT g]).getD M.length (.d .non))] with | some x => Out.ok (R.t (.d x)) (M ++ [rowsT g]) | none => .bad) = _
  rw [getD_last, frz_rowsT]
  show Out.ok (R.t (.d (.int ((g.map fun r => D.lst (ri r)).length : Nat)))) (M ++ [rowsT g]) = _
  rw [List.length_map]
theorem getD_nat {α : Type} {xs : List α} {i : Nat} (h : i < xs.length) : xs[i]? = some xs[i] := List.getElem?_eq_getElem h
theorem Wp.spoilt (h : RD k M0 M) (H : Rc g hh ww) (h1 : 1 ≤ hh) (h2 : 1 ≤ ww) (h3 : hh ≤ 1000) (h4 : ww ≤ 1000) (hB : AllG B2 g) (q : ∀ g' M', Rc g' hh ww → AllG B3 g' → RD k M0 M' → RD k M M' → Q (.t (rowsT g')) M') : Wp (m_zspoilt [.h k, .d (rowsD g)] M) Q E := by
  refine wp_fn (ρ := [some (.h k), some (.d (rowsD g)), none, none, none, none]) rfl ?_
  unfold b_zspoilt
  rw [wps_seq]
  unfold t_zspoilt_0
  simp only [sAsg, wps_bind]
  refine wp_lcT (fun d => match d with | .lst ds => .lst (ds.map T.d) | x => .d x) (wp_eq (iOf_seq false _ rfl) ⟨by rw [List.length_map, H.1]; omega, fun d hd => ?_, ?_⟩)
  · obtain ⟨r, _, rfl⟩ := List.mem_map.mp hd
    exact ⟨_, rfl, wp_eq (M' := M) (a := .t (.lst ((ri r).map T.d))) rfl ⟨rfl, rfl⟩⟩
  rw [List.map_map, gSetM_lst]
  show WpS (some (.nx [some (.h k), some (.d (rowsD g)), some (.h M.length), none, none, none], M ++ [rowsT g])) (seqK (sSeq t_zspoilt_1 t_zspoilt_2) (fnK M.length Q E))
  rw [wps_some, seqK_nx]
  have fin : ∀ (g' : List (List Int)) (M' : Mst) (a b c : Option SV), Rc g' hh ww → AllG B3 g' → RD k M M' → WpS (t_zspoilt_2 [some (.h k), some (.d (rowsD g)), some (.h M.length), a, b, c] (M' ++ [rowsT g'])) (fnK M.length Q E) := by
    intro g' M' a b c H' B' r'
    unfold t_zspoilt_2
    simp only [sRet, wps_bind, eVar, List.getElem?_cons_succ, List.getElem?_cons_zero, wp_ok, wps_some]
    show Q (retR M.length (M' ++ [rowsT g']) (.h M.length)) ((M' ++ [rowsT g']).take M.length)
    rw [show retR M.length (M' ++ [rowsT g']) (.h M.length) = .t ((M' ++ [rowsT g']).getD M.length (.d .non)) from if_neg (Nat.lt_irrefl _), ← r'.len, getD_last, take_last]
    exact q g' M' H' B' (h.trans r') r'
  rw [wps_seq]
  unfold t_zspoilt_1
  simp only [wp_ok, wp_bind, wp_ite, wps_some, wps_none, wps_ite, wps_bind, wps_seq, seqK_nx, seqK_rt, seqK_xc, seqK_ct, seqK_bk, fnK_rt, fnK_nx, eVar, eC, eSeq2, eSeq1, eNil, eCons, eTB, eTru, tAndD, tOrD, tNotD, eNot, eAnd, eOr, eIf, sNil, sBad, sIf, sRet, sExpr, sAsg, gSet, svR, frz, frzR, eB, eCall, eArity, eLst, eTup, treesM, tYesD, eChain, dat, truth, List.getElem?_cons_zero, List.getElem?_cons_succ, List.set_cons_zero, List.set_cons_succ, List.map_cons, List.map_nil, List.length_cons, List.length_nil, Nat.reduceAdd, if_true, if_false, Bool.false_eq_true, decide_true, decide_false, Bool.not_true, Bool.not_false, frzL, take_len, and_true, true_and, sPar2]
  refine Wp.draw2 h (by decide) (by decide) fun c M1 c0 c1 _ r1 => ?_
  simp only [wp_ok, wp_bind, wp_ite, wps_some, wps_none, wps_ite, wps_bind, wps_seq, seqK_nx, seqK_rt, seqK_xc, seqK_ct, seqK_bk, fnK_rt, fnK_nx, eVar, eC, eSeq2, eSeq1, eNil, eCons, eTB, eTru, tAndD, tOrD, tNotD, eNot, eAnd, eOr, eIf, sNil, sBad, sIf, sRet, sExpr, sAsg, gSet, svR, frz, frzR, eB, eCall, eArity, eLst, eTup, treesM, tYesD, eChain, dat, truth, List.getElem?_cons_zero, List.getElem?_cons_succ, List.set_cons_zero, List.set_cons_succ, List.map_cons, List.map_nil, List.length_cons, List.length_nil, Nat.reduceAdd, if_true, if_false, Bool.false_eq_true, decide_true, decide_false, Bool.not_true, Bool.not_false, frzL, take_len, and_true, true_and, eqI]
  by_cases hc : c = 0
  · simp only [wp_ok, wp_bind, wp_ite, wps_some, wps_none, wps_ite, wps_bind, wps_seq, seqK_nx, seqK_rt, seqK_xc, seqK_ct, seqK_bk, fnK_rt, fnK_nx, eVar, eC, eSeq2, eSeq1, eNil, eCons, eTB, eTru, tAndD, tOrD, tNotD, eNot, eAnd, eOr, eIf, sNil, sBad, sIf, sRet, sExpr, sAsg, gSet, svR, frz, frzR, eB, eCall, eArity, eLst, eTup, treesM, tYesD, eChain, dat, truth, List.getElem?_cons_zero, List.getElem?_cons_succ, List.set_cons_zero, List.set_cons_succ, List.map_cons, List.map_nil, List.length_cons, List.length_nil, Nat.reduceAdd, if_true, if_false, Bool.false_eq_true, decide_true, decide_false, Bool.not_true, Bool.not_false, frzL, take_len, and_true, true_and, hc, ← r1.len, lenRows]
    rw [H.1]
    refine Wp.draw2 (h.trans r1) (by omega) (by omega) fun i M2 i0 i1 _ r2 => ?_
    obtain ⟨i, rfl⟩ : ∃ n : Nat, i = (n : Int) := ⟨i.toNat, by omega⟩
    simp only [wp_ok, wp_bind, wp_ite, wps_some, wps_none, wps_ite, wps_bind, wps_seq, seqK_nx, seqK_rt, seqK_xc, seqK_ct, seqK_bk, fnK_rt, fnK_nx, eVar, eC, eSeq2, eSeq1, eNil, eCons, eTB, eTru, tAndD, tOrD, tNotD, eNot, eAnd, eOr, eIf, sNil, sBad, sIf, sRet, sExpr, sAsg, gSet, svR, frz, frzR, eB, eCall, eArity, eLst, eTup, treesM, tYesD, eChain, dat, truth, List.getElem?_cons_zero, List.getElem?_cons_succ, List.set_cons_zero, List.set_cons_succ, List.map_cons, List.map_nil, List.length_cons, List.length_nil, Nat.reduceAdd, if_true, if_false, Bool.false_eq_true, decide_true, decide_false, Bool.not_true, Bool.not_false, frzL, take_len, and_true, true_and]
    rw [← r2.len]
    have hi : i < g.length := by rw [H.1]; omega
    have row0 : g[0]? = some g[0] := getD_nat (by omega)
    refine wp_eq (lenS1 (i := 0) (K := M2.length) (g := g) (row := g[0]) (at_last M2 _) rfl rfl row0) ?_
    rw [H.2 _ (List.getElem_mem _)]
    simp only [wp_ok, wp_bind, wp_ite, wps_some, wps_none, wps_ite, wps_bind, wps_seq, seqK_nx, seqK_rt, seqK_xc, seqK_ct, seqK_bk, fnK_rt, fnK_nx, eVar, eC, eSeq2, eSeq1, eNil, eCons, eTB, eTru, tAndD, tOrD, tNotD, eNot, eAnd, eOr, eIf, sNil, sBad, sIf, sRet, sExpr, sAsg, gSet, svR, frz, frzR, eB, eCall, eArity, eLst, eTup, treesM, tYesD, eChain, dat, truth, List.getElem?_cons_zero, List.getElem?_cons_succ, List.set_cons_zero, List.set_cons_succ, List.map_cons, List.map_nil, List.length_cons, List.length_nil, Nat.reduceAdd, if_true, if_false, Bool.false_eq_true, decide_true, decide_false, Bool.not_true, Bool.not_false, frzL, take_len, and_true, true_and]
    refine Wp.draw2 ((h.trans r1).trans r2) (by omega) (by omega) fun j M3 j0 j1 _ r3 => ?_
    obtain ⟨j, rfl⟩ : ∃ n : Nat, j = (n : Int) := ⟨j.toNat, by omega⟩
    simp only [wp_ok, wp_bind, wp_ite, wps_some, wps_none, wps_ite, wps_bind, wps_seq, seqK_nx, seqK_rt, seqK_xc, seqK_ct, seqK_bk, fnK_rt, fnK_nx, eVar, eC, eSeq2, eSeq1, eNil, eCons, eTB, eTru, tAndD, tOrD, tNotD, eNot, eAnd, eOr, eIf, sNil, sBad, sIf, sRet, sExpr, sAsg, gSet, svR, frz, frzR, eB, eCall, eArity, eLst, eTup, treesM, tYesD, eChain, dat, truth, List.getElem?_cons_zero, List.getElem?_cons_succ, List.set_cons_zero, List.set_cons_succ, List.map_cons, List.map_nil, List.length_cons, List.length_nil, Nat.reduceAdd, if_true, if_false, Bool.false_eq_true, decide_true, decide_false, Bool.not_true, Bool.not_false, frzL, take_len, and_true, true_and]
    rw [← r3.len]
    have hrow : (g[i]).length = ww := H.2 _ (List.getElem_mem _)
    have hj : j < (g[i]).length := by omega
    refine wp_eq (flat2 (g := g) (K := M3.length) (row := g[i]) (v := (g[i])[j]) (at_last M3 _) rfl rfl rfl (getD_nat hi) (getD_nat hj)) ?_
    simp only [wp_ok, wp_bind, wp_ite, wps_some, wps_none, wps_ite, wps_bind, wps_seq, seqK_nx, seqK_rt, seqK_xc, seqK_ct, seqK_bk, fnK_rt, fnK_nx, eVar, eC, eSeq2, eSeq1, eNil, eCons, eTB, eTru, tAndD, tOrD, tNotD, eNot, eAnd, eOr, eIf, sNil, sBad, sIf, sRet, sExpr, sAsg, gSet, svR, frz, frzR, eB, eCall, eArity, eLst, eTup, treesM, tYesD, eChain, dat, truth, List.getElem?_cons_zero, List.getElem?_cons_succ, List.set_cons_zero, List.set_cons_succ, List.map_cons, List.map_nil, List.length_cons, List.length_nil, Nat.reduceAdd, if_true, if_false, Bool.false_eq_true, decide_true, decide_false, Bool.not_true, Bool.not_false, frzL, take_len, and_true, true_and, subI, Nat.reduceLeDiff]
    refine Wp.ofL2 (((h.trans r1).trans r2).trans r3) (by decide) (by decide) fun d M4 hd _ r4 => ?_
    obtain ⟨y, rfl, y0, y1⟩ : ∃ y, d = .int y ∧ -1 ≤ y ∧ y ≤ 5 := by
      simp only [List.mem_cons, List.not_mem_nil, or_false] at hd
      rcases hd with rfl | rfl | rfl | rfl <;> exact ⟨_, rfl, by decide, by decide⟩
    have hxB : B2 ((g[i])[j]) := hB _ (List.getElem_mem _) _ (List.getElem_mem _)
    have hyB : B3 ((g[i])[j] + y) := ⟨by have := hxB.1; omega, by have := hxB.2; omega⟩
    simp only [wp_ok, wp_bind, wp_ite, wps_some, wps_none, wps_ite, wps_bind, wps_seq, seqK_nx, seqK_rt, seqK_xc, seqK_ct, seqK_bk, fnK_rt, fnK_nx, eVar, eC, eSeq2, eSeq1, eNil, eCons, eTB, eTru, tAndD, tOrD, tNotD, eNot, eAnd, eOr, eIf, sNil, sBad, sIf, sRet, sExpr, sAsg, gSet, svR, frz, frzR, eB, eCall, eArity, eLst, eTup, treesM, tYesD, eChain, dat, truth, List.getElem?_cons_zero, List.getElem?_cons_succ, List.set_cons_zero, List.set_cons_succ, List.map_cons, List.map_nil, List.length_cons, List.length_nil, Nat.reduceAdd, if_true, if_false, Bool.false_eq_true, decide_true, decide_false, Bool.not_true, Bool.not_false, frzL, take_len, and_true, true_and, addI]
    rw [← r4.len, item_set _ rfl rfl rfl (getD_nat hi) hj]
    simp only [wp_ok, wp_bind, wp_ite, wps_some, wps_none, wps_ite, wps_bind, wps_seq, seqK_nx, seqK_rt, seqK_xc, seqK_ct, seqK_bk, fnK_rt, fnK_nx, eVar, eC, eSeq2, eSeq1, eNil, eCons, eTB, eTru, tAndD, tOrD, tNotD, eNot, eAnd, eOr, eIf, sNil, sBad, sIf, sRet, sExpr, sAsg, gSet, svR, frz, frzR, eB, eCall, eArity, eLst, eTup, treesM, tYesD, eChain, dat, truth, List.getElem?_cons_zero, List.getElem?_cons_succ, List.set_cons_zero, List.set_cons_succ, List.map_cons, List.map_nil, List.length_cons, List.length_nil, Nat.reduceAdd, if_true, if_false, Bool.false_eq_true, decide_true, decide_false, Bool.not_true, Bool.not_false, frzL, take_len, and_true, true_and]
    have r14 := ((r1.trans r2).trans r3).trans r4
    have := fin _ M4 (some (.d (.int (i : Int)))) (some (.d (.int (j : Int)))) none (H.set (j := j) (getD_nat hi) ((g[i])[j] + y)) ((hB.mono b23).set (j := j) (getD_nat hi) hyB) r14
    rw [← r14.len] at this
    exact this
  · simp only [wp_ok, wp_bind, wp_ite, wps_some, wps_none, wps_ite, wps_bind, wps_seq, seqK_nx, seqK_rt, seqK_xc, seqK_ct, seqK_bk, fnK_rt, fnK_nx, eVar, eC, eSeq2, eSeq1, eNil, eCons, eTB, eTru, tAndD, tOrD, tNotD, eNot, eAnd, eOr, eIf, sNil, sBad, sIf, sRet, sExpr, sAsg, gSet, svR, frz, frzR, eB, eCall, eArity, eLst, eTup, treesM, tYesD, eChain, dat, truth, List.getElem?_cons_zero, List.getElem?_cons_succ, List.set_cons_zero, List.set_cons_succ, List.map_cons, List.map_nil, List.length_cons, List.length_nil, Nat.reduceAdd, if_true, if_false, Bool.false_eq_true, decide_true, decide_false, Bool.not_true, Bool.not_false, frzL, take_len, and_true, true_and, hc]
    rw [← r1.len]
    have := fin g M1 none none none H (hB.mono b23) r1
    rw [← r1.len] at this
    exact this
/-! ### the grid's ways -/
theorem grid_ev {F : Int → Int → Int} {f : Den} {a b : List Int} {ia ib j1 j2 : Nat} (la : a.length ≤ 1000) (lb : b.length ≤ 1000) (ha : ρ[ia]? = some (some (.d (.lst (ri a))))) (hb : ∀ x, (ρ.set j1 (some (.d (.int x))))[ib]? = some (some (.d (.lst (ri b)))))
    (hw1 : wipeE ρ [j1] = ρ) (hw2 : ∀ x, wipeE (ρ.set j1 (some (.d (.int x)))) [j2] = ρ.set j1 (some (.d (.int x))))
    (hf : ∀ x ∈ a, ∀ y, f ((ρ.set j1 (some (.d (.int x)))).set j2 (some (.d (.int y)))) M = .ok (.t (.d (.int (F x y)))) M) :
    eLc (iOf (eVar ia)) (.one j1) [j1] tYesD (eLc (iOf (eVar ib)) (.one j2) [j2] tYesD f) ρ M = .ok (.t (rowsT (a.map fun x => b.map fun y => F x y))) M := by
  refine ok_of (wp_lcT (fun d => match d with | .int x => .lst ((ri (b.map fun y => F x y)).map T.d) | x => .d x) (wp_eq (iOf_seq false (ri a) (by unfold eVar; rw [ha]; rfl)) ⟨by rw [List.length_map]; omega, fun d hd => ?_, ?_⟩))
  · obtain ⟨x, hx, rfl⟩ := List.mem_map.mp hd
    refine ⟨_, rfl, ?_⟩
    rw [hw1]
    refine wp_lcm (fun d => match d with | .int y => .int (F x y) | x => x) (wp_eq (iOf_seq false (ri b) (by unfold eVar; rw [hb]; rfl)) ⟨by rw [List.length_map]; omega, fun d hd => ?_, ?_⟩)
    · obtain ⟨y, _, rfl⟩ := List.mem_map.mp hd
      refine ⟨_, rfl, ?_⟩
      rw [hw2]
      exact wp_eq (hf x hx y) ⟨rfl, rfl⟩
    · refine ⟨congrArg (fun l => R.t (T.lst l)) ?_, rfl⟩
      simp only [ri, List.map_map]
      exact List.map_congr_left fun y _ => rfl
  · refine ⟨congrArg (fun l => R.t (T.lst l)) ?_, rfl⟩
    rw [show ri a = a.map D.int from rfl, List.map_map, List.map_map]
    exact List.map_congr_left fun x _ => rfl
theorem Rc.of (a b : List Int) (F : Int → Int → Int) : Rc (a.map fun x => b.map fun y => F x y) a.length b.length := ⟨List.length_map _, fun r hr => by
  obtain ⟨x, _, rfl⟩ := List.mem_map.mp hr
  exact List.length_map _⟩
theorem max2 (x y : Int) (M : Mst) : scL maxD [.t (.lst [.d (.int x), .d (.int y)])] M = .ok (.t (.d (.int (max x y)))) M := rfl
theorem min2 (x y : Int) (M : Mst) : scL minD [.t (.lst [.d (.int x), .d (.int y)])] M = .ok (.t (.d (.int (min x y)))) M := rfl
theorem get0L (a : List Int) (h : 1 ≤ a.length) (M : Mst) : getR (.t (.d (.lst (ri a)))) (.t (.d (.int 0))) M = .ok (.t (.d (.int (a.getD 0 0)))) M := by
  rw [getLst _ 0 _ (by decide) (by rw [List.length_map]; omega)]
  cases a with
  | nil => simp at h
  | cons x r => rfl
theorem svR_rows (g : List (List Int)) : svR (.t (rowsT g)) = .d (rowsD g) := by
  show SV.d (frz (rowsT g)) = _
  rw [frz_rowsT]
/-- rows of drawn numbers -/
theorem wp_drawn2 {P : Int → Prop} {A1 A2 : DenA} {j1 j2 : Nat} {f : Den} (hn : hh ≤ 1000) (wn : ww ≤ 1000) (h : RD k M0 M) (hA : A1 ρ M = .ok [.t (.d (.int (hh : Nat)))] M) (hA2 : ∀ x M1, A2 ((wipeE ρ [j1]).set j1 (some (.d x))) M1 = .ok [.t (.d (.int (ww : Nat)))] M1)
    (hf : ∀ x y M1, RD k M0 M1 → Wp (f ((wipeE ((wipeE ρ [j1]).set j1 (some (.d x))) [j2]).set j2 (some (.d y))) M1) (fun r M2 => ∃ i, r = .t (.d (.int i)) ∧ P i ∧ RD k M0 M2) (fun _ _ => False))
    (q : ∀ g M', Rc g hh ww → AllG P g → RD k M0 M' → Q (.t (rowsT g)) M') : Wp (eLc (iRange1 A1) (.one j1) [j1] tYesD (eLc (iRange1 A2) (.one j2) [j2] tYesD f) ρ M) Q E := by
  unfold eLc
  rw [wp_bind]
  refine range1_w hh hn (wp_eq hA ⟨rfl, ?_⟩)
  rw [wp_bind]
  have key : ∀ (ds : List D) (g : List (List Int)) (M1 : Mst), RD k M0 M1 → (∀ r ∈ g, r.length = ww ∧ ∀ x ∈ r, P x) → g.length + ds.length ≤ 1000 → ∃ (g' : List (List Int)) (M2 : Mst), lcL (.one j1) [j1] tYesD (fun ρ M => ((iRange1 A2) ρ M).bind fun items M1 => (lcL (.one j2) [j2] tYesD f ρ items [] M1).bind fun ts M2 => .ok (.t (.lst ts)) M2) ρ ds (g.map fun r => T.lst ((ri r).map T.d)) M1 = .ok (g'.map fun r => T.lst ((ri r).map T.d)) M2 ∧ g'.length = g.length + ds.length ∧ (∀ r ∈ g', r.length = ww ∧ ∀ x ∈ r, P x) ∧ RD k M0 M2 := by
    intro ds
    induction ds with
    | nil => intro g M1 h1 h2 _; exact ⟨g, M1, rfl, rfl, h2, h1⟩
    | cons d r ih =>
      intro g M1 h1 h2 hl
      rw [List.length_cons] at hl
      have hrow := wp_drawn (Q := fun r M2 => ∃ is : List Int, r = .t (.lst ((ri is).map T.d)) ∧ (is.length = ww ∧ ∀ x ∈ is, P x) ∧ RD k M0 M2) (E := fun _ _ => False) (ρ := (wipeE ρ [j1]).set j1 (some (.d d))) (A := A2) (j := j2) (own := [j2]) (f := f) P ww wn h1 (hA2 d M1) (fun y => ⟨_, rfl, fun M2 h2 => hf d y M2 h2⟩) fun is M2 e1 e2 e3 => ⟨is, rfl, ⟨e1, e2⟩, e3⟩
      unfold eLc at hrow
      unfold lcL
      simp only [setT, tYesD, noX, Out.bind, if_true]
      cases z : ((iRange1 A2) ((wipeE ρ [j1]).set j1 (some (.d d))) M1).bind (fun items M1 => (lcL (.one j2) [j2] tYesD f ((wipeE ρ [j1]).set j1 (some (.d d))) items [] M1).bind fun ts M2 => Out.ok (R.t (.lst ts)) M2) with
      | bad => rw [z] at hrow; exact hrow.w.elim
      | exc _ _ => rw [z] at hrow; exact hrow.w.elim
      | ok rr M2 =>
        rw [z] at hrow
        obtain ⟨is, rfl, hi, h3⟩ := hrow.w
        obtain ⟨g', M3, k1, k2, k3, k4⟩ := ih (g ++ [is]) M2 h3 (fun r hr => by
          rcases List.mem_append.mp hr with z | z
          · exact h2 r z
          · rw [List.mem_singleton.mp z]; exact hi) (by rw [List.length_append]; simp only [List.length_cons, List.length_nil]; omega)
        refine ⟨g', M3, ?_, by rw [k2, List.length_append]; simp only [List.length_cons, List.length_nil]; omega, k3, k4⟩
        have z' := z
        simp only [Out.bind] at z'
        simp only [z']
        rw [List.length_map, if_pos (by omega)]
        show lcL _ _ _ _ ρ r ((g.map fun r => T.lst ((ri r).map T.d)) ++ [T.lst ((ri is).map T.d)]) M2 = _
        rw [show (g.map fun r => T.lst ((ri r).map T.d)) ++ [T.lst ((ri is).map T.d)] = (g ++ [is]).map fun r => T.lst ((ri r).map T.d) by simp]
        exact k1
  obtain ⟨g', M2, k1, k2, k3, k4⟩ := key (rangeD 0 hh) [] M h (fun _ z => nomatch z) (by rw [rangeD_len]; simp only [List.length_nil]; omega)
  rw [List.map_nil] at k1
  rw [k1]
  exact ⟨⟨q g' M2 ⟨by rw [k2, rangeD_len]; simp, fun r hr => (k3 r hr).1⟩ (fun r hr => (k3 r hr).2) k4⟩⟩
theorem Wp.grid (h : RD k M0 M) (h1 : 1 ≤ hh) (h2 : 1 ≤ ww) (h3 : hh ≤ 1000) (h4 : ww ≤ 1000) (q : ∀ g M', Rc g hh ww → AllG B3 g → RD k M0 M' → RD k M M' → Q (.t (rowsT g)) M') : Wp (m_zgrid [.h k, .d (.int (hh : Nat)), .d (.int (ww : Nat))] M) Q E := by
  refine wp_fn (ρ := [some (.h k), some (.d (.int (hh : Nat))), some (.d (.int (ww : Nat))), none, none, none, none, none, none, none, none, none]) rfl ?_
  unfold b_zgrid
  rw [wps_seq]; unfold t_zgrid_0
  simp only [wp_ok, wp_bind, wp_ite, wps_some, wps_none, wps_ite, wps_bind, wps_seq, seqK_nx, seqK_rt, seqK_xc, seqK_ct, seqK_bk, fnK_rt, fnK_nx, eVar, eC, eSeq2, eSeq1, eNil, eCons, eTB, eTru, tAndD, tOrD, tNotD, eNot, eAnd, eOr, eIf, sNil, sBad, sIf, sRet, sExpr, sAsg, gSet, svR, frz, frzR, eB, eCall, eArity, eLst, eTup, treesM, tYesD, eChain, dat, truth, List.getElem?_cons_zero, List.getElem?_cons_succ, List.set_cons_zero, List.set_cons_succ, List.map_cons, List.map_nil, List.length_cons, List.length_nil, Nat.reduceAdd, if_true, if_false, Bool.false_eq_true, decide_true, decide_false, Bool.not_true, Bool.not_false, frzL, take_len, and_true, true_and]
  refine Wp.draw h (by decide) (by decide) fun way M1 w0 w8 _ r1 => ?_
  simp only [wp_ok, wp_bind, wp_ite, wps_some, wps_none, wps_ite, wps_bind, wps_seq, seqK_nx, seqK_rt, seqK_xc, seqK_ct, seqK_bk, fnK_rt, fnK_nx, eVar, eC, eSeq2, eSeq1, eNil, eCons, eTB, eTru, tAndD, tOrD, tNotD, eNot, eAnd, eOr, eIf, sNil, sBad, sIf, sRet, sExpr, sAsg, gSet, svR, frz, frzR, eB, eCall, eArity, eLst, eTup, treesM, tYesD, eChain, dat, truth, List.getElem?_cons_zero, List.getElem?_cons_succ, List.set_cons_zero, List.set_cons_succ, List.map_cons, List.map_nil, List.length_cons, List.length_nil, Nat.reduceAdd, if_true, if_false, Bool.false_eq_true, decide_true, decide_false, Bool.not_true, Bool.not_false, frzL, take_len, and_true, true_and]
  unfold t_zgrid_1
  simp only [sAsg, wps_bind]
  refine wp_drawn (M0 := M) NumOk hh h3 r1 rfl (fun d => ⟨_, rfl, fun M2 h2 => ?_⟩) fun a M2 la na r2 => ?_
  · show Wp (m_znumber [.h k] M2) _ _
    exact Wp.number h2 fun i M3 hi r3 _ => ⟨i, rfl, hi, r3⟩
  simp only [wp_ok, wp_bind, wp_ite, wps_some, wps_none, wps_ite, wps_bind, wps_seq, seqK_nx, seqK_rt, seqK_xc, seqK_ct, seqK_bk, fnK_rt, fnK_nx, eVar, eC, eSeq2, eSeq1, eNil, eCons, eTB, eTru, tAndD, tOrD, tNotD, eNot, eAnd, eOr, eIf, sNil, sBad, sIf, sRet, sExpr, sAsg, gSet, svR, frz, frzR, eB, eCall, eArity, eLst, eTup, treesM, tYesD, eChain, dat, truth, List.getElem?_cons_zero, List.getElem?_cons_succ, List.set_cons_zero, List.set_cons_succ, List.map_cons, List.map_nil, List.length_cons, List.length_nil, Nat.reduceAdd, if_true, if_false, Bool.false_eq_true, decide_true, decide_false, Bool.not_true, Bool.not_false, frzL, take_len, and_true, true_and, frzL_ds]
  unfold t_zgrid_2
  simp only [sAsg, wps_bind]
  refine wp_drawn (M0 := M) NumOk ww h4 r2 rfl (fun d => ⟨_, rfl, fun M2 h2 => ?_⟩) fun b M3 lb nb r3 => ?_
  · show Wp (m_znumber [.h k] M2) _ _
    exact Wp.number h2 fun i M3 hi r3 _ => ⟨i, rfl, hi, r3⟩
  simp only [wp_ok, wp_bind, wp_ite, wps_some, wps_none, wps_ite, wps_bind, wps_seq, seqK_nx, seqK_rt, seqK_xc, seqK_ct, seqK_bk, fnK_rt, fnK_nx, eVar, eC, eSeq2, eSeq1, eNil, eCons, eTB, eTru, tAndD, tOrD, tNotD, eNot, eAnd, eOr, eIf, sNil, sBad, sIf, sRet, sExpr, sAsg, gSet, svR, frz, frzR, eB, eCall, eArity, eLst, eTup, treesM, tYesD, eChain, dat, truth, List.getElem?_cons_zero, List.getElem?_cons_succ, List.set_cons_zero, List.set_cons_succ, List.map_cons, List.map_nil, List.length_cons, List.length_nil, Nat.reduceAdd, if_true, if_false, Bool.false_eq_true, decide_true, decide_false, Bool.not_true, Bool.not_false, frzL, take_len, and_true, true_and, frzL_ds]
  have fin : ∀ g M', Rc g hh ww → AllG B3 g → RD k M M' → fnK M.length Q E (.rt (.t (rowsT g))) M' := fun g M' H B r => by
    rw [fnK_rt, r.takeL]
    exact q g M' H B (h.trans r) r
  unfold t_zgrid_3
  simp only [wp_ok, wp_bind, wp_ite, wps_some, wps_none, wps_ite, wps_bind, wps_seq, seqK_nx, seqK_rt, seqK_xc, seqK_ct, seqK_bk, fnK_rt, fnK_nx, eVar, eC, eSeq2, eSeq1, eNil, eCons, eTB, eTru, tAndD, tOrD, tNotD, eNot, eAnd, eOr, eIf, sNil, sBad, sIf, sRet, sExpr, sAsg, gSet, svR, frz, frzR, eB, eCall, eArity, eLst, eTup, treesM, tYesD, eChain, dat, truth, List.getElem?_cons_zero, List.getElem?_cons_succ, List.set_cons_zero, List.set_cons_succ, List.map_cons, List.map_nil, List.length_cons, List.length_nil, Nat.reduceAdd, if_true, if_false, Bool.false_eq_true, decide_true, decide_false, Bool.not_true, Bool.not_false, frzL, take_len, and_true, true_and, eqI]
  by_cases c0 : way = 0
  · simp only [wp_ok, wp_bind, wp_ite, wps_some, wps_none, wps_ite, wps_bind, wps_seq, seqK_nx, seqK_rt, seqK_xc, seqK_ct, seqK_bk, fnK_rt, fnK_nx, eVar, eC, eSeq2, eSeq1, eNil, eCons, eTB, eTru, tAndD, tOrD, tNotD, eNot, eAnd, eOr, eIf, sNil, sBad, sIf, sRet, sExpr, sAsg, gSet, svR, frz, frzR, eB, eCall, eArity, eLst, eTup, treesM, tYesD, eChain, dat, truth, List.getElem?_cons_zero, List.getElem?_cons_succ, List.set_cons_zero, List.set_cons_succ, List.map_cons, List.map_nil, List.length_cons, List.length_nil, Nat.reduceAdd, if_true, if_false, Bool.false_eq_true, decide_true, decide_false, Bool.not_true, Bool.not_false, frzL, take_len, and_true, true_and, c0]
    refine wp_drawn2 (P := B3) (M0 := M) h3 h4 r3 rfl (fun _ _ => rfl) (fun x y M4 h4 => ?_) fun g M4 H B r4 => fin g M4 H B r4
    show Wp (m_zdraw [.h k, .d (.int 3)] M4) _ _
    exact Wp.draw h4 (by decide) (by decide) fun i M5 i0 i1 r5 _ => ⟨i, rfl, ⟨by omega, by omega⟩, r5⟩
  simp only [wp_ok, wp_bind, wp_ite, wps_some, wps_none, wps_ite, wps_bind, wps_seq, seqK_nx, seqK_rt, seqK_xc, seqK_ct, seqK_bk, fnK_rt, fnK_nx, eVar, eC, eSeq2, eSeq1, eNil, eCons, eTB, eTru, tAndD, tOrD, tNotD, eNot, eAnd, eOr, eIf, sNil, sBad, sIf, sRet, sExpr, sAsg, gSet, svR, frz, frzR, eB, eCall, eArity, eLst, eTup, treesM, tYesD, eChain, dat, truth, List.getElem?_cons_zero, List.getElem?_cons_succ, List.set_cons_zero, List.set_cons_succ, List.map_cons, List.map_nil, List.length_cons, List.length_nil, Nat.reduceAdd, if_true, if_false, Bool.false_eq_true, decide_true, decide_false, Bool.not_true, Bool.not_false, frzL, take_len, and_true, true_and, c0]
  unfold t_zgrid_4
  simp only [wp_ok, wp_bind, wp_ite, wps_some, wps_none, wps_ite, wps_bind, wps_seq, seqK_nx, seqK_rt, seqK_xc, seqK_ct, seqK_bk, fnK_rt, fnK_nx, eVar, eC, eSeq2, eSeq1, eNil, eCons, eTB, eTru, tAndD, tOrD, tNotD, eNot, eAnd, eOr, eIf, sNil, sBad, sIf, sRet, sExpr, sAsg, gSet, svR, frz, frzR, eB, eCall, eArity, eLst, eTup, treesM, tYesD, eChain, dat, truth, List.getElem?_cons_zero, List.getElem?_cons_succ, List.set_cons_zero, List.set_cons_succ, List.map_cons, List.map_nil, List.length_cons, List.length_nil, Nat.reduceAdd, if_true, if_false, Bool.false_eq_true, decide_true, decide_false, Bool.not_true, Bool.not_false, frzL, take_len, and_true, true_and, eqI]
  by_cases c1 : way = 1
  · simp only [wp_ok, wp_bind, wp_ite, wps_some, wps_none, wps_ite, wps_bind, wps_seq, seqK_nx, seqK_rt, seqK_xc, seqK_ct, seqK_bk, fnK_rt, fnK_nx, eVar, eC, eSeq2, eSeq1, eNil, eCons, eTB, eTru, tAndD, tOrD, tNotD, eNot, eAnd, eOr, eIf, sNil, sBad, sIf, sRet, sExpr, sAsg, gSet, svR, frz, frzR, eB, eCall, eArity, eLst, eTup, treesM, tYesD, eChain, dat, truth, List.getElem?_cons_zero, List.getElem?_cons_succ, List.set_cons_zero, List.set_cons_succ, List.map_cons, List.map_nil, List.length_cons, List.length_nil, Nat.reduceAdd, if_true, if_false, Bool.false_eq_true, decide_true, decide_false, Bool.not_true, Bool.not_false, frzL, take_len, and_true, true_and, c1]
    refine wp_drawn2 (P := B3) (M0 := M) h3 h4 r3 rfl (fun _ _ => rfl) (fun x y M4 h4 => ?_) fun g M4 H B r4 => fin g M4 H B r4
    show Wp (m_znumber [.h k] M4) _ _
    exact Wp.number h4 fun i M5 hi r5 _ => ⟨i, rfl, b23 _ (numB2 _ hi), r5⟩
  simp only [wp_ok, wp_bind, wp_ite, wps_some, wps_none, wps_ite, wps_bind, wps_seq, seqK_nx, seqK_rt, seqK_xc, seqK_ct, seqK_bk, fnK_rt, fnK_nx, eVar, eC, eSeq2, eSeq1, eNil, eCons, eTB, eTru, tAndD, tOrD, tNotD, eNot, eAnd, eOr, eIf, sNil, sBad, sIf, sRet, sExpr, sAsg, gSet, svR, frz, frzR, eB, eCall, eArity, eLst, eTup, treesM, tYesD, eChain, dat, truth, List.getElem?_cons_zero, List.getElem?_cons_succ, List.set_cons_zero, List.set_cons_succ, List.map_cons, List.map_nil, List.length_cons, List.length_nil, Nat.reduceAdd, if_true, if_false, Bool.false_eq_true, decide_true, decide_false, Bool.not_true, Bool.not_false, frzL, take_len, and_true, true_and, c1]
  refine WpS.mono (Φ1 := fun f M' => ∃ g, (Rc g hh ww ∧ AllG B2 g) ∧ M' = M3 ∧ f = .nx [some (.h k), some (.d (.int (hh : Nat))), some (.d (.int (ww : Nat))), some (.d (.int way)), some (.d (.lst (ri a))), some (.d (.lst (ri b))), some (.d (rowsD g)), none, none, none, none, none]) ?_ ?_
  · have lA : a.length ≤ 1000 := by omega
    have lB : b.length ≤ 1000 := by omega
    have rc : ∀ F : Int → Int → Int, (∀ x y, NumOk x → NumOk y → B2 (F x y)) → Rc (a.map fun x => b.map fun y => F x y) hh ww ∧ AllG B2 (a.map fun x => b.map fun y => F x y) := fun F hF => by
      have := Rc.of a b F
      rw [la, lb] at this
      refine ⟨this, fun r hr z hz => ?_⟩
      obtain ⟨x, hx, rfl⟩ := List.mem_map.mp hr
      obtain ⟨y, hy, rfl⟩ := List.mem_map.mp hz
      exact hF x y (na x hx) (nb y hy)
    have n0 : NumOk (a.getD 0 0) := by
      cases a with
      | nil => exact ⟨by decide, by decide⟩
      | cons x r => exact na x List.mem_cons_self
    unfold t_zgrid_5
    simp only [wp_ok, wp_bind, wp_ite, wps_some, wps_none, wps_ite, wps_bind, wps_seq, seqK_nx, seqK_rt, seqK_xc, seqK_ct, seqK_bk, fnK_rt, fnK_nx, eVar, eC, eSeq2, eSeq1, eNil, eCons, eTB, eTru, tAndD, tOrD, tNotD, eNot, eAnd, eOr, eIf, sNil, sBad, sIf, sRet, sExpr, sAsg, gSet, svR, frz, frzR, eB, eCall, eArity, eLst, eTup, treesM, tYesD, eChain, dat, truth, List.getElem?_cons_zero, List.getElem?_cons_succ, List.set_cons_zero, List.set_cons_succ, List.map_cons, List.map_nil, List.length_cons, List.length_nil, Nat.reduceAdd, if_true, if_false, Bool.false_eq_true, decide_true, decide_false, Bool.not_true, Bool.not_false, frzL, take_len, and_true, true_and, eqI]
    by_cases c2 : way = 2
    · simp only [wp_ok, wp_bind, wp_ite, wps_some, wps_none, wps_ite, wps_bind, wps_seq, seqK_nx, seqK_rt, seqK_xc, seqK_ct, seqK_bk, fnK_rt, fnK_nx, eVar, eC, eSeq2, eSeq1, eNil, eCons, eTB, eTru, tAndD, tOrD, tNotD, eNot, eAnd, eOr, eIf, sNil, sBad, sIf, sRet, sExpr, sAsg, gSet, svR, frz, frzR, eB, eCall, eArity, eLst, eTup, treesM, tYesD, eChain, dat, truth, List.getElem?_cons_zero, List.getElem?_cons_succ, List.set_cons_zero, List.set_cons_succ, List.map_cons, List.map_nil, List.length_cons, List.length_nil, Nat.reduceAdd, if_true, if_false, Bool.false_eq_true, decide_true, decide_false, Bool.not_true, Bool.not_false, frzL, take_len, and_true, true_and, c2]
      refine wp_eq (grid_ev (F := fun x y => x + y) lA lB rfl (fun _ => rfl) rfl (fun _ => rfl) fun x _ y => rfl) ?_
      simp only [frz_rowsT]
      exact ⟨_, rc _ (fun x y h1 h2 => ⟨by have := h1.1; have := h2.1; omega, by have := h1.2; have := h2.2; omega⟩), trivial, rfl⟩
    simp only [wp_ok, wp_bind, wp_ite, wps_some, wps_none, wps_ite, wps_bind, wps_seq, seqK_nx, seqK_rt, seqK_xc, seqK_ct, seqK_bk, fnK_rt, fnK_nx, eVar, eC, eSeq2, eSeq1, eNil, eCons, eTB, eTru, tAndD, tOrD, tNotD, eNot, eAnd, eOr, eIf, sNil, sBad, sIf, sRet, sExpr, sAsg, gSet, svR, frz, frzR, eB, eCall, eArity, eLst, eTup, treesM, tYesD, eChain, dat, truth, List.getElem?_cons_zero, List.getElem?_cons_succ, List.set_cons_zero, List.set_cons_succ, List.map_cons, List.map_nil, List.length_cons, List.length_nil, Nat.reduceAdd, if_true, if_false, Bool.false_eq_true, decide_true, decide_false, Bool.not_true, Bool.not_false, frzL, take_len, and_true, true_and, c2]
    by_cases c3 : way = 3
    · simp only [wp_ok, wp_bind, wp_ite, wps_some, wps_none, wps_ite, wps_bind, wps_seq, seqK_nx, seqK_rt, seqK_xc, seqK_ct, seqK_bk, fnK_rt, fnK_nx, eVar, eC, eSeq2, eSeq1, eNil, eCons, eTB, eTru, tAndD, tOrD, tNotD, eNot, eAnd, eOr, eIf, sNil, sBad, sIf, sRet, sExpr, sAsg, gSet, svR, frz, frzR, eB, eCall, eArity, eLst, eTup, treesM, tYesD, eChain, dat, truth, List.getElem?_cons_zero, List.getElem?_cons_succ, List.set_cons_zero, List.set_cons_succ, List.map_cons, List.map_nil, List.length_cons, List.length_nil, Nat.reduceAdd, if_true, if_false, Bool.false_eq_true, decide_true, decide_false, Bool.not_true, Bool.not_false, frzL, take_len, and_true, true_and, c3]
      refine wp_eq (grid_ev (F := fun x y => max x y) lA lB rfl (fun _ => rfl) rfl (fun _ => rfl) fun x _ y => max2 x y _) ?_
      simp only [frz_rowsT]
      exact ⟨_, rc _ (fun x y h1 h2 => ⟨by have := (numB2 x h1).1; have := (numB2 y h2).1; omega, by have := (numB2 x h1).2; have := (numB2 y h2).2; omega⟩), trivial, rfl⟩
    simp only [wp_ok, wp_bind, wp_ite, wps_some, wps_none, wps_ite, wps_bind, wps_seq, seqK_nx, seqK_rt, seqK_xc, seqK_ct, seqK_bk, fnK_rt, fnK_nx, eVar, eC, eSeq2, eSeq1, eNil, eCons, eTB, eTru, tAndD, tOrD, tNotD, eNot, eAnd, eOr, eIf, sNil, sBad, sIf, sRet, sExpr, sAsg, gSet, svR, frz, frzR, eB, eCall, eArity, eLst, eTup, treesM, tYesD, eChain, dat, truth, List.getElem?_cons_zero, List.getElem?_cons_succ, List.set_cons_zero, List.set_cons_succ, List.map_cons, List.map_nil, List.length_cons, List.length_nil, Nat.reduceAdd, if_true, if_false, Bool.false_eq_true, decide_true, decide_false, Bool.not_true, Bool.not_false, frzL, take_len, and_true, true_and, c3]
    by_cases c4 : way = 4
    · simp only [wp_ok, wp_bind, wp_ite, wps_some, wps_none, wps_ite, wps_bind, wps_seq, seqK_nx, seqK_rt, seqK_xc, seqK_ct, seqK_bk, fnK_rt, fnK_nx, eVar, eC, eSeq2, eSeq1, eNil, eCons, eTB, eTru, tAndD, tOrD, tNotD, eNot, eAnd, eOr, eIf, sNil, sBad, sIf, sRet, sExpr, sAsg, gSet, svR, frz, frzR, eB, eCall, eArity, eLst, eTup, treesM, tYesD, eChain, dat, truth, List.getElem?_cons_zero, List.getElem?_cons_succ, List.set_cons_zero, List.set_cons_succ, List.map_cons, List.map_nil, List.length_cons, List.length_nil, Nat.reduceAdd, if_true, if_false, Bool.false_eq_true, decide_true, decide_false, Bool.not_true, Bool.not_false, frzL, take_len, and_true, true_and, c4]
      refine wp_eq (grid_ev (F := fun x y => min x y) lA lB rfl (fun _ => rfl) rfl (fun _ => rfl) fun x _ y => min2 x y _) ?_
      simp only [frz_rowsT]
      exact ⟨_, rc _ (fun x y h1 h2 => ⟨by have := (numB2 x h1).1; have := (numB2 y h2).1; omega, by have := (numB2 x h1).2; have := (numB2 y h2).2; omega⟩), trivial, rfl⟩
    simp only [wp_ok, wp_bind, wp_ite, wps_some, wps_none, wps_ite, wps_bind, wps_seq, seqK_nx, seqK_rt, seqK_xc, seqK_ct, seqK_bk, fnK_rt, fnK_nx, eVar, eC, eSeq2, eSeq1, eNil, eCons, eTB, eTru, tAndD, tOrD, tNotD, eNot, eAnd, eOr, eIf, sNil, sBad, sIf, sRet, sExpr, sAsg, gSet, svR, frz, frzR, eB, eCall, eArity, eLst, eTup, treesM, tYesD, eChain, dat, truth, List.getElem?_cons_zero, List.getElem?_cons_succ, List.set_cons_zero, List.set_cons_succ, List.map_cons, List.map_nil, List.length_cons, List.length_nil, Nat.reduceAdd, if_true, if_false, Bool.false_eq_true, decide_true, decide_false, Bool.not_true, Bool.not_false, frzL, take_len, and_true, true_and, c4]
    by_cases c5 : way = 5
    · simp only [wp_ok, wp_bind, wp_ite, wps_some, wps_none, wps_ite, wps_bind, wps_seq, seqK_nx, seqK_rt, seqK_xc, seqK_ct, seqK_bk, fnK_rt, fnK_nx, eVar, eC, eSeq2, eSeq1, eNil, eCons, eTB, eTru, tAndD, tOrD, tNotD, eNot, eAnd, eOr, eIf, sNil, sBad, sIf, sRet, sExpr, sAsg, gSet, svR, frz, frzR, eB, eCall, eArity, eLst, eTup, treesM, tYesD, eChain, dat, truth, List.getElem?_cons_zero, List.getElem?_cons_succ, List.set_cons_zero, List.set_cons_succ, List.map_cons, List.map_nil, List.length_cons, List.length_nil, Nat.reduceAdd, if_true, if_false, Bool.false_eq_true, decide_true, decide_false, Bool.not_true, Bool.not_false, frzL, take_len, and_true, true_and, c5]
      refine wp_eq (grid_ev (F := fun x _ => x) lA lB rfl (fun _ => rfl) rfl (fun _ => rfl) fun x _ y => rfl) ?_
      simp only [frz_rowsT]
      exact ⟨_, rc _ (fun x y h1 h2 => numB2 x h1), trivial, rfl⟩
    simp only [wp_ok, wp_bind, wp_ite, wps_some, wps_none, wps_ite, wps_bind, wps_seq, seqK_nx, seqK_rt, seqK_xc, seqK_ct, seqK_bk, fnK_rt, fnK_nx, eVar, eC, eSeq2, eSeq1, eNil, eCons, eTB, eTru, tAndD, tOrD, tNotD, eNot, eAnd, eOr, eIf, sNil, sBad, sIf, sRet, sExpr, sAsg, gSet, svR, frz, frzR, eB, eCall, eArity, eLst, eTup, treesM, tYesD, eChain, dat, truth, List.getElem?_cons_zero, List.getElem?_cons_succ, List.set_cons_zero, List.set_cons_succ, List.map_cons, List.map_nil, List.length_cons, List.length_nil, Nat.reduceAdd, if_true, if_false, Bool.false_eq_true, decide_true, decide_false, Bool.not_true, Bool.not_false, frzL, take_len, and_true, true_and, c5]
    by_cases c6 : way = 6
    · simp only [wp_ok, wp_bind, wp_ite, wps_some, wps_none, wps_ite, wps_bind, wps_seq, seqK_nx, seqK_rt, seqK_xc, seqK_ct, seqK_bk, fnK_rt, fnK_nx, eVar, eC, eSeq2, eSeq1, eNil, eCons, eTB, eTru, tAndD, tOrD, tNotD, eNot, eAnd, eOr, eIf, sNil, sBad, sIf, sRet, sExpr, sAsg, gSet, svR, frz, frzR, eB, eCall, eArity, eLst, eTup, treesM, tYesD, eChain, dat, truth, List.getElem?_cons_zero, List.getElem?_cons_succ, List.set_cons_zero, List.set_cons_succ, List.map_cons, List.map_nil, List.length_cons, List.length_nil, Nat.reduceAdd, if_true, if_false, Bool.false_eq_true, decide_true, decide_false, Bool.not_true, Bool.not_false, frzL, take_len, and_true, true_and, c6]
      refine wp_lcT (fun d => match d with | .int x => .lst ((ri (b.map fun y => y)).map T.d) | x => .d x) (wp_eq (iOf_seq false (ri a) rfl) ⟨by rw [List.length_map]; omega, fun d hd => ?_, ?_⟩)
      · obtain ⟨x, hx, rfl⟩ := List.mem_map.mp hd
        refine ⟨_, rfl, wp_eq (a := .t (.lst ((ri b).map T.d))) (M' := M3) rfl ⟨?_, rfl⟩⟩
        simp only [List.map_id']
      · have e : (ri a).map (fun d => match d with | .int x => T.lst ((ri (b.map fun y => y)).map T.d) | x => .d x) = (a.map fun x => b.map fun y => y).map fun r => T.lst ((ri r).map T.d) := by
          show (a.map D.int).map _ = (a.map fun x => b.map fun y => y).map _
          simp only [List.map_map]
          exact List.map_congr_left fun x _ => by simp
        rw [e]
        simp only [show frz (.lst ((a.map fun x => b.map fun y => y).map fun r => T.lst ((ri r).map T.d))) = rowsD (a.map fun x => b.map fun y => y) from frz_rowsT _]
        exact ⟨_, rc _ (fun x y h1 h2 => numB2 y h2), trivial, rfl⟩
    simp only [wp_ok, wp_bind, wp_ite, wps_some, wps_none, wps_ite, wps_bind, wps_seq, seqK_nx, seqK_rt, seqK_xc, seqK_ct, seqK_bk, fnK_rt, fnK_nx, eVar, eC, eSeq2, eSeq1, eNil, eCons, eTB, eTru, tAndD, tOrD, tNotD, eNot, eAnd, eOr, eIf, sNil, sBad, sIf, sRet, sExpr, sAsg, gSet, svR, frz, frzR, eB, eCall, eArity, eLst, eTup, treesM, tYesD, eChain, dat, truth, List.getElem?_cons_zero, List.getElem?_cons_succ, List.set_cons_zero, List.set_cons_succ, List.map_cons, List.map_nil, List.length_cons, List.length_nil, Nat.reduceAdd, if_true, if_false, Bool.false_eq_true, decide_true, decide_false, Bool.not_true, Bool.not_false, frzL, take_len, and_true, true_and, c6]
    refine wp_eq (grid_ev (F := fun x y => a.getD 0 0) lA lB rfl (fun _ => rfl) rfl (fun _ => rfl) fun x _ y => get0L a (by omega) _) ?_
    simp only [frz_rowsT]
    exact ⟨_, rc _ (fun x y h1 h2 => numB2 _ n0), trivial, rfl⟩
  · rintro f M' ⟨g, ⟨H, B⟩, rfl, rfl⟩
    rw [seqK_nx]
    unfold t_zgrid_6
    simp only [wp_ok, wp_bind, wp_ite, wps_some, wps_none, wps_ite, wps_bind, wps_seq, seqK_nx, seqK_rt, seqK_xc, seqK_ct, seqK_bk, fnK_rt, fnK_nx, eVar, eC, eSeq2, eSeq1, eNil, eCons, eTB, eTru, tAndD, tOrD, tNotD, eNot, eAnd, eOr, eIf, sNil, sBad, sIf, sRet, sExpr, sAsg, gSet, svR, frz, frzR, eB, eCall, eArity, eLst, eTup, treesM, tYesD, eChain, dat, truth, List.getElem?_cons_zero, List.getElem?_cons_succ, List.set_cons_zero, List.set_cons_succ, List.map_cons, List.map_nil, List.length_cons, List.length_nil, Nat.reduceAdd, if_true, if_false, Bool.false_eq_true, decide_true, decide_false, Bool.not_true, Bool.not_false, frzL, take_len, and_true, true_and]
    refine Wp.spoilt (M0 := M) r3 H h1 h2 h3 h4 B fun g' M4 H' B' r4 _ => ?_
    simp only [wp_ok, wp_bind, wp_ite, wps_some, wps_none, wps_ite, wps_bind, wps_seq, seqK_nx, seqK_rt, seqK_xc, seqK_ct, seqK_bk, fnK_rt, fnK_nx, eVar, eC, eSeq2, eSeq1, eNil, eCons, eTB, eTru, tAndD, tOrD, tNotD, eNot, eAnd, eOr, eIf, sNil, sBad, sIf, sRet, sExpr, sAsg, gSet, svR, frz, frzR, eB, eCall, eArity, eLst, eTup, treesM, tYesD, eChain, dat, truth, List.getElem?_cons_zero, List.getElem?_cons_succ, List.set_cons_zero, List.set_cons_succ, List.map_cons, List.map_nil, List.length_cons, List.length_nil, Nat.reduceAdd, if_true, if_false, Bool.false_eq_true, decide_true, decide_false, Bool.not_true, Bool.not_false, frzL, take_len, and_true, true_and]
    rw [r4.takeL]
    exact q g' M4 H' B' (h.trans r4) r4
end
end Toy

/-! looks that are drawn; a table made of one; rows, flipped -/
namespace Toy
open PySem L2 DL
section
variable {M0 M M1 M' : Mst} {k : Nat} {g : List (List Int)} {l r : List (List Nat)} {hh ww : Nat} {Q : R → Mst → Prop} {E : Exc → Mst → Prop} {Φ : Fl → Mst → Prop} {ρ : Ev}
theorem Wp.kinds (h : RD k M0 M) (n : Int) (h1 : 1 ≤ n) (h5 : n ≤ 5) (q : ∀ ws M', Sd ws → RD k M0 M' → RD k M M' → Q (.t (.lst ((kd ws).map T.d))) M') : Wp (m_zkinds [.h k, .d (.int n)] M) Q E := by
  obtain ⟨ws, M', e1, e2, e3, e4, e5⟩ := Toy.kinds h.refl n (by omega) (by omega)
  rw [e1]
  exact ⟨q ws M' ⟨by omega, by omega, e4, e5 (by omega)⟩ (h.trans e2) e2⟩
def lookT (l r : List (List Nat)) (g : List (List Int)) : T := .lst [.d (.str "places"), .d (.lst (kd l)), .d (.lst (kd r)), rowsT g, .d (.str "sum"), .d .non]
def lookD (l r : List (List Nat)) (g : List (List Int)) : D := .lst [.str "places", .lst (kd l), .lst (kd r), rowsD g, .str "sum", .non]
theorem frz_look (l r : List (List Nat)) (g : List (List Int)) : frz (lookT l r g) = lookD l r g := by
  unfold lookT lookD
  simp only [frz, frzL, frz_rowsT]
theorem listR_seq (c : Bool) (ds : List D) (M : Mst) : listR [.t (.d (seqD c ds))] M = .ok (.t (.lst (ds.map T.d))) M := by cases c <;> rfl
theorem Wp.plain_look (h : RD k M0 M) (most : Int) (m1 : 1 ≤ most) (m5 : most ≤ 5) (q : ∀ l r g M', Tb l r g → AllG B3 g → RD k M0 M' → RD k M M' → Q (.t (lookT l r g)) M') : Wp (m_zplain_look [.h k, .d (.int most)] M) Q E := by
  refine wp_fn (ρ := [some (.h k), some (.d (.int most)), none, none]) rfl ?_
  unfold b_zplain_look
  rw [wps_seq]; unfold t_zplain_look_0
  simp only [wp_ok, wp_bind, wp_ite, wps_some, wps_none, wps_ite, wps_bind, wps_seq, seqK_nx, seqK_rt, seqK_xc, seqK_ct, seqK_bk, fnK_rt, fnK_nx, eVar, eC, eSeq2, eSeq1, eNil, eCons, eTB, eTru, tAndD, tOrD, tNotD, eNot, eAnd, eOr, eIf, sNil, sBad, sIf, sRet, sExpr, sAsg, gSet, svR, frz, frzR, eB, eCall, eArity, eLst, eTup, treesM, tYesD, eChain, dat, truth, List.getElem?_cons_zero, List.getElem?_cons_succ, List.set_cons_zero, List.set_cons_succ, List.map_cons, List.map_nil, List.length_cons, List.length_nil, Nat.reduceAdd, if_true, if_false, Bool.false_eq_true, decide_true, decide_false, Bool.not_true, Bool.not_false, frzL, take_len, and_true, true_and, sPar2]
  refine Wp.draw h (by omega) (by omega) fun n1 M1 a0 a1 _ r1 => ?_
  simp only [wp_ok, wp_bind, wp_ite, wps_some, wps_none, wps_ite, wps_bind, wps_seq, seqK_nx, seqK_rt, seqK_xc, seqK_ct, seqK_bk, fnK_rt, fnK_nx, eVar, eC, eSeq2, eSeq1, eNil, eCons, eTB, eTru, tAndD, tOrD, tNotD, eNot, eAnd, eOr, eIf, sNil, sBad, sIf, sRet, sExpr, sAsg, gSet, svR, frz, frzR, eB, eCall, eArity, eLst, eTup, treesM, tYesD, eChain, dat, truth, List.getElem?_cons_zero, List.getElem?_cons_succ, List.set_cons_zero, List.set_cons_succ, List.map_cons, List.map_nil, List.length_cons, List.length_nil, Nat.reduceAdd, if_true, if_false, Bool.false_eq_true, decide_true, decide_false, Bool.not_true, Bool.not_false, frzL, take_len, and_true, true_and, addI]
  refine Wp.kinds (M0 := M) r1 (1 + n1) (by omega) (by omega) fun l M2 hl r2 _ => ?_
  simp only [wp_ok, wp_bind, wp_ite, wps_some, wps_none, wps_ite, wps_bind, wps_seq, seqK_nx, seqK_rt, seqK_xc, seqK_ct, seqK_bk, fnK_rt, fnK_nx, eVar, eC, eSeq2, eSeq1, eNil, eCons, eTB, eTru, tAndD, tOrD, tNotD, eNot, eAnd, eOr, eIf, sNil, sBad, sIf, sRet, sExpr, sAsg, gSet, svR, frz, frzR, eB, eCall, eArity, eLst, eTup, treesM, tYesD, eChain, dat, truth, List.getElem?_cons_zero, List.getElem?_cons_succ, List.set_cons_zero, List.set_cons_succ, List.map_cons, List.map_nil, List.length_cons, List.length_nil, Nat.reduceAdd, if_true, if_false, Bool.false_eq_true, decide_true, decide_false, Bool.not_true, Bool.not_false, frzL, take_len, and_true, true_and]
  refine Wp.draw (M0 := M) r2 (by omega) (by omega) fun n2 M3 b0 b1 r3 _ => ?_
  simp only [wp_ok, wp_bind, wp_ite, wps_some, wps_none, wps_ite, wps_bind, wps_seq, seqK_nx, seqK_rt, seqK_xc, seqK_ct, seqK_bk, fnK_rt, fnK_nx, eVar, eC, eSeq2, eSeq1, eNil, eCons, eTB, eTru, tAndD, tOrD, tNotD, eNot, eAnd, eOr, eIf, sNil, sBad, sIf, sRet, sExpr, sAsg, gSet, svR, frz, frzR, eB, eCall, eArity, eLst, eTup, treesM, tYesD, eChain, dat, truth, List.getElem?_cons_zero, List.getElem?_cons_succ, List.set_cons_zero, List.set_cons_succ, List.map_cons, List.map_nil, List.length_cons, List.length_nil, Nat.reduceAdd, if_true, if_false, Bool.false_eq_true, decide_true, decide_false, Bool.not_true, Bool.not_false, frzL, take_len, and_true, true_and, addI]
  refine Wp.kinds (M0 := M) r3 (1 + n2) (by omega) (by omega) fun rr M4 hr r4 _ => ?_
  simp only [wp_ok, wp_bind, wp_ite, wps_some, wps_none, wps_ite, wps_bind, wps_seq, seqK_nx, seqK_rt, seqK_xc, seqK_ct, seqK_bk, fnK_rt, fnK_nx, eVar, eC, eSeq2, eSeq1, eNil, eCons, eTB, eTru, tAndD, tOrD, tNotD, eNot, eAnd, eOr, eIf, sNil, sBad, sIf, sRet, sExpr, sAsg, gSet, svR, frz, frzR, eB, eCall, eArity, eLst, eTup, treesM, tYesD, eChain, dat, truth, List.getElem?_cons_zero, List.getElem?_cons_succ, List.set_cons_zero, List.set_cons_succ, List.map_cons, List.map_nil, List.length_cons, List.length_nil, Nat.reduceAdd, if_true, if_false, Bool.false_eq_true, decide_true, decide_false, Bool.not_true, Bool.not_false, frzL, take_len, and_true, true_and, frzL_ds]
  unfold t_zplain_look_1
  simp only [wp_ok, wp_bind, wp_ite, wps_some, wps_none, wps_ite, wps_bind, wps_seq, seqK_nx, seqK_rt, seqK_xc, seqK_ct, seqK_bk, fnK_rt, fnK_nx, eVar, eC, eSeq2, eSeq1, eNil, eCons, eTB, eTru, tAndD, tOrD, tNotD, eNot, eAnd, eOr, eIf, sNil, sBad, sIf, sRet, sExpr, sAsg, gSet, svR, frz, frzR, eB, eCall, eArity, eLst, eTup, treesM, tYesD, eChain, dat, truth, List.getElem?_cons_zero, List.getElem?_cons_succ, List.set_cons_zero, List.set_cons_succ, List.map_cons, List.map_nil, List.length_cons, List.length_nil, Nat.reduceAdd, if_true, if_false, Bool.false_eq_true, decide_true, decide_false, Bool.not_true, Bool.not_false, frzL, take_len, and_true, true_and]
  refine Wp.draw (M0 := M) r4 (by decide) (by decide) fun c M5 c0 c1 r5 _ => ?_
  have fin : ∀ (rr : List (List Nat)), Sd rr → WpS (t_zplain_look_2 [some (.h k), some (.d (.int most)), some (.d (.lst (kd l))), some (.d (.lst (kd rr)))] M5) (fnK M.length Q E) := by
    intro rr hr
    unfold t_zplain_look_2
    have e1 : scL lenD [.t (.d (.lst (kd l)))] M5 = .ok (.t (.d (.int (l.length : Nat)))) M5 := by rw [lenL, List.length_map]
    have e2 : scL lenD [.t (.d (.lst (kd rr)))] M5 = .ok (.t (.d (.int (rr.length : Nat)))) M5 := by rw [lenL, List.length_map]
    simp only [wp_ok, wp_bind, wp_ite, wps_some, wps_none, wps_ite, wps_bind, wps_seq, seqK_nx, seqK_rt, seqK_xc, seqK_ct, seqK_bk, fnK_rt, fnK_nx, eVar, eC, eSeq2, eSeq1, eNil, eCons, eTB, eTru, tAndD, tOrD, tNotD, eNot, eAnd, eOr, eIf, sNil, sBad, sIf, sRet, sExpr, sAsg, gSet, svR, frz, frzR, eB, eCall, eArity, eLst, eTup, treesM, tYesD, eChain, dat, truth, List.getElem?_cons_zero, List.getElem?_cons_succ, List.set_cons_zero, List.set_cons_succ, List.map_cons, List.map_nil, List.length_cons, List.length_nil, Nat.reduceAdd, if_true, if_false, Bool.false_eq_true, decide_true, decide_false, Bool.not_true, Bool.not_false, frzL, take_len, and_true, true_and, e1, e2]
    refine Wp.grid (M0 := M) r5 hl.l1 hr.l1 (by have := hl.l5; omega) (by have := hr.l5; omega) fun g M6 hg hB r6 _ => ?_
    simp only [wp_ok, wp_bind, wp_ite, wps_some, wps_none, wps_ite, wps_bind, wps_seq, seqK_nx, seqK_rt, seqK_xc, seqK_ct, seqK_bk, fnK_rt, fnK_nx, eVar, eC, eSeq2, eSeq1, eNil, eCons, eTB, eTru, tAndD, tOrD, tNotD, eNot, eAnd, eOr, eIf, sNil, sBad, sIf, sRet, sExpr, sAsg, gSet, svR, frz, frzR, eB, eCall, eArity, eLst, eTup, treesM, tYesD, eChain, dat, truth, List.getElem?_cons_zero, List.getElem?_cons_succ, List.set_cons_zero, List.set_cons_succ, List.map_cons, List.map_nil, List.length_cons, List.length_nil, Nat.reduceAdd, if_true, if_false, Bool.false_eq_true, decide_true, decide_false, Bool.not_true, Bool.not_false, frzL, take_len, and_true, true_and, Nat.reduceLeDiff]
    rw [r6.takeL]
    exact q l rr g M6 ⟨hl, hr, hg⟩ hB (h.trans r6) r6
  simp only [wp_ok, wp_bind, wp_ite, wps_some, wps_none, wps_ite, wps_bind, wps_seq, seqK_nx, seqK_rt, seqK_xc, seqK_ct, seqK_bk, fnK_rt, fnK_nx, eVar, eC, eSeq2, eSeq1, eNil, eCons, eTB, eTru, tAndD, tOrD, tNotD, eNot, eAnd, eOr, eIf, sNil, sBad, sIf, sRet, sExpr, sAsg, gSet, svR, frz, frzR, eB, eCall, eArity, eLst, eTup, treesM, tYesD, eChain, dat, truth, List.getElem?_cons_zero, List.getElem?_cons_succ, List.set_cons_zero, List.set_cons_succ, List.map_cons, List.map_nil, List.length_cons, List.length_nil, Nat.reduceAdd, if_true, if_false, Bool.false_eq_true, decide_true, decide_false, Bool.not_true, Bool.not_false, frzL, take_len, and_true, true_and, eqI]
  by_cases hc : c = 0
  · simp only [wp_ok, wp_bind, wp_ite, wps_some, wps_none, wps_ite, wps_bind, wps_seq, seqK_nx, seqK_rt, seqK_xc, seqK_ct, seqK_bk, fnK_rt, fnK_nx, eVar, eC, eSeq2, eSeq1, eNil, eCons, eTB, eTru, tAndD, tOrD, tNotD, eNot, eAnd, eOr, eIf, sNil, sBad, sIf, sRet, sExpr, sAsg, gSet, svR, frz, frzR, eB, eCall, eArity, eLst, eTup, treesM, tYesD, eChain, dat, truth, List.getElem?_cons_zero, List.getElem?_cons_succ, List.set_cons_zero, List.set_cons_succ, List.map_cons, List.map_nil, List.length_cons, List.length_nil, Nat.reduceAdd, if_true, if_false, Bool.false_eq_true, decide_true, decide_false, Bool.not_true, Bool.not_false, frzL, take_len, and_true, true_and, hc, show listR [.t (.d (.lst (kd l)))] M5 = .ok (.t (.lst ((kd l).map T.d))) M5 from rfl, frzL_ds]
    exact fin l hl
  · simp only [wp_ok, wp_bind, wp_ite, wps_some, wps_none, wps_ite, wps_bind, wps_seq, seqK_nx, seqK_rt, seqK_xc, seqK_ct, seqK_bk, fnK_rt, fnK_nx, eVar, eC, eSeq2, eSeq1, eNil, eCons, eTB, eTru, tAndD, tOrD, tNotD, eNot, eAnd, eOr, eIf, sNil, sBad, sIf, sRet, sExpr, sAsg, gSet, svR, frz, frzR, eB, eCall, eArity, eLst, eTup, treesM, tYesD, eChain, dat, truth, List.getElem?_cons_zero, List.getElem?_cons_succ, List.set_cons_zero, List.set_cons_succ, List.map_cons, List.map_nil, List.length_cons, List.length_nil, Nat.reduceAdd, if_true, if_false, Bool.false_eq_true, decide_true, decide_false, Bool.not_true, Bool.not_false, frzL, take_len, and_true, true_and, hc]
    exact fin rr hr
/-! ### a table made -/
theorem svR_tab (l r : List (List Nat)) (g : List (List Int)) : svR (.t (tabT l r g)) = .d (tabD l r g) := by
  show SV.d (frz (tabT l r g)) = _
  unfold tabT tabD tabF
  simp only [frz, frzF, frzL_ds]
theorem make_ev (c1 c2 c3 c4 : Bool) (H : Tb l r g) {A : DenA} {a b c : R} (hA : A ρ M = .ok [a, b, c] M1) (ha : svR a = .d (seqD c1 (kd l))) (hb : svR b = .d (seqD c2 (kd r))) (hc : svR c = .d (seqD c3 (g.map fun r => seqD c4 (ri r)))) :
    eMake "Table" 4 m_Table_init A ρ M = .ok (.t (tabT l r g)) M1 := by
  unfold eMake
  rw [hA]
  simp only [Out.bind, List.length_cons, List.length_nil, Nat.reduceAdd, ↓reduceIte, List.map_cons, List.map_nil, ha, hb, hc]
  have e := tableInit (M := M1 ++ [T.ins "Table" []]) c1 c2 c3 c4 H (k := M1.length) (at_last M1 _)
  rw [e, set_last]
  show Out.ok (R.t ((M1 ++ [tabT l r g]).getD M1.length (.d .non))) ((M1 ++ [tabT l r g]).take M1.length) = _
  rw [getD_last, take_last]
theorem svR_lst' (ds : List D) : svR (.t (.lst (ds.map T.d))) = .d (.lst ds) := svR_lst ds
/-! ### its methods -/
theorem fld_tab (M : Mst) : fldR ["Table"] "left_kinds" (.t (.d (tabD l r g))) M = .ok (.t (.d (tpD (kd l)))) M ∧ fldR ["Table"] "right_kinds" (.t (.d (tabD l r g))) M = .ok (.t (.d (tpD (kd r)))) M ∧
    fldR ["Table"] "value_rows" (.t (.d (tabD l r g))) M = .ok (.t (.d (tpD (g.map fun r => tpD (ri r))))) M ∧ fldR ["Table"] "cells" (.t (.d (tabD l r g))) M = .ok (.t (.d (.lst (ri g.flatten)))) M := by
  have e : ∀ f d, List.lookup f (tabF l r g) = some d → fldR ["Table"] f (.t (.d (tabD l r g))) M = .ok (.t (.d d)) M := fun f d h => by
    show (match (if (["Table"] : List Str).contains "Table" = true then List.lookup f (tabF l r g) else none) with
      | some y => Out.ok (R.t (.d y)) M
      | none => .bad) = _
    rw [if_pos (by decide), h]
  refine ⟨e _ _ ?_, e _ _ ?_, e _ _ ?_, e _ _ ?_⟩ <;> unfold tabF
  · rw [lk_eq]
  · rw [lk_ne _ _ k12, lk_eq]
  · rw [lk_ne _ _ k13, lk_ne _ _ k23, lk_eq]
  · rw [lk_ne _ _ k14, lk_ne _ _ k24, lk_ne _ _ k34, lk_eq]
def tabN : List Str := ["left_kinds", "right_kinds", "value_rows", "cells"]
theorem insOf_tab (M : Mst) : insOf M (.t (.d (tabD l r g))) = some (("Table" : Str), tabN) := rfl
theorem meth_ev {m : Str} {n : Nat} {G : Fn} {Fo : Den} {A : DenA} {rs : List R} (ho : Fo ρ M = .ok (.t (.d (tabD l r g))) M1) (hm : m ∉ tabN) (hA : A ρ M1 = .ok rs M') (hn : rs.length + 1 = n) : eMeth "Table" m n G Fo A ρ M = G (.d (tabD l r g) :: rs.map svR) M' := by
  unfold eMeth
  rw [ho]
  show (match insOf M1 (.t (.d (tabD l r g))) with
    | some (c', ns) => if c' = "Table" ∧ m ∉ ns then (A ρ M1).bind fun rs M2 => if (R.t (.d (tabD l r g)) :: rs).length = n then G ((R.t (.d (tabD l r g)) :: rs).map svR) M2 else .bad else .bad
    | none => .bad) = _
  rw [insOf_tab]
  simp only [hm, not_false_eq_true, and_self, ↓reduceIte, hA, Out.bind, List.length_cons, hn]
  rfl
theorem rows_of (M : Mst) : m_Table_rows [.d (tabD l r g)] M = .ok (.t (rowsT g)) M ∨ 1000000 < g.length := by
  by_cases hg : g.length ≤ 1000000
  · refine .inl (ok_of (wp_fn (ρ := [some (.d (tabD l r g)), none]) rfl ?_))
    unfold b_Table_rows
    simp only [sRet, wps_bind]
    refine wp_lcT (fun d => match d with | .tupP _ ds => .lst (ds.map T.d) | x => .d x) (wp_eq (iOf_seq true (g.map fun r => tpD (ri r)) (M1 := M) (fld_tab (l := l) (r := r) M).2.2.1) ⟨by rw [List.length_map]; exact hg, fun d hd => ?_, ?_⟩)
    · obtain ⟨x, _, rfl⟩ := List.mem_map.mp hd
      exact ⟨_, rfl, wp_eq (a := .t (.lst ((ri x).map T.d))) (M' := M) rfl ⟨rfl, rfl⟩⟩
    · rw [List.map_map]
      simp only [wp_ok, wp_bind, wp_ite, wps_some, wps_none, wps_ite, wps_bind, wps_seq, seqK_nx, seqK_rt, seqK_xc, seqK_ct, seqK_bk, fnK_rt, fnK_nx, eVar, eC, eSeq2, eSeq1, eNil, eCons, eTB, eTru, tAndD, tOrD, tNotD, eNot, eAnd, eOr, eIf, sNil, sBad, sIf, sRet, sExpr, sAsg, gSet, svR, frz, frzR, eB, eCall, eArity, eLst, eTup, treesM, tYesD, eChain, dat, truth, List.getElem?_cons_zero, List.getElem?_cons_succ, List.set_cons_zero, List.set_cons_succ, List.map_cons, List.map_nil, List.length_cons, List.length_nil, Nat.reduceAdd, if_true, if_false, Bool.false_eq_true, decide_true, decide_false, Bool.not_true, Bool.not_false, frzL, take_len, and_true, true_and]
      rfl
  · exact .inr (by omega)
end
end Toy

/-! k10: sums of tables -/
namespace Toy
open PySem L2 DL
section
variable {M0 M M1 M' : Mst} {k : Nat} {g g' : List (List Int)} {l r : List (List Nat)} {hh ww : Nat} {Q : R → Mst → Prop} {E : Exc → Mst → Prop} {Φ : Fl → Mst → Prop} {ρ : Ev}
theorem eqvAll_ints : ∀ a b : List Int, PyData.eqvAll (pydL (ri a)) (pydL (ri b)) = decide (a = b)
  | [], [] => rfl
  | [], _ :: _ => rfl
  | _ :: _, [] => rfl
  | x :: a, y :: b => by
    have ih := eqvAll_ints a b
    show (PyData.eqv (.int x) (.int y) && PyData.eqvAll (pydL (ri a)) (pydL (ri b))) = _
    rw [ih]
    show ((x == y) && decide (a = b)) = _
    by_cases h1 : x = y
    · subst h1; by_cases h2 : a = b
      · subst h2; simp
      · simp [h2]
    · simp [h1]
theorem okD_ints (a : List Int) : okD 12 (.lst (ri a)) = true := by
  show (ri a).all (okD 11) = true
  rw [List.all_eq_true]
  intro d hd
  obtain ⟨i, _, rfl⟩ := List.mem_map.mp hd
  rfl
theorem eqInts {r1 r2 : R} {a b : List Int} (h1 : frzR M r1 = .lst (ri a)) (h2 : frzR M r2 = .lst (ri b)) : eqR r1 r2 M = .ok (.t (.d (.bl (decide (a = b))))) M := by
  show (if ((fun a b => isStr a && isStr b) (frzR M r1) (frzR M r2)) = true then _ else sc2 eqOp r1 r2 M) = _
  rw [h1, h2, if_neg (show ¬ ((fun a b => isStr a && isStr b) (D.lst (ri a)) (D.lst (ri b))) = true from fun z => nomatch (show false = true from z))]
  show (match eqOp (frzR M r1) (frzR M r2) with | some x => Out.ok (R.t (.d x)) M | none => .bad) = _
  rw [h1, h2]
  unfold eqOp
  rw [if_pos ⟨okD_ints a, okD_ints b⟩]
  show Out.ok (R.t (.d (.bl (eqv (.lst (ri a)) (.lst (ri b)))))) M = _
  rw [show eqv (.lst (ri a)) (.lst (ri b)) = PyData.eqvAll (pydL (ri a)) (pydL (ri b)) from rfl, eqvAll_ints]
theorem getSeq (c : Bool) (ds : List D) (i : Int) (M : Mst) (h0 : 0 ≤ i) (h1 : i < ds.length) : getR (.t (.d (seqD c ds))) (.t (.d (.int i))) M = .ok (.t (.d (ds.getD i.toNat .non))) M := by
  cases c with
  | false => exact getLst ds i M h0 h1
  | true =>
    obtain ⟨j, rfl⟩ : ∃ j : Nat, i = (j : Int) := ⟨i.toNat, by omega⟩
    have hj : j < ds.length := by omega
    show (match atI (ds.map T.d) (j : Int) with | some t => _ | none => _) = _
    rw [atI_nat (x := T.d ds[j]) _ j (by simp [hj])]
    simp [hj]
theorem getD_ri (r : List Int) {j : Nat} (h : j < r.length) : (ri r).getD j .non = .int (r.getD j 0) := by
  rw [List.getD_eq_getElem?_getD, List.getD_eq_getElem?_getD, List.getElem?_map, List.getElem?_eq_getElem h]; rfl
/-! ### kinds compared -/
theorem eqvAll_strs : ∀ a b : List (List Nat), PyData.eqvAll (pydL (kd a)) (pydL (kd b)) = decide (a = b)
  | [], [] => rfl
  | [], _ :: _ => rfl
  | _ :: _, [] => rfl
  | x :: a, y :: b => by
    have ih := eqvAll_strs a b
    show (PyData.eqv (.str (S x)) (.str (S y)) && PyData.eqvAll (pydL (kd a)) (pydL (kd b))) = _
    rw [ih]
    have e : PyData.eqv (.str (S x)) (.str (S y)) = decide (x = y) := by
      show eqv (.str (S x)) (.str (S y)) = _
      rw [eqv_str]
      rw [decide_eq_decide]
      refine ⟨fun e => ?_, fun e => by rw [e]⟩
      have : (S x).cps.toList = (S y).cps.toList := by rw [e]
      simpa using this
    rw [e]
    by_cases h1 : x = y
    · subst h1; by_cases h2 : a = b
      · subst h2; simp
      · simp [h2]
    · simp [h1]
/-- words that are not too long to be compared within lists -/
def Wok (a : List (List Nat)) : Prop := ∀ w ∈ a, ∀ c ∈ w, c < 1114112
theorem Sd.wok {a : List (List Nat)} (h : Sd a) : Wok a := fun w hw c hc => (show ∀ c ∈ abc, c < 1114112 by decide) c ((h.ok w hw).2.2 c hc)
theorem okD_strs {a : List (List Nat)} (h : Wok a) : okD 12 (tpD (kd a)) = true := by
  show (kd a).all (okD 11) = true
  rw [List.all_eq_true]
  intro d hd
  obtain ⟨i, hi, rfl⟩ := List.mem_map.mp hd
  have := h i hi
  show (S i).cps.all (fun x => decide (x < 1114112)) = true
  rw [← Array.all_toList, List.all_eq_true]
  intro c hc
  exact decide_eq_true (this c (by simpa using hc))
theorem ne_of {a b x : D} (hs : (isStr a && isStr b) = false) (h : neOp a b = some x) (M : Mst) : neR (.t (.d a)) (.t (.d b)) M = .ok (.t (.d x)) M := by
  show (if (isStr a && isStr b) = true then sc2 strNe (.t (.d a)) (.t (.d b)) M else sc2 neOp (.t (.d a)) (.t (.d b)) M) = _
  rw [hs, if_neg (fun z => nomatch z)]
  show (match neOp a b with | some x => Out.ok (R.t (.d x)) M | none => .bad) = _
  rw [h]
theorem eq_of {a b x : D} (hs : (isStr a && isStr b) = false) (h : eqOp a b = some x) (M : Mst) : eqR (.t (.d a)) (.t (.d b)) M = .ok (.t (.d x)) M := by
  show (if (isStr a && isStr b) = true then sc2 strEq (.t (.d a)) (.t (.d b)) M else sc2 eqOp (.t (.d a)) (.t (.d b)) M) = _
  rw [hs, if_neg (fun z => nomatch z)]
  show (match eqOp a b with | some x => Out.ok (R.t (.d x)) M | none => .bad) = _
  rw [h]
theorem eqvK (a b : List (List Nat)) : eqv (tpD (kd a)) (tpD (kd b)) = decide (a = b) := eqvAll_strs a b
theorem neKinds {a b : List (List Nat)} (ha : Wok a) (hb : Wok b) (M : Mst) : neR (.t (.d (tpD (kd a)))) (.t (.d (tpD (kd b)))) M = .ok (.t (.d (.bl (!decide (a = b))))) M :=
  ne_of rfl (by unfold neOp; rw [if_pos ⟨okD_strs ha, okD_strs hb⟩, eqvK]) M
theorem eqKinds {a b : List (List Nat)} (ha : Wok a) (hb : Wok b) (M : Mst) : eqR (.t (.d (tpD (kd a)))) (.t (.d (tpD (kd b)))) M = .ok (.t (.d (.bl (decide (a = b))))) M :=
  eq_of rfl (by unfold eqOp; rw [if_pos ⟨okD_strs ha, okD_strs hb⟩, eqvK]) M
/-! ### rows of numbers compared -/
theorem eqvAll_rows : ∀ a b : List (List Int), PyData.eqvAll (pydL (a.map fun r => tpD (ri r))) (pydL (b.map fun r => tpD (ri r))) = decide (a = b)
  | [], [] => rfl
  | [], _ :: _ => rfl
  | _ :: _, [] => rfl
  | x :: a, y :: b => by
    have ih := eqvAll_rows a b
    show (PyData.eqvAll (pydL (ri x)) (pydL (ri y)) && PyData.eqvAll (pydL (a.map fun r => tpD (ri r))) (pydL (b.map fun r => tpD (ri r)))) = _
    rw [ih, eqvAll_ints]
    by_cases h1 : x = y
    · subst h1; by_cases h2 : a = b
      · subst h2; simp
      · simp [h2]
    · simp [h1]
theorem okD_rows (a : List (List Int)) : okD 12 (tpD (a.map fun r => tpD (ri r))) = true := by
  show (a.map fun r => tpD (ri r)).all (okD 11) = true
  rw [List.all_eq_true]
  intro d hd
  obtain ⟨i, _, rfl⟩ := List.mem_map.mp hd
  show (ri i).all (okD 10) = true
  rw [List.all_eq_true]
  intro d hd
  obtain ⟨j, _, rfl⟩ := List.mem_map.mp hd
  rfl
theorem eqvR (a b : List (List Int)) : eqv (tpD (a.map fun r => tpD (ri r))) (tpD (b.map fun r => tpD (ri r))) = decide (a = b) := eqvAll_rows a b
theorem eqRows (a b : List (List Int)) (M : Mst) : eqR (.t (.d (tpD (a.map fun r => tpD (ri r))))) (.t (.d (tpD (b.map fun r => tpD (ri r))))) M = .ok (.t (.d (.bl (decide (a = b))))) M :=
  eq_of rfl (by unfold eqOp; rw [if_pos ⟨okD_rows a, okD_rows b⟩, eqvR]) M
/-! ### the methods -/
theorem insC_tab (M : Mst) : insC "Table" M (.t (.d (tabD l r g))) = true := by
  unfold insC
  rw [insOf_tab]
  exact decide_eq_true rfl
theorem insOf_isi (M : Mst) : isiC2R "Table" [.t (.d (tabD l r g)), .t (.d (.glo "Table"))] M = .ok (.t (.d (.bl true))) M := by
  unfold isiC2R
  exact if_pos ⟨rfl, insC_tab M⟩
theorem tabEq {l r l' r' : List (List Nat)} {g g' : List (List Int)} (H : Tb l r g) (H' : Tb l' r' g') (M : Mst) : m_Table_eq [.d (tabD l r g), .d (tabD l' r' g')] M = .ok (.t (.d (.bl (decide (l = l' ∧ r = r' ∧ g = g'))))) M :=
  ok_of (wp_fn (ρ := [some (.d (tabD l r g)), some (.d (tabD l' r' g'))]) rfl (by
    unfold b_Table_eq
    rw [wps_seq]; unfold t_Table_eq_0
    obtain ⟨a1, a2, a3, a4⟩ := fld_tab (l := l) (r := r) (g := g) M
    obtain ⟨b1, b2, b3, b4⟩ := fld_tab (l := l') (r := r') (g := g') M
    simp only [wp_ok, wp_bind, wp_ite, wps_some, wps_none, wps_ite, wps_bind, wps_seq, seqK_nx, seqK_rt, seqK_xc, seqK_ct, seqK_bk, fnK_rt, fnK_nx, eVar, eC, eSeq2, eSeq1, eNil, eCons, eTB, eTru, tAndD, tOrD, tNotD, eNot, eAnd, eOr, eIf, sNil, sBad, sIf, sRet, sExpr, sAsg, gSet, svR, frz, frzR, eB, eCall, eArity, eLst, eTup, treesM, tYesD, eChain, dat, truth, List.getElem?_cons_zero, List.getElem?_cons_succ, List.set_cons_zero, List.set_cons_succ, List.map_cons, List.map_nil, List.length_cons, List.length_nil, Nat.reduceAdd, if_true, if_false, Bool.false_eq_true, decide_true, decide_false, Bool.not_true, Bool.not_false, frzL, take_len, and_true, true_and, eFld, insOf_isi, a1, b1, neKinds H.hl.wok H'.hl.wok]
    by_cases h1 : l = l'
    · rw [decide_eq_true h1]
      simp only [wp_ok, wp_bind, wp_ite, wps_some, wps_none, wps_ite, wps_bind, wps_seq, seqK_nx, seqK_rt, seqK_xc, seqK_ct, seqK_bk, fnK_rt, fnK_nx, eVar, eC, eSeq2, eSeq1, eNil, eCons, eTB, eTru, tAndD, tOrD, tNotD, eNot, eAnd, eOr, eIf, sNil, sBad, sIf, sRet, sExpr, sAsg, gSet, svR, frz, frzR, eB, eCall, eArity, eLst, eTup, treesM, tYesD, eChain, dat, truth, List.getElem?_cons_zero, List.getElem?_cons_succ, List.set_cons_zero, List.set_cons_succ, List.map_cons, List.map_nil, List.length_cons, List.length_nil, Nat.reduceAdd, if_true, if_false, Bool.false_eq_true, decide_true, decide_false, Bool.not_true, Bool.not_false, frzL, take_len, and_true, true_and]
      unfold t_Table_eq_1
      simp only [wp_ok, wp_bind, wp_ite, wps_some, wps_none, wps_ite, wps_bind, wps_seq, seqK_nx, seqK_rt, seqK_xc, seqK_ct, seqK_bk, fnK_rt, fnK_nx, eVar, eC, eSeq2, eSeq1, eNil, eCons, eTB, eTru, tAndD, tOrD, tNotD, eNot, eAnd, eOr, eIf, sNil, sBad, sIf, sRet, sExpr, sAsg, gSet, svR, frz, frzR, eB, eCall, eArity, eLst, eTup, treesM, tYesD, eChain, dat, truth, List.getElem?_cons_zero, List.getElem?_cons_succ, List.set_cons_zero, List.set_cons_succ, List.map_cons, List.map_nil, List.length_cons, List.length_nil, Nat.reduceAdd, if_true, if_false, Bool.false_eq_true, decide_true, decide_false, Bool.not_true, Bool.not_false, frzL, take_len, and_true, true_and, eFld, a2, b2, a3, b3, eqKinds H.hr.wok H'.hr.wok, eqRows]
      by_cases h2 : r = r'
      · rw [decide_eq_true h2]
        simp only [wp_ok, wp_bind, wp_ite, wps_some, wps_none, wps_ite, wps_bind, wps_seq, seqK_nx, seqK_rt, seqK_xc, seqK_ct, seqK_bk, fnK_rt, fnK_nx, eVar, eC, eSeq2, eSeq1, eNil, eCons, eTB, eTru, tAndD, tOrD, tNotD, eNot, eAnd, eOr, eIf, sNil, sBad, sIf, sRet, sExpr, sAsg, gSet, svR, frz, frzR, eB, eCall, eArity, eLst, eTup, treesM, tYesD, eChain, dat, truth, List.getElem?_cons_zero, List.getElem?_cons_succ, List.set_cons_zero, List.set_cons_succ, List.map_cons, List.map_nil, List.length_cons, List.length_nil, Nat.reduceAdd, if_true, if_false, Bool.false_eq_true, decide_true, decide_false, Bool.not_true, Bool.not_false, frzL, take_len, and_true, true_and, h1, h2]
      · rw [decide_eq_false h2]
        simp only [wp_ok, wp_bind, wp_ite, wps_some, wps_none, wps_ite, wps_bind, wps_seq, seqK_nx, seqK_rt, seqK_xc, seqK_ct, seqK_bk, fnK_rt, fnK_nx, eVar, eC, eSeq2, eSeq1, eNil, eCons, eTB, eTru, tAndD, tOrD, tNotD, eNot, eAnd, eOr, eIf, sNil, sBad, sIf, sRet, sExpr, sAsg, gSet, svR, frz, frzR, eB, eCall, eArity, eLst, eTup, treesM, tYesD, eChain, dat, truth, List.getElem?_cons_zero, List.getElem?_cons_succ, List.set_cons_zero, List.set_cons_succ, List.map_cons, List.map_nil, List.length_cons, List.length_nil, Nat.reduceAdd, if_true, if_false, Bool.false_eq_true, decide_true, decide_false, Bool.not_true, Bool.not_false, frzL, take_len, and_true, true_and, h2, false_and, and_false]
    · rw [decide_eq_false h1]
      simp only [wp_ok, wp_bind, wp_ite, wps_some, wps_none, wps_ite, wps_bind, wps_seq, seqK_nx, seqK_rt, seqK_xc, seqK_ct, seqK_bk, fnK_rt, fnK_nx, eVar, eC, eSeq2, eSeq1, eNil, eCons, eTB, eTru, tAndD, tOrD, tNotD, eNot, eAnd, eOr, eIf, sNil, sBad, sIf, sRet, sExpr, sAsg, gSet, svR, frz, frzR, eB, eCall, eArity, eLst, eTup, treesM, tYesD, eChain, dat, truth, List.getElem?_cons_zero, List.getElem?_cons_succ, List.set_cons_zero, List.set_cons_succ, List.map_cons, List.map_nil, List.length_cons, List.length_nil, Nat.reduceAdd, if_true, if_false, Bool.false_eq_true, decide_true, decide_false, Bool.not_true, Bool.not_false, frzL, take_len, and_true, true_and, h1, false_and]))
theorem memD_strs (x : List Nat) (ws : List (List Nat)) : memD (.str (S x)) (kd ws) = decide (x ∈ ws) := by
  unfold memD
  rw [List.any_map]
  have : ((fun y => eqv y (D.str (S x))) ∘ fun l => D.str (S l)) = fun l => decide (l = x) := by
    funext l
    show eqv (.str (S l)) (.str (S x)) = _
    rw [eqv_str]
    congr 1
    refine propext ⟨fun e => ?_, fun e => by rw [e]⟩
    have : (S l).cps.toList = (S x).cps.toList := by rw [e]
    simpa using this
  rw [this, Bool.eq_iff_iff, List.any_eq_true, decide_eq_true_eq]
  exact ⟨fun ⟨y, h1, h2⟩ => by simp at h2; exact h2 ▸ h1, fun h => ⟨x, h, by simp⟩⟩
theorem flat_kd (ws : List (List Nat)) : (kd ws).all flatD = true := by
  rw [List.all_eq_true]
  intro d hd
  obtain ⟨w, _, rfl⟩ := List.mem_map.mp hd
  rfl
theorem in_seq (neg c : Bool) (x : List Nat) (ws : List (List Nat)) (M : Mst) : sc2 (inOp neg) (.t (.d (.str (S x)))) (.t (.d (seqD c (kd ws)))) M = .ok (.t (.d (.bl (if neg then !decide (x ∈ ws) else decide (x ∈ ws))))) M := by
  have e : inOp neg (.str (S x)) (seqD c (kd ws)) = some (.bl (if neg = true then !memD (.str (S x)) (kd ws) else memD (.str (S x)) (kd ws))) := by
    cases c with
    | true => exact if_pos ⟨rfl, flat_kd ws⟩
    | false => exact if_pos (.inl ⟨rfl, flat_kd ws⟩)
  show (match inOp neg (.str (S x)) (seqD c (kd ws)) with | some d => Out.ok (R.t (.d d)) M | none => .bad) = _
  rw [e, memD_strs]
theorem strs_kd (ws : List (List Nat)) : strsD (kd ws) = some (ws.map S) := by
  rw [show kd ws = (ws.map S).map D.str by unfold kd; rw [List.map_map]; rfl]
  exact strsD_map _
theorem S_inj {x y : List Nat} (h : S x = S y) : x = y := by
  have : (S x).cps.toList = (S y).cps.toList := by rw [h]
  simpa using this
theorem idx_at : ∀ {ws : List (List Nat)} {i : Nat} {w : List Nat}, ws.Nodup → ws[i]? = some w → idxS (ws.map S) (S w) = some i
  | [], _, _, _, h => by simp at h
  | x :: ws, 0, w, _, h => by
    simp at h
    subst h
    show (if S x = S x then some 0 else _) = _
    rw [if_pos rfl]
  | x :: ws, i + 1, w, nd, h => by
    obtain ⟨n1, n2⟩ := List.nodup_cons.mp nd
    have h : ws[i]? = some w := by simpa using h
    have ne : S x ≠ S w := fun e => n1 (S_inj e ▸ List.mem_of_getElem? h)
    show (if S x = S w then some 0 else (idxS (ws.map S) (S w)).map (· + 1)) = _
    rw [if_neg ne, idx_at n2 h]
    rfl
theorem sq2_ev {op : R → R → Mst → Out R} {A B : Den} {a b c : R} (h1 : A ρ M = .ok a M) (h2 : B ρ M = .ok b M) (h3 : op a b M = .ok c M) : eSeq2 op A B ρ M = .ok c M := by
  unfold eSeq2
  rw [h1]
  show (B ρ M).bind _ = _
  rw [h2]
  exact h3
theorem eIdx_ev {Fo Fe : Den} {i : Nat} {w : List Nat} (ho : Fo ρ M = .ok (.t (.d (tpD (kd l)))) M) (he : Fe ρ M = .ok (.t (.d (.str (S w)))) M) (nd : l.Nodup) (h : l[i]? = some w) : eIdx Fo Fe ρ M = .ok (.t (.d (.int (i : Nat)))) M := by
  unfold eIdx
  rw [ho]
  show (Fe ρ M).bind _ = _
  rw [he]
  show (match strsD (kd l), frzR M (.t (.d (.str (S w)))) with
    | some ys, .str z => (match idxS ys z with
      | some j => Out.ok (R.t (.d (.int (j : Nat)))) M
      | none => .bad)
    | _, _ => .bad) = _
  rw [strs_kd]
  show (match idxS (l.map S) (S w) with
      | some j => Out.ok (R.t (.d (.int (j : Nat)))) M
      | none => .bad) = _
  rw [idx_at nd h]
def gAt (g : List (List Int)) (i j : Nat) : Int := (g.getD i []).getD j 0
theorem entry_ev (H : Tb l r g) {i j : Nat} {a b : List Nat} (hi : l[i]? = some a) (hj : r[j]? = some b) (M : Mst) : m_Table_entry [.d (tabD l r g), .d (.str (S a)), .d (.str (S b))] M = .ok (.t (.d (.int (gAt g i j)))) M :=
  ok_of (wp_fn (ρ := [some (.d (tabD l r g)), some (.d (.str (S a))), some (.d (.str (S b)))]) rfl (by
    unfold b_Table_entry
    obtain ⟨a1, a2, a3, a4⟩ := fld_tab (l := l) (r := r) (g := g) M
    have il : i < l.length := (List.getElem?_eq_some_iff.mp hi).1
    have jl : j < r.length := (List.getElem?_eq_some_iff.mp hj).1
    have m1 : a ∈ l := List.mem_of_getElem? hi
    have m2 : b ∈ r := List.mem_of_getElem? hj
    have i1 := in_seq true true a l M
    have i2 := in_seq true true b r M
    rw [if_pos rfl, decide_eq_true m1] at i1
    rw [if_pos rfl, decide_eq_true m2] at i2
    have i1 : sc2 (inOp true) (.t (.d (.str (S a)))) (.t (.d (tpD (kd l)))) M = .ok (.t (.d (.bl false))) M := i1
    have i2 : sc2 (inOp true) (.t (.d (.str (S b)))) (.t (.d (tpD (kd r)))) M = .ok (.t (.d (.bl false))) M := i2
    rw [wps_seq]; unfold t_Table_entry_0; simp only [wp_ok, wp_bind, wp_ite, wps_some, wps_none, wps_ite, wps_bind, wps_seq, seqK_nx, seqK_rt, seqK_xc, seqK_ct, seqK_bk, fnK_rt, fnK_nx, eVar, eC, eSeq2, eSeq1, eNil, eCons, eTB, eTru, tAndD, tOrD, tNotD, eNot, eAnd, eOr, eIf, sNil, sBad, sIf, sRet, sExpr, sAsg, gSet, svR, frz, frzR, eB, eCall, eArity, eLst, eTup, treesM, tYesD, eChain, dat, truth, List.getElem?_cons_zero, List.getElem?_cons_succ, List.set_cons_zero, List.set_cons_succ, List.map_cons, List.map_nil, List.length_cons, List.length_nil, Nat.reduceAdd, if_true, if_false, Bool.false_eq_true, decide_true, decide_false, Bool.not_true, Bool.not_false, frzL, take_len, and_true, true_and, eFld, a1, i1]
    unfold t_Table_entry_1; simp only [wp_ok, wp_bind, wp_ite, wps_some, wps_none, wps_ite, wps_bind, wps_seq, seqK_nx, seqK_rt, seqK_xc, seqK_ct, seqK_bk, fnK_rt, fnK_nx, eVar, eC, eSeq2, eSeq1, eNil, eCons, eTB, eTru, tAndD, tOrD, tNotD, eNot, eAnd, eOr, eIf, sNil, sBad, sIf, sRet, sExpr, sAsg, gSet, svR, frz, frzR, eB, eCall, eArity, eLst, eTup, treesM, tYesD, eChain, dat, truth, List.getElem?_cons_zero, List.getElem?_cons_succ, List.set_cons_zero, List.set_cons_succ, List.map_cons, List.map_nil, List.length_cons, List.length_nil, Nat.reduceAdd, if_true, if_false, Bool.false_eq_true, decide_true, decide_false, Bool.not_true, Bool.not_false, frzL, take_len, and_true, true_and, eFld, a2, i2]
    unfold t_Table_entry_2
    have x1 : eIdx (eFld ["Table"] "left_kinds" (eVar 0)) (eVar 1) [some (.d (tabD l r g)), some (.d (.str (S a))), some (.d (.str (S b)))] M = .ok (.t (.d (.int (i : Nat)))) M := eIdx_ev a1 rfl H.hl.nd hi
    have x2 : eIdx (eFld ["Table"] "right_kinds" (eVar 0)) (eVar 2) [some (.d (tabD l r g)), some (.d (.str (S a))), some (.d (.str (S b)))] M = .ok (.t (.d (.int (j : Nat)))) M := eIdx_ev a2 rfl H.hr.nd hj
    have hg : i < g.length := by rw [H.hg.1]; exact il
    have y1 : getR (.t (.d (tpD (g.map fun r => tpD (ri r))))) (.t (.d (.int (i : Nat)))) M = .ok (.t (.d (tpD (ri (g.getD i []))))) M := by
      have := getSeq true (g.map fun r => tpD (ri r)) (i : Nat) M (by omega) (by rw [List.length_map]; omega)
      rw [Int.toNat_natCast] at this
      refine this.trans ?_
      congr 3
      rw [List.getD_eq_getElem?_getD, List.getElem?_map, List.getElem?_eq_getElem hg, List.getD_eq_getElem?_getD, List.getElem?_eq_getElem hg]; rfl
    have rl : (g.getD i []).length = r.length := by
      rw [List.getD_eq_getElem?_getD, List.getElem?_eq_getElem hg]
      exact H.hg.2 _ (List.getElem_mem _)
    have y2 : getR (.t (.d (tpD (ri (g.getD i []))))) (.t (.d (.int (j : Nat)))) M = .ok (.t (.d (.int (gAt g i j)))) M := by
      have := getSeq true (ri (g.getD i [])) (j : Nat) M (by omega) (by rw [List.length_map, rl]; omega)
      rw [Int.toNat_natCast, getD_ri _ (by rw [rl]; exact jl)] at this
      exact this
    have x0 : eFld ["Table"] "value_rows" (eVar 0) [some (.d (tabD l r g)), some (.d (.str (S a))), some (.d (.str (S b)))] M = .ok (.t (.d (tpD (g.map fun r => tpD (ri r))))) M := a3
    simp only [sRet, wps_bind]
    refine wp_eq (sq2_ev (sq2_ev x0 x1 y1) x2 y2) ?_
    simp only [wp_ok, wp_bind, wp_ite, wps_some, wps_none, wps_ite, wps_bind, wps_seq, seqK_nx, seqK_rt, seqK_xc, seqK_ct, seqK_bk, fnK_rt, fnK_nx, eVar, eC, eSeq2, eSeq1, eNil, eCons, eTB, eTru, tAndD, tOrD, tNotD, eNot, eAnd, eOr, eIf, sNil, sBad, sIf, sRet, sExpr, sAsg, gSet, svR, frz, frzR, eB, eCall, eArity, eLst, eTup, treesM, tYesD, eChain, dat, truth, List.getElem?_cons_zero, List.getElem?_cons_succ, List.set_cons_zero, List.set_cons_succ, List.map_cons, List.map_nil, List.length_cons, List.length_nil, Nat.reduceAdd, if_true, if_false, Bool.false_eq_true, decide_true, decide_false, Bool.not_true, Bool.not_false, frzL, take_len, and_true, true_and]))
theorem listTp (ds : List D) (M : Mst) : listR [.t (.d (tpD ds))] M = .ok (.t (.lst (ds.map T.d))) M := rfl
theorem tabLeft (M : Mst) : m_Table_left [.d (tabD l r g)] M = .ok (.t (.lst ((kd l).map T.d))) M :=
  ok_of (wp_fn (ρ := [some (.d (tabD l r g))]) rfl (by
    unfold b_Table_left
    obtain ⟨a1, a2, a3, a4⟩ := fld_tab (l := l) (r := r) (g := g) M
    simp only [wp_ok, wp_bind, wp_ite, wps_some, wps_none, wps_ite, wps_bind, wps_seq, seqK_nx, seqK_rt, seqK_xc, seqK_ct, seqK_bk, fnK_rt, fnK_nx, eVar, eC, eSeq2, eSeq1, eNil, eCons, eTB, eTru, tAndD, tOrD, tNotD, eNot, eAnd, eOr, eIf, sNil, sBad, sIf, sRet, sExpr, sAsg, gSet, svR, frz, frzR, eB, eCall, eArity, eLst, eTup, treesM, tYesD, eChain, dat, truth, List.getElem?_cons_zero, List.getElem?_cons_succ, List.set_cons_zero, List.set_cons_succ, List.map_cons, List.map_nil, List.length_cons, List.length_nil, Nat.reduceAdd, if_true, if_false, Bool.false_eq_true, decide_true, decide_false, Bool.not_true, Bool.not_false, frzL, take_len, and_true, true_and, eFld, a1, listTp]))
theorem tabRight (M : Mst) : m_Table_right [.d (tabD l r g)] M = .ok (.t (.lst ((kd r).map T.d))) M :=
  ok_of (wp_fn (ρ := [some (.d (tabD l r g))]) rfl (by
    unfold b_Table_right
    obtain ⟨a1, a2, a3, a4⟩ := fld_tab (l := l) (r := r) (g := g) M
    simp only [wp_ok, wp_bind, wp_ite, wps_some, wps_none, wps_ite, wps_bind, wps_seq, seqK_nx, seqK_rt, seqK_xc, seqK_ct, seqK_bk, fnK_rt, fnK_nx, eVar, eC, eSeq2, eSeq1, eNil, eCons, eTB, eTru, tAndD, tOrD, tNotD, eNot, eAnd, eOr, eIf, sNil, sBad, sIf, sRet, sExpr, sAsg, gSet, svR, frz, frzR, eB, eCall, eArity, eLst, eTup, treesM, tYesD, eChain, dat, truth, List.getElem?_cons_zero, List.getElem?_cons_succ, List.set_cons_zero, List.set_cons_succ, List.map_cons, List.map_nil, List.length_cons, List.length_nil, Nat.reduceAdd, if_true, if_false, Bool.false_eq_true, decide_true, decide_false, Bool.not_true, Bool.not_false, frzL, take_len, and_true, true_and, eFld, a2, listTp]))
theorem tabRows (H : Tb l r g) (M : Mst) : m_Table_rows [.d (tabD l r g)] M = .ok (.t (rowsT g)) M := by
  rcases rows_of (l := l) (r := r) (g := g) M with z | z
  · exact z
  · have := H.hg.1; have := H.hl.l5; omega
theorem same_step4 {A B : Den} {r1 r2 : R} {d : D} (hA : A ρ M = .ok r1 M) (hB : B ρ M = .ok r2 M) (h1 : svR r1 = .d d) (h2 : svR r2 = .d d) (ho : okS 3 d = true) :
    eCall (m_zsame 4) (eArity 2 (eCons A (eCons B eNil))) ρ M = .ok (.t (.d (.bl true))) M := by
  have e : eCons A (eCons B eNil) ρ M = .ok [r1, r2] M := by
    unfold eCons eNil
    rw [hA]
    show (Out.bind (B ρ M) _).bind _ = _
    rw [hB]; rfl
  unfold eCall eArity
  rw [e]
  show m_zsame 4 [svR r1, svR r2] M = _
  rw [h1, h2, same_refl 3 d M ho]
theorem prop_ev {G : Fn} {Fo : Den} {r' : R} (ho : Fo ρ M = .ok (.t (.d (tabD l r g))) M) (hG : G [.d (tabD l r g)] M = .ok r' M) : eProp "Table" G Fo ρ M = .ok r' M := by
  unfold eProp
  rw [ho]
  show (match insOf M (.t (.d (tabD l r g))) with
    | some (c', _) => if c' = ("Table" : Str) then noX (G [svR (.t (.d (tabD l r g)))] M) else .bad
    | none => .bad) = _
  rw [insOf_tab]
  show (if ("Table" : Str) = "Table" then noX (G [.d (tabD l r g)] M) else .bad) = _
  rw [if_pos rfl, hG]; rfl
theorem eB_one' {G : List R → Mst → Out R} {F : Den} {r r' : R} (h : F ρ M = .ok r M) (h2 : G [r] M = .ok r' M) : eB G (eCons F eNil) ρ M = .ok r' M := by
  unfold eB eCons
  rw [h]
  exact h2
def numS (i : Int) : Str := Str.ofString (toString i)
theorem num_ev {i : Int} (h : i.natAbs < 10 ^ 60) (M : Mst) : scL strD [.t (.d (.int i))] M = .ok (.t (.d (.str (numS i)))) M := by
  show (match (if i.natAbs < 10 ^ 60 then some (D.str (Str.ofString (toString i))) else none) with | some x => Out.ok (R.t (.d x)) M | none => .bad) = _
  rw [if_pos h]; rfl
theorem num_len {i : Int} (h : i.natAbs < 10 ^ 60) : (numS i).length ≤ 61 := by
  unfold numS
  have := int_text_length_le10 (k := 60) (by decide) h
  rw [ofString_length]; omega
theorem cons3_ev {A B C : Den} {a b c : R} (h1 : A ρ M = .ok a M) (h2 : B ρ M = .ok b M) (h3 : C ρ M = .ok c M) : eCons A (eCons B (eCons C eNil)) ρ M = .ok [a, b, c] M := by
  unfold eCons eNil
  rw [h1]
  show (Out.bind (B ρ M) _).bind _ = _
  rw [h2]
  show ((Out.bind (C ρ M) _).bind _).bind _ = _
  rw [h3]; rfl
end
end Toy

/-! k05: what a table tells of itself; what may be changed behind it -/
namespace Toy
open PySem L2 DL
section
variable {M0 M M1 M' : Mst} {k : Nat} {g g' : List (List Int)} {l r : List (List Nat)} {hh ww : Nat} {Q : R → Mst → Prop} {E : Exc → Mst → Prop} {Φ : Fl → Mst → Prop} {ρ : Ev}
theorem len_app (a b : Str) : (a ++ b).length = a.length + b.length := by
  show (a.cps ++ b.cps).size = _
  rw [Array.size_append]; rfl
theorem js_cons {F : Den} {Fs : List Den} {acc y : Str} (h : F ρ M = .ok (.t (.d (.str y))) M) (hl : acc.length + y.length ≤ 1000000) : eJs (F :: Fs) acc ρ M = eJs Fs (acc ++ y) ρ M := by
  show ((F ρ M).bind fun r M1 => match frzR M1 r with
    | .str y => if (acc ++ y).length ≤ 1000000 then eJs Fs (acc ++ y) ρ M1 else .bad
    | _ => .bad) = _
  rw [h]
  show (if (acc ++ y).length ≤ 1000000 then eJs Fs (acc ++ y) ρ M else .bad) = _
  rw [if_pos (by rw [len_app]; exact hl)]
theorem addStr {a b : Str} (h : a.length + b.length ≤ 1000000) (M : Mst) : addR (.t (.d (.str a))) (.t (.d (.str b))) M = .ok (.t (.d (.str (a ++ b)))) M := by
  show (if a.length + b.length ≤ 1000000 then Out.ok (R.t (.d (.str (a ++ b)))) M else .bad) = _
  rw [if_pos h]
theorem fmt_int {F : Den} {i : Int} (h : F ρ M = .ok (.t (.d (.int i))) M) (hi : i.natAbs.log2 < 1920) : eFmt F ρ M = .ok (.t (.d (.str (numS i)))) M := by
  unfold eFmt
  rw [h]
  show (match (if i.natAbs.log2 < 1920 then some (Str.ofString (toString i)) else none) with
    | some y => Out.ok (R.t (.d (.str y))) M
    | none => .bad) = _
  rw [if_pos hi]; rfl
theorem small_num {n : Nat} (h : n ≤ 1000) : ((n : Int)).natAbs < 10 ^ 60 ∧ ((n : Int)).natAbs.log2 < 1920 := by
  rw [Int.natAbs_natCast]
  refine ⟨by omega, ?_⟩
  have := Nat.log2_le_self n
  omega
theorem cons_ev {F : Den} {A : DenA} {a : R} {as : List R} (h : F ρ M = .ok a M) (h2 : A ρ M = .ok as M) : eCons F A ρ M = .ok (a :: as) M := by
  unfold eCons
  rw [h]
  show (A ρ M).bind _ = _
  rw [h2]; rfl
theorem trees_t (ts : List T) (M : Mst) : treesM (ts.map R.t) M = (ts, M) := by
  induction ts with
  | nil => rfl
  | cons t r ih =>
    show (let (ts, M') := treesM (r.map R.t) M; (t :: ts, M')) = _
    rw [ih]
theorem lst_ev {X : DenA} (ts : List T) (h : X ρ M = .ok (ts.map R.t) M) (hl : ts.length ≤ 1000) : eLst X ρ M = .ok (.t (.lst ts)) M := by
  unfold eLst
  rw [h]
  show (if (ts.map R.t).length ≤ 1000000 then Out.ok (R.t (.lst (treesM (ts.map R.t) M).1)) (treesM (ts.map R.t) M).2 else .bad) = _
  rw [if_pos (by rw [List.length_map]; omega), trees_t]
/-! ### its own len, repr, is_square, == -/
def reprS (a b : Nat) : Str := (((("Table(" : Str) ++ numS a) ++ (" by " : Str)) ++ numS b) ++ (")" : Str)
theorem emp_app (x : Str) : Str.empty ++ x = x := by
  show (⟨#[] ++ x.cps⟩ : Str) = x
  rw [Array.empty_append]
theorem lens5 : ("Table(" : Str).length = 6 ∧ (" by " : Str).length = 4 ∧ (")" : Str).length = 1 ∧ Str.empty.length = 0 := by decide +kernel
theorem tabRepr (H : Tb l r g) (M : Mst) : m_Table_repr [.d (tabD l r g)] M = .ok (.t (.d (.str (reprS l.length r.length)))) M :=
  ok_of (wp_fn (ρ := [some (.d (tabD l r g))]) rfl (by
    unfold b_Table_repr
    obtain ⟨a1, a2, a3, a4⟩ := fld_tab (l := l) (r := r) (g := g) M
    have hl5 := H.hl.l5
    have hr5 := H.hr.l5
    have n1 := small_num (n := l.length) (by omega)
    have n2 := small_num (n := r.length) (by omega)
    have k1 := num_len n1.1
    have k2 := num_len n2.1
    obtain ⟨z1, z2, z3, z4⟩ := lens5
    have e1 : eB (scL lenD) (eCons (eFld ["Table"] "left_kinds" (eVar 0)) eNil) [some (.d (tabD l r g))] M = .ok (.t (.d (.int (l.length : Nat)))) M := by
      have := len_seq true (kd l) M
      rw [List.length_map] at this
      exact eB_one' a1 this
    have e2 : eB (scL lenD) (eCons (eFld ["Table"] "right_kinds" (eVar 0)) eNil) [some (.d (tabD l r g))] M = .ok (.t (.d (.int (r.length : Nat)))) M := by
      have := len_seq true (kd r) M
      rw [List.length_map] at this
      exact eB_one' a2 this
    have f1 := fmt_int e1 n1.2
    have f2 := fmt_int e2 n2.2
    have e : eFStr [(eC (.str "Table(")), (eFmt (eB (scL lenD) (eCons (eFld ["Table"] "left_kinds" (eVar 0)) eNil))), (eC (.str " by ")), (eFmt (eB (scL lenD) (eCons (eFld ["Table"] "right_kinds" (eVar 0)) eNil))), (eC (.str ")"))] [some (.d (tabD l r g))] M = .ok (.t (.d (.str (reprS l.length r.length)))) M := by
      unfold eFStr
      rw [js_cons (y := "Table(") rfl (by rw [z4, z1]; decide), emp_app, js_cons f1 (by rw [z1]; omega), js_cons (y := " by ") rfl (by rw [len_app, z1, z2]; omega), js_cons f2 (by rw [len_app, len_app, z1, z2]; omega), js_cons (y := ")") rfl (by rw [len_app, len_app, len_app, z1, z2, z3]; omega)]
      rfl
    simp only [sRet, wps_bind]
    refine wp_eq e ?_
    simp only [wp_ok, wp_bind, wp_ite, wps_some, wps_none, wps_ite, wps_bind, wps_seq, seqK_nx, seqK_rt, seqK_xc, seqK_ct, seqK_bk, fnK_rt, fnK_nx, eVar, eC, eSeq2, eSeq1, eNil, eCons, eTB, eTru, tAndD, tOrD, tNotD, eNot, eAnd, eOr, eIf, sNil, sBad, sIf, sRet, sExpr, sAsg, gSet, svR, frz, frzR, eB, eCall, eArity, eLst, eTup, treesM, tYesD, eChain, dat, truth, List.getElem?_cons_zero, List.getElem?_cons_succ, List.set_cons_zero, List.set_cons_succ, List.map_cons, List.map_nil, List.length_cons, List.length_nil, Nat.reduceAdd, if_true, if_false, Bool.false_eq_true, decide_true, decide_false, Bool.not_true, Bool.not_false, frzL, take_len, and_true, true_and]))
theorem tabLen (M : Mst) : m_Table_len [.d (tabD l r g)] M = .ok (.t (.d (.int (g.flatten.length : Nat)))) M :=
  ok_of (wp_fn (ρ := [some (.d (tabD l r g))]) rfl (by
    unfold b_Table_len
    obtain ⟨a1, a2, a3, a4⟩ := fld_tab (l := l) (r := r) (g := g) M
    simp only [wp_ok, wp_bind, wp_ite, wps_some, wps_none, wps_ite, wps_bind, wps_seq, seqK_nx, seqK_rt, seqK_xc, seqK_ct, seqK_bk, fnK_rt, fnK_nx, eVar, eC, eSeq2, eSeq1, eNil, eCons, eTB, eTru, tAndD, tOrD, tNotD, eNot, eAnd, eOr, eIf, sNil, sBad, sIf, sRet, sExpr, sAsg, gSet, svR, frz, frzR, eB, eCall, eArity, eLst, eTup, treesM, tYesD, eChain, dat, truth, List.getElem?_cons_zero, List.getElem?_cons_succ, List.set_cons_zero, List.set_cons_succ, List.map_cons, List.map_nil, List.length_cons, List.length_nil, Nat.reduceAdd, if_true, if_false, Bool.false_eq_true, decide_true, decide_false, Bool.not_true, Bool.not_false, frzL, take_len, and_true, true_and, eFld, a4, lenL, List.length_map]))
theorem tabSquare (H : Tb l r g) (M : Mst) : m_Table_is_square [.d (tabD l r g)] M = .ok (.t (.d (.bl (decide (l = r))))) M :=
  ok_of (wp_fn (ρ := [some (.d (tabD l r g))]) rfl (by
    unfold b_Table_is_square
    obtain ⟨a1, a2, a3, a4⟩ := fld_tab (l := l) (r := r) (g := g) M
    simp only [wp_ok, wp_bind, wp_ite, wps_some, wps_none, wps_ite, wps_bind, wps_seq, seqK_nx, seqK_rt, seqK_xc, seqK_ct, seqK_bk, fnK_rt, fnK_nx, eVar, eC, eSeq2, eSeq1, eNil, eCons, eTB, eTru, tAndD, tOrD, tNotD, eNot, eAnd, eOr, eIf, sNil, sBad, sIf, sRet, sExpr, sAsg, gSet, svR, frz, frzR, eB, eCall, eArity, eLst, eTup, treesM, tYesD, eChain, dat, truth, List.getElem?_cons_zero, List.getElem?_cons_succ, List.set_cons_zero, List.set_cons_succ, List.map_cons, List.map_nil, List.length_cons, List.length_nil, Nat.reduceAdd, if_true, if_false, Bool.false_eq_true, decide_true, decide_false, Bool.not_true, Bool.not_false, frzL, take_len, and_true, true_and, eFld, a1, a2, eqKinds H.hl.wok H.hr.wok]))
theorem eqKindsL {a b : List (List Nat)} (ha : Wok a) (hb : Wok b) (M : Mst) : eqR (.t (.d (.lst (kd a)))) (.t (.d (.lst (kd b)))) M = .ok (.t (.d (.bl (decide (a = b))))) M :=
  eq_of rfl (by
    unfold eqOp
    have h1 : okD 12 (.lst (kd a)) = true := okD_strs ha
    have h2 : okD 12 (.lst (kd b)) = true := okD_strs hb
    rw [if_pos ⟨h1, h2⟩]
    show some (D.bl (PyData.eqvAll (pydL (kd a)) (pydL (kd b)))) = _
    rw [eqvAll_strs]) M
theorem isi_lst (ds : List D) (M : Mst) : isiC2R "Table" [.t (.d (.lst ds)), .t (.d (.glo "Table"))] M = .ok (.t (.d (.bl false))) M := by
  show (if ("Table" : Str) = "Table" ∧ insC "Table" M (.t (.d (.lst ds))) = true then Out.ok (R.t (.d (.bl true))) M else if ("Table" : Str) = "Table" ∧ lstC (frzR M (.t (.d (.lst ds)))) = true then Out.ok (R.t (.d (.bl false))) M else .bad) = _
  rw [if_neg (fun z => nomatch (show insC "Table" M (.t (.d (.lst ds))) = true from z.2)), if_pos ⟨rfl, rfl⟩]
theorem tabEqL (ds : List D) (M : Mst) : m_Table_eq [.d (tabD l r g), .d (.lst ds)] M = .ok (.t (.d (.bl false))) M :=
  ok_of (wp_fn (ρ := [some (.d (tabD l r g)), some (.d (.lst ds))]) rfl (by
    unfold b_Table_eq
    rw [wps_seq]; unfold t_Table_eq_0
    simp only [wp_ok, wp_bind, wp_ite, wps_some, wps_none, wps_ite, wps_bind, wps_seq, seqK_nx, seqK_rt, seqK_xc, seqK_ct, seqK_bk, fnK_rt, fnK_nx, eVar, eC, eSeq2, eSeq1, eNil, eCons, eTB, eTru, tAndD, tOrD, tNotD, eNot, eAnd, eOr, eIf, sNil, sBad, sIf, sRet, sExpr, sAsg, gSet, svR, frz, frzR, eB, eCall, eArity, eLst, eTup, treesM, tYesD, eChain, dat, truth, List.getElem?_cons_zero, List.getElem?_cons_succ, List.set_cons_zero, List.set_cons_succ, List.map_cons, List.map_nil, List.length_cons, List.length_nil, Nat.reduceAdd, if_true, if_false, Bool.false_eq_true, decide_true, decide_false, Bool.not_true, Bool.not_false, frzL, take_len, and_true, true_and, isi_lst]))
/-- a table, laid anew or held -/
structure IsT (x : R) (l r : List (List Nat)) (g : List (List Int)) : Prop where
  sv : svR x = .d (tabD l r g)
  ins : ∀ M, insC "Table" M x = true
theorem isT_d (l r : List (List Nat)) (g : List (List Int)) : IsT (.t (.d (tabD l r g))) l r g := ⟨rfl, fun M => insC_tab M⟩
theorem isT_t (l r : List (List Nat)) (g : List (List Int)) : IsT (.t (tabT l r g)) l r g := ⟨svR_tab l r g, fun M => by
  unfold insC
  rw [show insOf M (.t (tabT l r g)) = some (("Table" : Str), tabN) from rfl]
  exact decide_eq_true rfl⟩
theorem own_eq {l' r' : List (List Nat)} (H : Tb l r g) (H' : Tb l' r' g') {x y : R} (hx : IsT x l r g) (hy : IsT y l' r' g') (M : Mst) : gOwn "Table" m_Table_eq x y M = .ok (.t (.d (.bl (decide (l = l' ∧ r = r' ∧ g = g'))))) M := by
  unfold gOwn
  rw [if_pos ⟨hx.ins M, hy.ins M⟩, hx.sv, hy.sv, tabEq H H' M]
  rfl
theorem own_eqL (ds : List D) {x : R} (hx : IsT x l r g) (M : Mst) : gOwnL "Table" m_Table_eq x (.t (.d (.lst ds))) M = .ok (.t (.d (.bl false))) M := by
  unfold gOwnL
  rw [if_pos ⟨hx.ins M, rfl⟩, hx.sv]
  show noX (m_Table_eq [.d (tabD l r g), .d (.lst ds)] M) = _
  rw [tabEqL]; rfl
theorem own_ne (H : Tb l r g) {x y : R} (hx : IsT x l r g) (hy : IsT y l r g) (M : Mst) : gOwnNe "Table" m_Table_eq x y M = .ok (.t (.d (.bl false))) M := by
  unfold gOwnNe
  rw [if_pos ⟨hx.ins M, hy.ins M⟩, hx.sv, hy.sv, tabEq H H M, decide_eq_true ⟨rfl, rfl, rfl⟩]
  rfl
theorem lenBk_ev {n : Int} (h0 : 0 ≤ n) (h : n < 2 ^ 63) (M : Mst) : lenBk (.t (.d (.int n))) M = .ok (.t (.d (.int n))) M := by
  unfold lenBk
  exact if_pos ⟨h0, h⟩
theorem p63 : (1000 : Int) < 2 ^ 63 := by decide +kernel
theorem gLen_ev (n : Nat) (hn : n ≤ 1000) {x : R} (hx : IsT x l r g) (h : m_Table_len [.d (tabD l r g)] M = .ok (.t (.d (.int (n : Nat)))) M) : gLenO "Table" m_Table_len [x] M = .ok (.t (.d (.int (n : Nat)))) M := by
  have e := lenBk_ev (n := (n : Int)) (by omega) (Int.lt_of_le_of_lt (show (n : Int) ≤ 1000 by omega) p63) M
  unfold gLenO
  simp only [hx.ins M, if_true, hx.sv, h, noX, Out.bind]
  exact e
theorem lenO_ev (H : Tb l r g) {i : Nat} (hv : eVar i ρ M = .ok (.t (.d (tabD l r g))) M) : eB (gLenO "Table" m_Table_len) (eCons (eVar i) eNil) ρ M = .ok (.t (.d (.int (g.flatten.length : Nat)))) M := by
  have h1 := len_flat H.hg
  have h2 := small H.hl.l5 H.hr.l5
  exact eB_one' hv (gLen_ev _ (by omega) (isT_d l r g) (tabLen M))
theorem reprO_ev (H : Tb l r g) {i : Nat} (hv : eVar i ρ M = .ok (.t (.d (tabD l r g))) M) : eB (gReprO "Table" m_Table_repr) (eCons (eVar i) eNil) ρ M = .ok (.t (.d (.str (reprS l.length r.length)))) M := by
  refine eB_one' hv ?_
  show (if insC "Table" M (.t (.d (tabD l r g))) = true then (noX (m_Table_repr [.d (tabD l r g)] M)).bind strBk else .bad) = _
  rw [if_pos (insC_tab M), tabRepr H]
  rfl
/-! ### made of what may change -/
theorem nc_kd (ws : List (List Nat)) : ncL (kd ws) = true := by
  induction ws with
  | nil => rfl
  | cons w ws ih => exact ih
theorem nc_ri (r : List Int) : ncL (ri r) = true := by
  induction r with
  | nil => rfl
  | cons w ws ih => exact ih
theorem nc_rit (r : List Int) : ncTL ((ri r).map T.d) = true := by
  induction r with
  | nil => rfl
  | cons w ws ih => exact ih
theorem nc_rows (g : List (List Int)) : ncL (g.map fun r => tpD (ri r)) = true := by
  induction g with
  | nil => rfl
  | cons w ws ih =>
    show (ncL (ri w) && ncL (ws.map fun r => tpD (ri r))) = true
    rw [nc_ri, ih]; rfl
theorem nc_tab (l r : List (List Nat)) (g : List (List Int)) : ncT (tabT l r g) = true := by
  show (ncL (kd l) && (ncL (kd r) && (ncL (g.map fun r => tpD (ri r)) && (ncTL ((ri g.flatten).map T.d) && true)))) = true
  rw [nc_kd, nc_kd, nc_rows, nc_rit]; rfl
theorem fresh_ev {A : DenA} (H : Tb l r g) (hA : A (ρ.map (fzS M)) [] = .ok [.t (.d (.lst (kd l))), .t (.d (.lst (kd r))), .t (.d (rowsD g))] []) (hn : ntL M = true) : eFresh (eMake "Table" 4 m_Table_init A) ρ M = .ok (.t (tabT l r g)) M := by
  unfold eFresh
  rw [make_ev false false false false H hA rfl rfl rfl]
  show (if ncT (tabT l r g) = true ∧ ntL M = true then Out.ok (R.t (tabT l r g)) M else .bad) = _
  rw [if_pos ⟨nc_tab l r g, hn⟩]
theorem nt_ds (ds : List D) : ntL (ds.map T.d) = true := by
  induction ds with
  | nil => rfl
  | cons w ws ih => exact ih
theorem nt_app : ∀ (a b : List T), ntL (a ++ b) = (ntL a && ntL b)
  | [], b => rfl
  | x :: a, b => by
    show (ntT x && ntL (a ++ b)) = ((ntT x && ntL a) && ntL b)
    rw [nt_app, Bool.and_assoc]
theorem nt_rows (g : List (List Int)) : ntL (g.map fun r => T.lst ((ri r).map T.d)) = true := by
  induction g with
  | nil => rfl
  | cons w ws ih =>
    show (ntL ((ri w).map T.d) && ntL (ws.map fun r => T.lst ((ri r).map T.d))) = true
    rw [nt_ds, ih]; rfl
theorem nt_set : ∀ (M : List T) (k : Nat) (t : T), ntL M = true → ntT t = true → ntL (M.set k t) = true
  | [], _, _, _, _ => rfl
  | x :: M, 0, t, h, ht => by
    have h := Bool.and_eq_true_iff.mp h
    show (ntT t && ntL M) = true
    rw [ht, h.2]; rfl
  | x :: M, k + 1, t, h, ht => by
    have h := Bool.and_eq_true_iff.mp h
    show (ntT x && ntL (M.set k t)) = true
    rw [h.1, nt_set M k t h.2 ht]; rfl
theorem nt_reel (cs : List Int) (p r s : Int) : ntT (reelT cs p r s) = true := rfl
theorem RD.nt (h : RD k M M') (hn : ntL M = true) : ntL M' = true := by
  obtain ⟨cs, p, r, s, _, rfl⟩ := h
  exact nt_set _ _ _ hn (nt_reel ..)
/-! ### places -/
theorem appP_var {i : Nat} {ts : List T} (d : D) (hi : ρ[i]? = some (some (.h k))) (hk : M[k]? = some (.lst ts)) (hl : ts.length ≤ 1000) : eAppP (pVar i) (vC d) ρ M = .ok (.t (.d .non)) (M.set k (T.lst (ts ++ [T.d d]))) := by
  have e1 : pVar i ρ M = some (k, []) := by unfold pVar; rw [hi]
  have e2 : atL M (k, []) = some (.lst ts) := by unfold atL; rw [hk]; rfl
  unfold eAppP
  rw [e1]
  show (match atL M (k, []) with
    | some (.lst ts) => if ts.length + 1 ≤ 1000000 then Out.ok (R.t (.d .non)) (setL M (k, []) (.lst (ts ++ [T.d d]))) else .bad
    | _ => .bad) = _
  rw [e2]
  show (if ts.length + 1 ≤ 1000000 then Out.ok (R.t (.d .non)) (setL M (k, []) (.lst (ts ++ [T.d d]))) else .bad) = _
  rw [if_pos (by omega)]
  unfold setL
  rw [hk]; rfl
theorem popP_var {i : Nat} {ds : List D} (hi : ρ[i]? = some (some (.h k))) (hk : M[k]? = some (.lst (ds.map T.d))) (hl : 0 < ds.length) : ∃ d, ePopP (pVar i) ρ M = .ok (.t (.d d)) (M.set k (.lst (ds.dropLast.map T.d))) := by
  have e1 : pVar i ρ M = some (k, []) := by unfold pVar; rw [hi]
  have e2 : atL M (k, []) = some (.lst (ds.map T.d)) := by unfold atL; rw [hk]; rfl
  have e3 : allD (ds.map T.d) = some ds := by
    clear hk e2 hl
    induction ds with
    | nil => rfl
    | cons x r ih => show (allD (r.map T.d)).map _ = _; rw [ih]; rfl
  refine ⟨ds[ds.length - 1], ?_⟩
  unfold ePopP
  rw [e1]
  show (match atL M (k, []) with
    | some (.lst ts) => (match allD ts with
      | some ds => (match ds[ds.length - 1]? with
        | some d => Out.ok (R.t (.d d)) (setL M (k, []) (.lst (ds.dropLast.map T.d)))
        | none => .bad)
      | none => .bad)
    | _ => .bad) = _
  rw [e2]
  simp only [e3]
  rw [List.getElem?_eq_getElem (by omega)]
  show Out.ok _ (setL M (k, []) _) = _
  unfold setL
  rw [hk]; rfl
theorem appP_row {i : Nat} {ts rest : List T} (d : D) (hi : ρ[i]? = some (some (.h k))) (hk : M[k]? = some (.lst (.lst ts :: rest))) (hl : ts.length ≤ 1000) : eAppP (pSub (pVar i) (vC (.int 0))) (vC d) ρ M = .ok (.t (.d .non)) (M.set k (T.lst (T.lst (ts ++ [T.d d]) :: rest))) := by
  have e1 : pVar i ρ M = some (k, []) := by unfold pVar; rw [hi]
  have e2 : atL M (k, []) = some (.lst (.lst ts :: rest)) := by unfold atL; rw [hk]; rfl
  have e3 : pSub (pVar i) (vC (.int 0)) ρ M = some (k, [.i 0]) := by
    unfold pSub
    rw [e1]
    show (match atL M (k, []) with
      | some (.lst ts) => (match ixN ts.length 0 with
        | some j => if (ts[j]?).isSome = true then some ((k, ([] : List Stp) ++ [Stp.i j]) : DL.Loc) else none
        | none => none)
      | _ => none) = _
    rw [e2]
    have e0 : ixN (T.lst ts :: rest).length 0 = some 0 := ixN_nat (j := 0) (by simp)
    simp only [e0]
    rfl
  have e4 : atL M (k, [.i 0]) = some (.lst ts) := by unfold atL; rw [hk]; rfl
  unfold eAppP
  rw [e3]
  show (match atL M (k, [.i 0]) with
    | some (.lst ts) => if ts.length + 1 ≤ 1000000 then Out.ok (R.t (.d .non)) (setL M (k, [.i 0]) (.lst (ts ++ [T.d d]))) else .bad
    | _ => .bad) = _
  rw [e4]
  show (if ts.length + 1 ≤ 1000000 then Out.ok (R.t (.d .non)) (setL M (k, [.i 0]) (.lst (ts ++ [T.d d]))) else .bad) = _
  rw [if_pos (by omega)]
  unfold setL
  rw [hk]; rfl
theorem rev_iff {α : Type} {xs : List α} (h : xs.Nodup) (h1 : 1 ≤ xs.length) : xs.reverse = xs ↔ xs.length = 1 := by
  constructor
  · intro e
    have hr : xs[0] = xs[xs.length - 1] := by
      have : xs.reverse[0]? = xs[0]? := by rw [e]
      rw [List.getElem?_reverse (by omega)] at this
      rw [List.getElem?_eq_getElem (by omega), List.getElem?_eq_getElem (by omega)] at this
      have := Option.some.inj this
      simp only [Nat.sub_zero] at this
      exact this.symm
    by_cases z : xs.length = 1
    · exact z
    · exact absurd hr (List.pairwise_iff_getElem.mp (List.nodup_iff_pairwise_ne.mp h) 0 (xs.length - 1) (by omega) (by omega) (by omega))
  · intro e
    match xs, e with
    | [x], _ => rfl
end
end Toy

/-! k05: the law -/
namespace Toy
open PySem L2 DL
abbrev rL (ns : List Int) (t2 l3 l4 r5 w6 m7 n8 t9 s10 d11 i12 j13 a14 b15 u16 : Option SV) : Ev := [some (.d (.ro (ns.map D.int))), some (.h 0), t2, l3, l4, r5, w6, m7, n8, t9, s10, d11, i12, j13, a14, b15, u16, none]
section
variable {M0 M M1 M2 M' : Mst} {k : Nat} {g g' : List (List Int)} {l r : List (List Nat)} {hh ww : Nat} {Q : R → Mst → Prop} {E : Exc → Mst → Prop} {Φ : Fl → Mst → Prop} {ρ ρ' : Ev} {i j : Nat} {v : Int} {row : List Int} {a b : List Nat}
theorem step {F G : DenS} (h : F ρ M = some (.nx ρ', M')) (q : WpS (G ρ' M') Φ) : WpS (sSeq F G ρ M) Φ := by
  rw [wps_seq, h, wps_some, seqK_nx]; exact q
theorem asg_ev {Fe : Den} {G : DenG} {x : R} (h : Fe ρ M = .ok x M1) (h2 : G x ρ M1 = some (ρ', M')) : sAsg Fe G ρ M = some (.nx ρ', M') := by
  unfold sAsg
  rw [h]
  show (match G x ρ M1 with | some (ρ', M2) => some (Fl.nx ρ', M2) | none => none) = _
  rw [h2]
theorem expr_ev {Fe : Den} {x : R} (h : Fe ρ M = .ok x M') : sExpr Fe ρ M = some (.nx ρ, M') := by
  unfold sExpr
  rw [h]; rfl
theorem if_ev {T : DenT} {A : DenS} (h : T ρ M = .ok false M') : sIf T A sNil ρ M = some (.nx ρ, M') := by
  unfold sIf
  rw [h]; rfl
theorem rd_set (h : RD 0 M M) (x : T) (hk : k ≠ 0) : RD 0 (M.set k x) (M.set k x) := by
  obtain ⟨cs, p, r, s, q, e⟩ := h
  exact RD.self (cs := cs) (p := p) (r := r) (s := s) ⟨by rw [List.getElem?_set_ne hk]; exact q.at_, q.p0, q.s0, q.s1⟩
theorem tabfrz (l r : List (List Nat)) (g : List (List Int)) : frz (tabT l r g) = tabD l r g := by have := svR_tab l r g; injection this
/-! ### what is read of the look -/
theorem look_1 (h : eVar 3 ρ M = .ok (.t (.d (lookD l r g))) M) : eSeq2 getR (eVar 3) (eC (.int 1)) ρ M = .ok (.t (.d (.lst (kd l)))) M := sq2_ev h rfl rfl
theorem look_2 (h : eVar 3 ρ M = .ok (.t (.d (lookD l r g))) M) : eSeq2 getR (eVar 3) (eC (.int 2)) ρ M = .ok (.t (.d (.lst (kd r)))) M := sq2_ev h rfl rfl
theorem look_3 (h : eVar 3 ρ M = .ok (.t (.d (lookD l r g))) M) : eSeq2 getR (eVar 3) (eC (.int 3)) ρ M = .ok (.t (.d (rowsD g))) M := sq2_ev h rfl rfl
theorem len_kd {F : Den} {ws : List (List Nat)} (h : F ρ M = .ok (.t (.d (.lst (kd ws)))) M) : eB (scL lenD) (eCons F eNil) ρ M = .ok (.t (.d (.int (ws.length : Nat)))) M := eB_one' h (by rw [lenL, List.length_map])
theorem get_kd {F G : Den} {ws : List (List Nat)} (h : F ρ M = .ok (.t (.d (.lst (kd ws)))) M) (hG : G ρ M = .ok (.t (.d (.int (i : Nat)))) M) (hi : ws[i]? = some a) : eSeq2 getR F G ρ M = .ok (.t (.d (.str (S a)))) M := by
  refine sq2_ev h hG ?_
  have hl := (List.getElem?_eq_some_iff.mp hi).1
  have e := getLst (kd ws) (i : Nat) M (by omega) (by rw [List.length_map]; omega)
  rw [Int.toNat_natCast, List.getD_eq_getElem?_getD, List.getElem?_map, hi] at e
  exact e
theorem get_rows {F G K : Den} (h : F ρ M = .ok (.t (.d (rowsD g))) M) (hG : G ρ M = .ok (.t (.d (.int (i : Nat)))) M) (hK : K ρ M = .ok (.t (.d (.int (j : Nat)))) M) (hi : g[i]? = some row) (hj : row[j]? = some v) : eSeq2 getR (eSeq2 getR F G) K ρ M = .ok (.t (.d (.int v))) M := by
  have hl := (List.getElem?_eq_some_iff.mp hi).1
  have hl2 := (List.getElem?_eq_some_iff.mp hj).1
  have e1 := getLst (g.map fun r => D.lst (ri r)) (i : Nat) M (by omega) (by rw [List.length_map]; omega)
  rw [Int.toNat_natCast, List.getD_eq_getElem?_getD, List.getElem?_map, hi] at e1
  have e2 := getLst (ri row) (j : Nat) M (by omega) (by rw [List.length_map]; omega)
  rw [Int.toNat_natCast, List.getD_eq_getElem?_getD, List.getElem?_map, hj] at e2
  exact sq2_ev (sq2_ev h hG e1) hK e2
theorem lcrows_ev {F : Den} (h : F ρ M = .ok (.t (.d (rowsD g))) M) (hρ : 17 < ρ.length) (hg : g.length ≤ 1000) : eLc (iOf F) (.one 17) [17] tYesD (eB listR (eCons (eVar 17) eNil)) ρ M = .ok (.t (rowsT g)) M := by
  refine ok_of (wp_lcT (fun d => match d with | .lst ds => .lst (ds.map T.d) | x => .d x) (wp_eq (iOf_seq false (g.map fun r => D.lst (ri r)) h) ⟨by rw [List.length_map]; omega, fun d hd => ?_, ?_⟩))
  · obtain ⟨x, _, rfl⟩ := List.mem_map.mp hd
    refine ⟨_, rfl, wp_eq (a := .t (.lst ((ri x).map T.d))) (M' := M) (eB_one' (r := .t (.d (.lst (ri x)))) ?_ rfl) ⟨rfl, rfl⟩⟩
    unfold eVar
    rw [List.getElem?_set_self (by simpa [wipeE] using hρ)]
  · refine ⟨?_, rfl⟩
    rw [List.map_map]
    rfl
theorem lctups_ev {F : Den} (h : F ρ M = .ok (.t (.d (rowsD g))) M) (hρ : 17 < ρ.length) (hg : g.length ≤ 1000) : eB tuplePR (eCons (eLc (iOf F) (.one 17) [17] tYesD (eB tuplePR (eCons (eVar 17) eNil))) eNil) ρ M = .ok (.t (.d (tpD (g.map fun r => tpD (ri r))))) M := by
  refine eB_one' (r := .t (.lst ((g.map fun r => tpD (ri r)).map T.d))) (ok_of (wp_lcm (fun d => match d with | .lst ds => tpD ds | x => x) (wp_eq (iOf_seq false (g.map fun r => D.lst (ri r)) h) ⟨by rw [List.length_map]; omega, fun d hd => ?_, ?_⟩))) (tup_lst _ M)
  · obtain ⟨x, _, rfl⟩ := List.mem_map.mp hd
    refine ⟨_, rfl, wp_eq (a := .t (.d (tpD (ri x)))) (M' := M) (eB_one' (r := .t (.d (.lst (ri x)))) ?_ rfl) ⟨rfl, rfl⟩⟩
    unfold eVar
    rw [List.getElem?_set_self (by simpa [wipeE] using hρ)]
  · refine ⟨congrArg (fun z : List D => R.t (T.lst (z.map T.d))) ?_, rfl⟩
    rw [List.map_map]
    rfl
/-! ### what is told -/
def toldT (l r : List (List Nat)) (g : List (List Int)) : T := .lst [.lst ((kd l).map T.d), .lst ((kd r).map T.d), rowsT g, .d (.int (g.flatten.length : Nat)), .d (.str (reprS l.length r.length)), .d (.bl (decide (l = r)))]
def toldD (l r : List (List Nat)) (g : List (List Int)) : D := .lst [.lst (kd l), .lst (kd r), rowsD g, .int (g.flatten.length : Nat), .str (reprS l.length r.length), .bl (decide (l = r))]
theorem frz_told (l r : List (List Nat)) (g : List (List Int)) : frz (toldT l r g) = toldD l r g := by
  unfold toldT toldD
  simp only [frz, frzL, frz_rowsT, frzL_ds]
theorem left_ev {i : Nat} (hv : eVar i ρ M = .ok (.t (.d (tabD l r g))) M) : eMeth "Table" "left" 1 m_Table_left (eVar i) eNil ρ M = .ok (.t (.lst ((kd l).map T.d))) M := (meth_ev (m := "left") (n := 1) (G := m_Table_left) (A := eNil) (M' := M) (rs := []) hv (by decide +kernel) rfl rfl).trans (tabLeft M)
theorem right_ev {i : Nat} (hv : eVar i ρ M = .ok (.t (.d (tabD l r g))) M) : eMeth "Table" "right" 1 m_Table_right (eVar i) eNil ρ M = .ok (.t (.lst ((kd r).map T.d))) M := (meth_ev (m := "right") (n := 1) (G := m_Table_right) (A := eNil) (M' := M) (rs := []) hv (by decide +kernel) rfl rfl).trans (tabRight M)
theorem rowsM_ev (H : Tb l r g) {i : Nat} (hv : eVar i ρ M = .ok (.t (.d (tabD l r g))) M) : eMeth "Table" "rows" 1 m_Table_rows (eVar i) eNil ρ M = .ok (.t (rowsT g)) M := (meth_ev (m := "rows") (n := 1) (G := m_Table_rows) (A := eNil) (M' := M) (rs := []) hv (by decide +kernel) rfl rfl).trans (tabRows H M)
theorem told_ev (H : Tb l r g) (hv : eVar 7 ρ M = .ok (.t (.d (tabD l r g))) M) :
    eLst (eCons (eMeth "Table" "left" 1 m_Table_left (eVar 7) eNil) (eCons (eMeth "Table" "right" 1 m_Table_right (eVar 7) eNil) (eCons (eMeth "Table" "rows" 1 m_Table_rows (eVar 7) eNil) (eCons (eB (gLenO "Table" m_Table_len) (eCons (eVar 7) eNil)) (eCons (eB (gReprO "Table" m_Table_repr) (eCons (eVar 7) eNil)) (eCons (eProp "Table" m_Table_is_square (eVar 7)) eNil)))))) ρ M = .ok (.t (toldT l r g)) M := by
  have e1 := left_ev hv
  have e2 := right_ev hv
  have e3 := rowsM_ev H hv
  have e4 := lenO_ev H hv
  have e5 := reprO_ev H hv
  have e6 := prop_ev hv (tabSquare H M)
  exact lst_ev _ (cons_ev e1 (cons_ev e2 (cons_ev e3 (cons_ev e4 (cons_ev e5 (cons_ev e6 (show eNil ρ M = .ok (([] : List T).map R.t) M from rfl))))))) (by simp)
theorem strlen_ev {F : Den} {ws : List (List Nat)} (h : F ρ M = .ok (.t (.d (.lst (kd ws)))) M) (hl : ws.length ≤ 1000) : eB (scL strD) (eCons (eB (scL lenD) (eCons F eNil)) eNil) ρ M = .ok (.t (.d (.str (numS ws.length)))) M :=
  eB_one' (len_kd h) (num_ev (small_num hl).1 M)
theorem shown_ev (H : Tb l r g) (h : eVar 3 ρ M = .ok (.t (.d (lookD l r g))) M) :
    eSeq2 addR (eSeq2 addR (eSeq2 addR (eSeq2 addR (eC (.str "Table(")) (eB (scL strD) (eCons (eB (scL lenD) (eCons (eSeq2 getR (eVar 3) (eC (.int 1))) eNil)) eNil))) (eC (.str " by "))) (eB (scL strD) (eCons (eB (scL lenD) (eCons (eSeq2 getR (eVar 3) (eC (.int 2))) eNil)) eNil))) (eC (.str ")")) ρ M = .ok (.t (.d (.str (reprS l.length r.length)))) M := by
  have hl5 := H.hl.l5
  have hr5 := H.hr.l5
  have e1 := strlen_ev (look_1 h) (by omega)
  have e2 := strlen_ev (look_2 h) (by omega)
  have k1 := num_len (small_num (n := l.length) (by omega)).1
  have k2 := num_len (small_num (n := r.length) (by omega)).1
  obtain ⟨z1, z2, z3, z4⟩ := lens5
  have s1 : eSeq2 addR (eC (.str "Table(")) (eB (scL strD) (eCons (eB (scL lenD) (eCons (eSeq2 getR (eVar 3) (eC (.int 1))) eNil)) eNil)) ρ M = .ok (.t (.d (.str (("Table(" : Str) ++ numS l.length)))) M := sq2_ev rfl e1 (addStr (by rw [z1]; omega) M)
  have s2 := sq2_ev (op := addR) (c := .t (.d (.str ((("Table(" : Str) ++ numS l.length) ++ (" by " : Str))))) s1 (show eC (.str " by ") ρ M = .ok (.t (.d (.str " by "))) M from rfl) (addStr (by rw [len_app, z1, z2]; omega) M)
  have s3 := sq2_ev (op := addR) (c := .t (.d (.str (((("Table(" : Str) ++ numS l.length) ++ (" by " : Str)) ++ numS r.length)))) s2 e2 (addStr (by rw [len_app, len_app, z1, z2]; omega) M)
  exact sq2_ev s3 (show eC (.str ")") ρ M = .ok (.t (.d (.str ")"))) M from rfl) (addStr (by rw [len_app, len_app, len_app, z1, z2, z3]; omega) M)
theorem due_ev (H : Tb l r g) (h : eVar 3 ρ M = .ok (.t (.d (lookD l r g))) M) (h10 : eVar 10 ρ M = .ok (.t (.d (.str (reprS l.length r.length)))) M) :
    eLst (eCons (eSeq2 getR (eVar 3) (eC (.int 1))) (eCons (eSeq2 getR (eVar 3) (eC (.int 2))) (eCons (eSeq2 getR (eVar 3) (eC (.int 3))) (eCons (eSeq2 mulR (eB (scL lenD) (eCons (eSeq2 getR (eVar 3) (eC (.int 1))) eNil)) (eB (scL lenD) (eCons (eSeq2 getR (eVar 3) (eC (.int 2))) eNil))) (eCons (eVar 10) (eCons (eSeq2 eqR (eSeq2 getR (eVar 3) (eC (.int 1))) (eSeq2 getR (eVar 3) (eC (.int 2)))) eNil)))))) ρ M
      = .ok (.t (.lst [.d (.lst (kd l)), .d (.lst (kd r)), .d (rowsD g), .d (.int (g.flatten.length : Nat)), .d (.str (reprS l.length r.length)), .d (.bl (decide (l = r)))])) M := by
  have hl5 := H.hl.l5
  have hr5 := H.hr.l5
  have e1 := look_1 h
  have e2 := look_2 h
  have e3 := look_3 h
  have e4 : eSeq2 mulR (eB (scL lenD) (eCons (eSeq2 getR (eVar 3) (eC (.int 1))) eNil)) (eB (scL lenD) (eCons (eSeq2 getR (eVar 3) (eC (.int 2))) eNil)) ρ M = .ok (.t (.d (.int (g.flatten.length : Nat)))) M := by
    refine sq2_ev (len_kd e1) (len_kd e2) ?_
    rw [mulI _ _ _ (mulC_r _ _ (by omega)), len_flat H.hg]
    push_cast; rfl
  have e6 : eSeq2 eqR (eSeq2 getR (eVar 3) (eC (.int 1))) (eSeq2 getR (eVar 3) (eC (.int 2))) ρ M = .ok (.t (.d (.bl (decide (l = r))))) M := sq2_ev e1 e2 (eqKindsL H.hl.wok H.hr.wok M)
  exact lst_ev _ (cons_ev e1 (cons_ev e2 (cons_ev e3 (cons_ev e4 (cons_ev h10 (cons_ev e6 (show eNil ρ M = .ok (([] : List T).map R.t) M from rfl))))))) (by simp)
theorem ok_told (H : Tb l r g) : okS 3 (toldD l r g) = true := by
  have hl5 := H.hl.l5
  have hr5 := H.hr.l5
  have kk : ∀ ws : List (List Nat), ws.length ≤ 1000 → okS 2 (.lst (kd ws)) = true := fun ws hw => by
    show (decide ((kd ws).length ≤ 1000) && (kd ws).all (okS 1)) = true
    rw [Bool.and_eq_true, decide_eq_true_eq, List.all_eq_true]
    refine ⟨by rw [List.length_map]; exact hw, fun d hd => ?_⟩
    obtain ⟨w, _, rfl⟩ := List.mem_map.mp hd
    rfl
  have rr : okS 2 (rowsD g) = true := by
    show (decide ((g.map fun r => D.lst (ri r)).length ≤ 1000) && (g.map fun r => D.lst (ri r)).all (okS 1)) = true
    rw [Bool.and_eq_true, decide_eq_true_eq, List.all_eq_true]
    refine ⟨by rw [List.length_map, H.hg.1]; omega, fun d hd => ?_⟩
    obtain ⟨row, hrow, rfl⟩ := List.mem_map.mp hd
    show (decide ((ri row).length ≤ 1000) && (ri row).all (okS 0)) = true
    rw [Bool.and_eq_true, decide_eq_true_eq, List.all_eq_true]
    refine ⟨by rw [List.length_map, H.hg.2 row hrow]; omega, fun d hd => ?_⟩
    obtain ⟨x, _, rfl⟩ := List.mem_map.mp hd
    rfl
  show (decide (([.lst (kd l), .lst (kd r), rowsD g, .int (g.flatten.length : Nat), .str (reprS l.length r.length), .bl (decide (l = r))] : List D).length ≤ 1000) && ([.lst (kd l), .lst (kd r), rowsD g, .int (g.flatten.length : Nat), .str (reprS l.length r.length), .bl (decide (l = r))] : List D).all (okS 2)) = true
  simp only [List.all_cons, List.all_nil, rr, kk l (by omega), kk r (by omega)]
  rfl
theorem same_if {A B : Den} {r1 r2 : R} {d : D} (hA : A ρ M = .ok r1 M) (hB : B ρ M = .ok r2 M) (h1 : svR r1 = .d d) (h2 : svR r2 = .d d) (ho : okS 3 d = true) :
    sIf (tNotD (eTru (eCall (m_zsame 4) (eArity 2 (eCons A (eCons B eNil)))))) (sRet (eC (.bl false))) sNil ρ M = some (.nx ρ, M) := by
  refine if_ev ?_
  unfold tNotD eTru
  rw [same_step4 hA hB h1 h2 ho]
  rfl
/-! ### one entry -/
theorem entry_pos (H : Tb l r g) {F G : Den} (hi : l[i]? = some a) (hj : r[j]? = some b) (hv : eVar 7 ρ M = .ok (.t (.d (tabD l r g))) M) (hF : F ρ M = .ok (.t (.d (.str (S a)))) M) (hG : G ρ M = .ok (.t (.d (.str (S b)))) M) :
    eMeth "Table" "entry" 3 m_Table_entry (eVar 7) (eCons F (eCons G eNil)) ρ M = .ok (.t (.d (.int (gAt g i j)))) M :=
  (meth_ev (m := "entry") (n := 3) (G := m_Table_entry) (M' := M) (rs := [.t (.d (.str (S a))), .t (.d (.str (S b)))]) hv (by decide +kernel) (cons_ev hF (cons_ev hG rfl)) rfl).trans (entry_ev H hi hj M)
theorem entry_kw (H : Tb l r g) {F G : Den} (hi : l[i]? = some a) (hj : r[j]? = some b) (hv : eVar 7 ρ M = .ok (.t (.d (tabD l r g))) M) (hF : F ρ M = .ok (.t (.d (.str (S a)))) M) (hG : G ρ M = .ok (.t (.d (.str (S b)))) M) :
    eMethK "Table" "entry" [0, 2, 1] m_Table_entry (eVar 7) (eCons G (eCons F eNil)) ρ M = .ok (.t (.d (.int (gAt g i j)))) M := by
  unfold eMethK
  rw [hv]
  show (match insOf M (.t (.d (tabD l r g))) with
    | some (c', ns) => if c' = "Table" ∧ ("entry" : Str) ∉ ns then ((eCons G (eCons F eNil)) ρ M).bind fun rs M2 => if (R.t (.d (tabD l r g)) :: rs).length = [0, 2, 1].length then m_Table_entry (permL [0, 2, 1] (.d .non) ((R.t (.d (tabD l r g)) :: rs).map svR)) M2 else .bad else .bad
    | none => .bad) = _
  rw [insOf_tab]
  have hm : ("entry" : Str) ∉ tabN := by decide +kernel
  simp only [hm, not_false_eq_true, and_self, ↓reduceIte, cons_ev hG (cons_ev hF (show eNil ρ M = .ok [] M from rfl)), Out.bind]
  exact entry_ev H hi hj M
theorem makeK_ev (H : Tb l r g) {A : DenA} (hA : A ρ M = .ok [.t (.d (tpD (g.map fun r => tpD (ri r)))), .t (.d (tpD (kd r))), .t (.d (tpD (kd l)))] M) : eMakeK "Table" [0, 3, 2, 1] m_Table_init A ρ M = .ok (.t (tabT l r g)) M := by
  unfold eMakeK
  rw [hA]
  have e := tableInit (M := M ++ [T.ins "Table" []]) true true true true H (k := M.length) (at_last M _)
  have e0 : permL [0, 3, 2, 1] (.d .non) [SV.h M.length, SV.d (tpD (g.map fun r => tpD (ri r))), SV.d (tpD (kd r)), SV.d (tpD (kd l))] = [SV.h M.length, SV.d (tpD (kd l)), SV.d (tpD (kd r)), SV.d (tpD (g.map fun r => tpD (ri r)))] := rfl
  have e' : m_Table_init [.h M.length, .d (tpD (kd l)), .d (tpD (kd r)), .d (tpD (g.map fun r => tpD (ri r)))] (M ++ [.ins "Table" []]) = .ok (.t (.d .non)) ((M ++ [T.ins "Table" []]).set M.length (tabT l r g)) := e
  simp only [Out.bind, List.length_cons, List.length_nil, Nat.reduceAdd, ↓reduceIte, List.map_cons, List.map_nil, svR, frz]
  rw [e0, e', set_last]
  show Out.ok (R.t ((M ++ [tabT l r g]).getD M.length (.d .non))) ((M ++ [tabT l r g]).take M.length) = _
  rw [getD_last, take_last]
theorem twice_ev (v : Int) (M : Mst) : mulR (.t (.lst [.d (.int v)])) (.t (.d (.int 2))) M = .ok (.t (.lst [.d (.int v), .d (.int v)])) M := by
  show (match src M (.t (.lst ([D.int v].map T.d))) with
    | some (.l ds, M1) => (match frzR M1 (.t (.d (.int 2))) with
      | .int k => if k < 1000000 ∧ -1000000 < k ∧ ds.length * k.toNat ≤ 1000000 then Out.ok (R.t (.lst ((List.replicate k.toNat ds).flatten.map T.d))) M1 else .bad
      | _ => .bad)
    | _ => .bad) = _
  rw [src_lst]
  exact if_pos ⟨by decide, by decide, (by decide : 1 * 2 ≤ 1000000)⟩
theorem rev_ev (ws : List (List Nat)) (M : Mst) : revR (.t (.d (.lst (kd ws)))) M = .ok (.t (.lst ((kd ws.reverse).map T.d))) M := by
  show Out.ok (R.t (.lst ((kd ws).reverse.map T.d))) M = _
  unfold kd
  simp only [List.map_reverse]
theorem neB (a b : Bool) (M : Mst) : neR (.t (.d (.bl a))) (.t (.d (.bl b))) M = .ok (.t (.d (.bl (!decide (a = b))))) M := by cases a <;> cases b <;> rfl
theorem rev_tb (H : Tb l r g) : Tb l.reverse r g := ⟨⟨by rw [List.length_reverse]; exact H.hl.l1, by rw [List.length_reverse]; exact H.hl.l5, fun w hw => H.hl.ok w (List.mem_reverse.mp hw), List.pairwise_reverse.mpr (H.hl.nd.imp fun h => Ne.symm h)⟩, H.hr, by rw [List.length_reverse]; exact H.hg⟩
theorem bent_tb (H : Tb l r g) (hi : g[i]? = some row) (x : Int) : Tb l r (g.set i (row.set j x)) := ⟨H.hl, H.hr, by rw [List.length_set]; exact H.hg.1, fun q hq => by
  rcases List.mem_or_eq_of_mem_set hq with h | rfl
  · exact H.hg.2 q h
  · rw [List.length_set]; exact H.hg.2 row (List.mem_of_getElem? hi)⟩
theorem bent_ne (hi : g[i]? = some row) (hj : row[j]? = some v) : g ≠ g.set i (row.set j (v + 1)) := fun e => by
  have hl := (List.getElem?_eq_some_iff.mp hi).1
  have hl2 := (List.getElem?_eq_some_iff.mp hj).1
  have e1 : (g.set i (row.set j (v + 1)))[i]? = some row := by rw [← e]; exact hi
  rw [List.getElem?_set_self hl] at e1
  have e2 := Option.some.inj e1
  have e3 : (row.set j (v + 1))[j]? = some v := by rw [e2]; exact hj
  rw [List.getElem?_set_self hl2] at e3
  have := Option.some.inj e3
  omega
theorem par3_ev {A : DenA} {x y z : List T} (h : A ρ M = .ok [.t (.lst x), .t (.lst y), .t (.lst z)] M) : sPar3 (gSetM 4) (gSetM 5) (gSetM 6) A ρ M = some (.nx (((ρ.set 4 (some (.h M.length))).set 5 (some (.h (M.length + 1)))).set 6 (some (.h (M.length + 2)))), M ++ [.lst x] ++ [.lst y] ++ [.lst z]) := by
  unfold sPar3
  rw [h]
  show some (Fl.nx (((ρ.set 4 (some (.h M.length))).set 5 (some (.h (M ++ [T.lst x]).length))).set 6 (some (.h ((M ++ [T.lst x]) ++ [T.lst y]).length))), _) = _
  rw [List.length_append, List.length_append, List.length_append]
  rfl
theorem three (h : RD 0 M M) (hn : ntL M = true) {x y z : T} (h1 : ntT x = true) (h2 : ntT y = true) (h3 : ntT z = true) : ∃ M2, M2 = M ++ [x] ++ [y] ++ [z] ∧ M2[M.length]? = some x ∧ M2[M.length + 1]? = some y ∧ M2[M.length + 2]? = some z ∧ RD 0 M2 M2 ∧ ntL M2 = true ∧ M.length ≠ 0 := by
  refine ⟨_, rfl, ?_, ?_, ?_, ((h.push x).push y).push z, ?_, ?_⟩
  · rw [List.getElem?_append_left (by simp), List.getElem?_append_left (by simp), at_last]
  · rw [List.getElem?_append_left (by simp)]
    have := at_last (M ++ [x]) y
    rw [List.length_append] at this
    exact this
  · have := at_last (M ++ [x] ++ [y]) z
    rw [List.length_append, List.length_append] at this
    exact this
  · rw [nt_app, nt_app, nt_app, hn]
    show ((true && (ntT x && true)) && (ntT y && true) && (ntT z && true)) = true
    rw [h1, h2, h3]; rfl
  · have := h.lt; omega
theorem asg_d {Fe : Den} {x : T} {d : D} (n : Nat) (h : Fe ρ M = .ok (.t x) M) (hd : frz x = d) : sAsg Fe (gSet n) ρ M = some (.nx (ρ.set n (some (.d d))), M) := by
  subst hd
  exact asg_ev h rfl
theorem fz_h {n : Nat} {t : T} {d : D} (h : ρ[n]? = some (some (.h k))) (hk : M[k]? = some t) (hd : frz t = d) : eVar n (ρ.map (fzS M)) [] = .ok (.t (.d d)) [] := by
  unfold eVar
  rw [List.getElem?_map, h]
  show Out.ok (R.t (.d (frz (M.getD k (.d .non))))) [] = _
  rw [getD_of hk, hd]
theorem fz_d {n : Nat} {d : D} (h : ρ[n]? = some (some (.d d))) : eVar n (ρ.map (fzS M)) [] = .ok (.t (.d d)) [] := by
  unfold eVar
  rw [List.getElem?_map, h]
  rfl
theorem appT_ev {F : Den} {ts : List T} (d : D) (h : F ρ M = .ok (.t (.lst ts)) M) (hl : ts.length ≤ 1000) : eAppT F (vC d) ρ M = .ok (.t (.d .non)) M := by
  unfold eAppT
  rw [h]
  show (if ts.length + 1 ≤ 1000000 then Out.ok (R.t (.d .non)) M else .bad) = _
  rw [if_pos (by omega)]
theorem clearT_ev {F : Den} {ts : List T} (h : F ρ M = .ok (.t (.lst ts)) M) : eClearT F ρ M = .ok (.t (.d .non)) M := by
  unfold eClearT
  rw [h]; rfl
theorem nt_lst {ts : List T} (h : ntL ts = true) : ntT (.lst ts) = true := h
theorem nt_add {ts : List T} (d : D) (h : ntL ts = true) : ntT (.lst (ts ++ [T.d d])) = true := by
  show ntL (ts ++ [T.d d]) = true
  rw [nt_app, h]; rfl
theorem lt_of_get {α : Type} {xs : List α} {n : Nat} {x : α} (h : xs[n]? = some x) : n < xs.length := (List.getElem?_eq_some_iff.mp h).1
theorem gl1 (M : Mst) : getR (.t (.d (lookD l r g))) (.t (.d (.int 1))) M = .ok (.t (.d (.lst (kd l)))) M := rfl
theorem gl2 (M : Mst) : getR (.t (.d (lookD l r g))) (.t (.d (.int 2))) M = .ok (.t (.d (.lst (kd r)))) M := rfl
theorem tb_ev {F : Den} {c : Bool} (h : F ρ M = .ok (.t (.d (.bl c))) M) : eTB F ρ M = .ok c M := by
  unfold eTB
  rw [h]; rfl
theorem or_f {F G : DenT} (h : F ρ M = .ok false M) (h2 : G ρ M = .ok false M) : tOrD F G ρ M = .ok false M := by
  unfold tOrD
  rw [h]
  exact h2
theorem turns (ns : List Int) {Φ : Fl → Mst → Prop} (hR : RD 0 M M) (hN : ntL M = true) (k : ∀ t2 l3 l4 r5 w6 m7 n8 t9 s10 d11 i12 j13 a14 b15 u16 M', Φ (.nx (rL ns t2 l3 l4 r5 w6 m7 n8 t9 s10 d11 i12 j13 a14 b15 u16)) M') : WpS (t_law_1 (rL ns none none none none none none none none none none none none none none none) M) Φ := by
  unfold t_law_1
  refine wps_for (fun ρ M' => (RD 0 M' M' ∧ ntL M' = true) ∧ ∃ t2 l3 l4 r5 w6 m7 n8 t9 s10 d11 i12 j13 a14 b15 u16, ρ = rL ns t2 l3 l4 r5 w6 m7 n8 t9 s10 d11 i12 j13 a14 b15 u16) (range1_w 3 (by decide) (wp_eq (M' := M) rfl ⟨rfl, ⟨⟨hR, hN⟩, none, none, none, none, none, none, none, none, none, none, none, none, none, none, none, rfl⟩, fun d _ ρ M' hI => ?_, fun ρ M' ⟨_, t2, l3, l4, r5, w6, m7, n8, t9, s10, d11, i12, j13, a14, b15, u16, hρ⟩ => by rw [hρ]; exact k _ _ _ _ _ _ _ _ _ _ _ _ _ _ _ M'⟩))
  obtain ⟨⟨hR, hN⟩, t2, l3, l4, r5, w6, m7, n8, t9, s10, d11, i12, j13, a14, b15, u16, rfl⟩ := hI
  refine ⟨_, rfl, ?_⟩
  show WpS (sSeq _ _ (rL ns (some (.d d)) l3 l4 r5 w6 m7 n8 t9 s10 d11 i12 j13 a14 b15 u16) M') _
  rw [wps_seq]; simp only [wp_ok, wp_bind, wp_ite, wps_some, wps_none, wps_ite, wps_bind, seqK_rt, seqK_xc, seqK_ct, seqK_bk, fnK_rt, fnK_nx, eVar, eC, eSeq2, eSeq1, eNil, eCons, eTB, eTru, tAndD, tOrD, tNotD, eNot, eAnd, eOr, eIf, sNil, sBad, sIf, sRet, sExpr, sAsg, gSet, svR, frz, frzR, eB, eCall, eArity, eLst, eTup, treesM, tYesD, eChain, dat, truth, List.getElem?_cons_zero, List.getElem?_cons_succ, List.set_cons_zero, List.set_cons_succ, List.map_cons, List.map_nil, List.length_cons, List.length_nil, Nat.reduceAdd, if_true, if_false, Bool.false_eq_true, decide_true, decide_false, Bool.not_true, Bool.not_false, frzL, take_len, and_true, true_and]
  refine Wp.plain_look (M0 := M') hR 5 (by decide) (by decide) fun l r g M1 H Bg r1 _ => ?_
  simp only [wp_ok, wp_bind, wp_ite, wps_some, wps_none, wps_ite, wps_bind, seqK_rt, seqK_xc, seqK_ct, seqK_bk, fnK_rt, fnK_nx, eVar, eC, eSeq2, eSeq1, eNil, eCons, eTB, eTru, tAndD, tOrD, tNotD, eNot, eAnd, eOr, eIf, sNil, sBad, sIf, sRet, sExpr, sAsg, gSet, svR, frz, frzR, eB, eCall, eArity, eLst, eTup, treesM, tYesD, eChain, dat, truth, List.getElem?_cons_zero, List.getElem?_cons_succ, List.set_cons_zero, List.set_cons_succ, List.map_cons, List.map_nil, List.length_cons, List.length_nil, Nat.reduceAdd, if_true, if_false, Bool.false_eq_true, decide_true, decide_false, Bool.not_true, Bool.not_false, frzL, take_len, and_true, true_and, frz_look]
  rw [seqK_nx]
  have hl5 := H.hl.l5
  have hl1 := H.hl.l1
  have hr5 := H.hr.l5
  have hr1 := H.hr.l1
  have hg := H.hg.1
  have hN1 := r1.nt hN
  have R1 := r1.refl
  refine step (par3_ev (x := (kd l).map T.d) (y := (kd r).map T.d) (z := g.map fun r => T.lst ((ri r).map T.d)) (cons_ev (eB_one' (look_1 (l := l) (r := r) (g := g) rfl) rfl) (cons_ev (eB_one' (look_2 (l := l) (r := r) (g := g) rfl) rfl) (cons_ev (lcrows_ev (look_3 (l := l) (r := r) (g := g) rfl) (by simp) (by omega)) rfl)))) ?_
  obtain ⟨M2, e2, at4, at5, at6, R2, N2, nz⟩ := three R1 hN1 (x := .lst ((kd l).map T.d)) (y := .lst ((kd r).map T.d)) (z := .lst (g.map fun r => T.lst ((ri r).map T.d))) (nt_ds _) (nt_ds _) (nt_rows g)
  rw [← e2]
  obtain ⟨n, hn⟩ : ∃ n, n = M1.length := ⟨_, rfl⟩
  rw [← hn] at at4 at5 at6 nz ⊢
  clear e2
  show WpS (sSeq _ _ (rL ns (some (.d d)) (some (.d (lookD l r g))) (some (.h n)) (some (.h (n + 1))) (some (.h (n + 2))) m7 n8 t9 s10 d11 i12 j13 a14 b15 u16) M2) _
  refine step (asg_d 7 (fresh_ev H (cons_ev (fz_h (n := 4) rfl at4 (frz_ds _)) (cons_ev (fz_h (n := 5) rfl at5 (frz_ds _)) (cons_ev (fz_h (n := 6) rfl at6 (frz_rowsT g)) rfl))) N2) (tabfrz l r g)) ?_
  show WpS (sSeq _ _ (rL ns (some (.d d)) (some (.d (lookD l r g))) (some (.h n)) (some (.h (n + 1))) (some (.h (n + 2))) (some (.d (tabD l r g))) n8 t9 s10 d11 i12 j13 a14 b15 u16) M2) _
  refine step (expr_ev (appP_var (k := n) (i := 4) (.str "zz") rfl at4 (by rw [List.length_map, List.length_map]; omega))) ?_
  have R3 := rd_set R2 (T.lst ((kd l).map T.d ++ [T.d (.str "zz")])) nz
  have N3 := nt_set M2 n _ N2 (nt_add (.str "zz") (nt_ds (kd l)))
  have at5 : (M2.set n (T.lst ((kd l).map T.d ++ [T.d (.str "zz")])))[n + 1]? = some (.lst ((kd r).map T.d)) := by rw [List.getElem?_set_ne (by omega)]; exact at5
  have at6 : (M2.set n (T.lst ((kd l).map T.d ++ [T.d (.str "zz")])))[n + 2]? = some (.lst (g.map fun r => T.lst ((ri r).map T.d))) := by rw [List.getElem?_set_ne (by omega)]; exact at6
  generalize M2.set n (T.lst ((kd l).map T.d ++ [T.d (.str "zz")])) = M3 at R3 N3 at5 at6 ⊢
  obtain ⟨pd, ep⟩ := popP_var (ρ := rL ns (some (.d d)) (some (.d (lookD l r g))) (some (.h n)) (some (.h (n + 1))) (some (.h (n + 2))) (some (.d (tabD l r g))) n8 t9 s10 d11 i12 j13 a14 b15 u16) (k := n + 1) (i := 5) (ds := kd r) rfl at5 (by rw [List.length_map]; omega)
  refine step (expr_ev ep) ?_
  have R4 := rd_set R3 (T.lst ((kd r).dropLast.map T.d)) (Nat.succ_ne_zero n)
  have N4 := nt_set M3 (n + 1) _ N3 (nt_lst (nt_ds (kd r).dropLast))
  have at6 : (M3.set (n + 1) (T.lst ((kd r).dropLast.map T.d)))[n + 2]? = some (.lst (g.map fun r => T.lst ((ri r).map T.d))) := by rw [List.getElem?_set_ne (by omega)]; exact at6
  generalize M3.set (n + 1) (T.lst ((kd r).dropLast.map T.d)) = M4 at R4 N4 at6 ⊢
  obtain ⟨g0, gs, rfl⟩ : ∃ g0 gs, g = g0 :: gs := by
    cases g with
    | nil => simp at hg; omega
    | cons g0 gs => exact ⟨g0, gs, rfl⟩
  have h0l : ((ri g0).map T.d).length ≤ 1000 := by rw [List.length_map, List.length_map, H.hg.2 g0 List.mem_cons_self]; omega
  have hgs : gs.length ≤ 1000 := by simp at hg; omega
  refine step (expr_ev (appP_row (k := n + 2) (i := 6) .non rfl at6 h0l)) ?_
  have ng := nt_rows (g0 :: gs)
  have ngs := nt_rows gs
  have nrow : ntT (.lst (T.lst ((ri g0).map T.d ++ [T.d .non]) :: gs.map fun r => T.lst ((ri r).map T.d))) = true := by
    show (ntT (.lst ((ri g0).map T.d ++ [T.d .non])) && ntL (gs.map fun r => T.lst ((ri r).map T.d))) = true
    rw [nt_add .non (nt_ds (ri g0)), ngs]; rfl
  have R5 := rd_set R4 (T.lst (T.lst ((ri g0).map T.d ++ [T.d .non]) :: gs.map fun r => T.lst ((ri r).map T.d))) (Nat.succ_ne_zero (n + 1))
  have N5 := nt_set M4 (n + 2) _ N4 nrow
  have at6 : (M4.set (n + 2) (T.lst (T.lst ((ri g0).map T.d ++ [T.d .non]) :: gs.map fun r => T.lst ((ri r).map T.d))))[n + 2]? = some (T.lst (T.lst ((ri g0).map T.d ++ [T.d .non]) :: gs.map fun r => T.lst ((ri r).map T.d))) := List.getElem?_set_self (lt_of_get at6)
  generalize M4.set (n + 2) (T.lst (T.lst ((ri g0).map T.d ++ [T.d .non]) :: gs.map fun r => T.lst ((ri r).map T.d))) = M5 at R5 N5 at6 ⊢
  refine step (expr_ev (appP_var (k := n + 2) (i := 6) (.int 3) rfl at6 (by rw [List.length_cons, List.length_map]; simp at hg; omega))) ?_
  have R6 := rd_set R5 (T.lst ((T.lst ((ri g0).map T.d ++ [T.d .non]) :: gs.map fun r => T.lst ((ri r).map T.d)) ++ [T.d (.int 3)])) (Nat.succ_ne_zero (n + 1))
  have N6 := nt_set M5 (n + 2) _ N5 (nt_add (.int 3) (show ntL _ = true from nrow))
  generalize M5.set (n + 2) (T.lst ((T.lst ((ri g0).map T.d ++ [T.d .non]) :: gs.map fun r => T.lst ((ri r).map T.d)) ++ [T.d (.int 3)])) = M6 at R6 N6 ⊢
  clear at4 at5 at6 R2 R3 R4 R5 N2 N3 N4 N5 ep
  refine step (expr_ev (appT_ev .non (left_ev (l := l) (r := r) (g := g0 :: gs) rfl) (by rw [List.length_map, List.length_map]; omega))) ?_
  refine step (expr_ev (clearT_ev (right_ev (l := l) (r := r) (g := g0 :: gs) rfl))) ?_
  refine step (asg_ev (rowsM_ev H rfl) (gSetM_lst 8 _ _ M6)) ?_
  show WpS (sSeq _ _ (rL ns (some (.d d)) (some (.d (lookD l r (g0 :: gs)))) (some (.h n)) (some (.h (n + 1))) (some (.h (n + 2))) (some (.d (tabD l r (g0 :: gs)))) (some (.h M6.length)) t9 s10 d11 i12 j13 a14 b15 u16) (M6 ++ [T.lst (T.lst ((ri g0).map T.d) :: gs.map fun r => T.lst ((ri r).map T.d))])) _
  refine step (expr_ev (appP_row (k := M6.length) (i := 8) .non rfl (at_last M6 _) h0l)) ?_
  rw [set_last]
  have R7 := R6.push (T.lst (T.lst ((ri g0).map T.d ++ [T.d .non]) :: gs.map fun r => T.lst ((ri r).map T.d)))
  have N7 : ntL (M6 ++ [T.lst (T.lst ((ri g0).map T.d ++ [T.d .non]) :: gs.map fun r => T.lst ((ri r).map T.d))]) = true := by
    rw [nt_app, N6]
    show (true && (ntT _ && true)) = true
    rw [nrow]; rfl
  generalize M6 ++ [T.lst (T.lst ((ri g0).map T.d ++ [T.d .non]) :: gs.map fun r => T.lst ((ri r).map T.d))] = M7 at R7 N7 ⊢
  refine step (asg_d 9 (told_ev H rfl) (frz_told l r (g0 :: gs))) ?_
  refine step (asg_d 10 (shown_ev H rfl) rfl) ?_
  refine step (asg_d 11 (due_ev H rfl rfl) rfl) ?_
  show WpS (sSeq _ _ (rL ns (some (.d d)) (some (.d (lookD l r (g0 :: gs)))) (some (.h n)) (some (.h (n + 1))) (some (.h (n + 2))) (some (.d (tabD l r (g0 :: gs)))) (some (.h M6.length)) (some (.d (toldD l r (g0 :: gs)))) (some (.d (.str (reprS l.length r.length)))) (some (.d (toldD l r (g0 :: gs)))) i12 j13 a14 b15 u16) M7) _
  refine step (same_if (d := toldD l r (g0 :: gs)) (r1 := .t (.d (toldD l r (g0 :: gs)))) (r2 := .t (.d (toldD l r (g0 :: gs)))) rfl rfl rfl rfl (ok_told H)) ?_
  rw [wps_seq]
  simp only [wp_ok, wp_bind, wp_ite, wps_some, wps_none, wps_ite, wps_bind, seqK_rt, seqK_xc, seqK_ct, seqK_bk, fnK_rt, fnK_nx, eVar, eC, eSeq2, eSeq1, eNil, eCons, eTB, eTru, tAndD, tOrD, tNotD, eNot, eAnd, eOr, eIf, sNil, sBad, sIf, sRet, sExpr, sAsg, gSet, svR, frz, frzR, eB, eCall, eArity, eLst, eTup, treesM, tYesD, eChain, dat, truth, List.getElem?_cons_zero, List.getElem?_cons_succ, List.set_cons_zero, List.set_cons_succ, List.map_cons, List.map_nil, List.length_cons, List.length_nil, Nat.reduceAdd, if_true, if_false, Bool.false_eq_true, decide_true, decide_false, Bool.not_true, Bool.not_false, frzL, take_len, and_true, true_and, sPar2, gl1, gl2, lenL, List.length_map]
  refine Wp.draw R7 (by omega) (by omega) fun i M8 i0 i1 _ r8 => ?_
  simp only [wp_ok, wp_bind, wp_ite, wps_some, wps_none, wps_ite, wps_bind, seqK_rt, seqK_xc, seqK_ct, seqK_bk, fnK_rt, fnK_nx, eVar, eC, eSeq2, eSeq1, eNil, eCons, eTB, eTru, tAndD, tOrD, tNotD, eNot, eAnd, eOr, eIf, sNil, sBad, sIf, sRet, sExpr, sAsg, gSet, svR, frz, frzR, eB, eCall, eArity, eLst, eTup, treesM, tYesD, eChain, dat, truth, List.getElem?_cons_zero, List.getElem?_cons_succ, List.set_cons_zero, List.set_cons_succ, List.map_cons, List.map_nil, List.length_cons, List.length_nil, Nat.reduceAdd, if_true, if_false, Bool.false_eq_true, decide_true, decide_false, Bool.not_true, Bool.not_false, frzL, take_len, and_true, true_and, gl2, lenL, List.length_map]
  refine Wp.draw r8 (by omega) (by omega) fun j M9 j0 j1 r9 _ => ?_
  simp only [wp_ok, wp_bind, wp_ite, wps_some, wps_none, wps_ite, wps_bind, seqK_rt, seqK_xc, seqK_ct, seqK_bk, fnK_rt, fnK_nx, eVar, eC, eSeq2, eSeq1, eNil, eCons, eTB, eTru, tAndD, tOrD, tNotD, eNot, eAnd, eOr, eIf, sNil, sBad, sIf, sRet, sExpr, sAsg, gSet, svR, frz, frzR, eB, eCall, eArity, eLst, eTup, treesM, tYesD, eChain, dat, truth, List.getElem?_cons_zero, List.getElem?_cons_succ, List.set_cons_zero, List.set_cons_succ, List.map_cons, List.map_nil, List.length_cons, List.length_nil, Nat.reduceAdd, if_true, if_false, Bool.false_eq_true, decide_true, decide_false, Bool.not_true, Bool.not_false, frzL, take_len, and_true, true_and]
  rw [seqK_nx]
  have N9 := r9.nt N7
  have R9 := r9.refl
  obtain ⟨i, rfl⟩ : ∃ n : Nat, i = (n : Int) := ⟨i.toNat, by omega⟩
  obtain ⟨j, rfl⟩ : ∃ n : Nat, j = (n : Int) := ⟨j.toNat, by omega⟩
  show WpS (sSeq _ _ (rL ns (some (.d d)) (some (.d (lookD l r (g0 :: gs)))) (some (.h n)) (some (.h (n + 1))) (some (.h (n + 2))) (some (.d (tabD l r (g0 :: gs)))) (some (.h M6.length)) (some (.d (toldD l r (g0 :: gs)))) (some (.d (.str (reprS l.length r.length)))) (some (.d (toldD l r (g0 :: gs)))) (some (.d (.int (i : Nat)))) (some (.d (.int (j : Nat)))) a14 b15 u16) M9) _
  have il : i < l.length := by omega
  have jl : j < r.length := by omega
  have hi : l[i]? = some l[i] := List.getElem?_eq_getElem il
  have hj : r[j]? = some r[j] := List.getElem?_eq_getElem jl
  have ig : i < (g0 :: gs).length := by rw [hg]; exact il
  obtain ⟨row, hrow⟩ : ∃ row, (g0 :: gs)[i]? = some row := ⟨_, List.getElem?_eq_getElem ig⟩
  have hrl := H.hg.2 row (List.mem_of_getElem? hrow)
  obtain ⟨v, hv⟩ : ∃ v, row[j]? = some v := ⟨_, List.getElem?_eq_getElem (by rw [hrl]; exact jl)⟩
  have hat : gAt (g0 :: gs) i j = v := by
    unfold gAt
    rw [List.getD_eq_getElem?_getD, List.getD_eq_getElem?_getD, hrow]
    show (row[j]?).getD 0 = v
    rw [hv]; rfl
  have ep := fun (ρ : Ev) (h3 : eVar 3 ρ M9 = .ok (.t (.d (lookD l r (g0 :: gs)))) M9) (h7 : eVar 7 ρ M9 = .ok (.t (.d (tabD l r (g0 :: gs)))) M9) (h12 : eVar 12 ρ M9 = .ok (.t (.d (.int (i : Nat)))) M9) (h13 : eVar 13 ρ M9 = .ok (.t (.d (.int (j : Nat)))) M9) => entry_pos H hi hj h7 (get_kd (look_1 h3) h12 hi) (get_kd (look_2 h3) h13 hj)
  have ek := fun (ρ : Ev) (h3 : eVar 3 ρ M9 = .ok (.t (.d (lookD l r (g0 :: gs)))) M9) (h7 : eVar 7 ρ M9 = .ok (.t (.d (tabD l r (g0 :: gs)))) M9) (h12 : eVar 12 ρ M9 = .ok (.t (.d (.int (i : Nat)))) M9) (h13 : eVar 13 ρ M9 = .ok (.t (.d (.int (j : Nat)))) M9) => entry_kw H hi hj h7 (get_kd (look_1 h3) h12 hi) (get_kd (look_2 h3) h13 hj)
  rw [hat] at ep ek
  refine step (asg_d 9 (d := .lst [.int v, .int v]) (lst_ev [.d (.int v), .d (.int v)] (cons_ev (ep _ rfl rfl rfl rfl) (cons_ev (ek _ rfl rfl rfl rfl) rfl)) (by simp)) rfl) ?_
  show WpS (sSeq _ _ (rL ns (some (.d d)) (some (.d (lookD l r (g0 :: gs)))) (some (.h n)) (some (.h (n + 1))) (some (.h (n + 2))) (some (.d (tabD l r (g0 :: gs)))) (some (.h M6.length)) (some (.d (.lst [.int v, .int v]))) (some (.d (.str (reprS l.length r.length)))) (some (.d (toldD l r (g0 :: gs)))) (some (.d (.int (i : Nat)))) (some (.d (.int (j : Nat)))) a14 b15 u16) M9) _
  have ex := fun (ρ : Ev) (h3 : eVar 3 ρ M9 = .ok (.t (.d (lookD l r (g0 :: gs)))) M9) (h12 : eVar 12 ρ M9 = .ok (.t (.d (.int (i : Nat)))) M9) (h13 : eVar 13 ρ M9 = .ok (.t (.d (.int (j : Nat)))) M9) => sq2_ev (lst_ev [.d (.int v)] (cons_ev (get_rows (look_3 h3) h12 h13 hrow hv) (show eNil ρ M9 = .ok (([] : List T).map R.t) M9 from rfl)) (by simp)) (show eC (.int 2) ρ M9 = _ from rfl) (twice_ev v M9)
  refine step (same_if (d := .lst [.int v, .int v]) (r1 := .t (.d (.lst [.int v, .int v]))) rfl (ex _ rfl rfl rfl) rfl rfl rfl) ?_
  refine step (asg_d 14 (makeK_ev H (cons_ev (lctups_ev (look_3 (l := l) (r := r) (g := g0 :: gs) rfl) (by simp) (by simp at hg ⊢; omega)) (cons_ev (eB_one' (look_2 (l := l) (r := r) (g := g0 :: gs) rfl) rfl) (cons_ev (eB_one' (look_1 (l := l) (r := r) (g := g0 :: gs) rfl) rfl) rfl)))) (tabfrz l r (g0 :: gs))) ?_
  refine step (asg_ev (lcrows_ev (look_3 (l := l) (r := r) (g := g0 :: gs) rfl) (by simp) (by simp at hg ⊢; omega)) (gSetM_lst 15 _ _ M9)) ?_
  show WpS (sSeq _ _ (rL ns (some (.d d)) (some (.d (lookD l r (g0 :: gs)))) (some (.h n)) (some (.h (n + 1))) (some (.h (n + 2))) (some (.d (tabD l r (g0 :: gs)))) (some (.h M6.length)) (some (.d (.lst [.int v, .int v]))) (some (.d (.str (reprS l.length r.length)))) (some (.d (toldD l r (g0 :: gs)))) (some (.d (.int (i : Nat)))) (some (.d (.int (j : Nat)))) (some (.d (tabD l r (g0 :: gs)))) (some (.h M9.length)) u16) (M9 ++ [rowsT (g0 :: gs)])) _
  refine step (asg_ev (sq2_ev (flat2 (K := M9.length) (g := g0 :: gs) (i := i) (j := j) (row := row) (v := v) (at_last M9 _) rfl rfl rfl hrow hv) rfl (addI v 1 _)) (item_set (i := i) (j := j) (row := row) (v + 1) rfl rfl rfl hrow (by rw [hrl]; exact jl))) ?_
  have Hb := bent_tb (j := j) H hrow (v + 1)
  have Nb := bent_ne hrow hv
  have R10 := R9.push (rowsT ((g0 :: gs).set i (row.set j (v + 1))))
  have N10 : ntL (M9 ++ [rowsT ((g0 :: gs).set i (row.set j (v + 1)))]) = true := by
    rw [nt_app, N9]
    show (true && (ntL _ && true)) = true
    rw [nt_rows]; rfl
  have atb := at_last M9 (rowsT ((g0 :: gs).set i (row.set j (v + 1))))
  generalize M9 ++ [rowsT ((g0 :: gs).set i (row.set j (v + 1)))] = M10 at R10 N10 atb ⊢
  have q1 := sq2_ev (ρ := rL ns (some (.d d)) (some (.d (lookD l r (g0 :: gs)))) (some (.h n)) (some (.h (n + 1))) (some (.h (n + 2))) (some (.d (tabD l r (g0 :: gs)))) (some (.h M6.length)) (some (.d (.lst [.int v, .int v]))) (some (.d (.str (reprS l.length r.length)))) (some (.d (toldD l r (g0 :: gs)))) (some (.d (.int (i : Nat)))) (some (.d (.int (j : Nat)))) (some (.d (tabD l r (g0 :: gs)))) (some (.h M9.length)) u16) (A := eVar 7) (B := eVar 14) rfl rfl (own_ne H (isT_d l r (g0 :: gs)) (isT_d l r (g0 :: gs)) M10)
  have q2 := sq2_ev (ρ := rL ns (some (.d d)) (some (.d (lookD l r (g0 :: gs)))) (some (.h n)) (some (.h (n + 1))) (some (.h (n + 2))) (some (.d (tabD l r (g0 :: gs)))) (some (.h M6.length)) (some (.d (.lst [.int v, .int v]))) (some (.d (.str (reprS l.length r.length)))) (some (.d (toldD l r (g0 :: gs)))) (some (.d (.int (i : Nat)))) (some (.d (.int (j : Nat)))) (some (.d (tabD l r (g0 :: gs)))) (some (.h M9.length)) u16) (A := eVar 7) rfl (fresh_ev Hb (cons_ev (look_1 (l := l) (r := r) (g := g0 :: gs) rfl) (cons_ev (look_2 (l := l) (r := r) (g := g0 :: gs) rfl) (cons_ev (fz_h (n := 15) rfl atb (frz_rowsT _)) (show eNil _ _ = .ok [] [] from rfl)))) N10) (own_eq H Hb (isT_d l r (g0 :: gs)) (isT_t _ _ _) M10)
  rw [decide_eq_false (fun z => Nb z.2.2)] at q2
  have q3 := sq2_ev (ρ := rL ns (some (.d d)) (some (.d (lookD l r (g0 :: gs)))) (some (.h n)) (some (.h (n + 1))) (some (.h (n + 2))) (some (.d (tabD l r (g0 :: gs)))) (some (.h M6.length)) (some (.d (.lst [.int v, .int v]))) (some (.d (.str (reprS l.length r.length)))) (some (.d (toldD l r (g0 :: gs)))) (some (.d (.int (i : Nat)))) (some (.d (.int (j : Nat)))) (some (.d (tabD l r (g0 :: gs)))) (some (.h M9.length)) u16) (A := eVar 7) rfl (look_3 (M := M10) (l := l) (r := r) (g := g0 :: gs) rfl) (own_eqL _ (isT_d l r (g0 :: gs)) M10)
  refine step (if_ev (or_f (tb_ev q1) (or_f (tb_ev q2) (tb_ev q3)))) ?_
  refine step (asg_d 16 (make_ev false false false false (rev_tb H) (cons_ev (a := .t (.lst ((kd l.reverse).map T.d))) (show eSeq1 revR (eSeq2 getR (eVar 3) (eC (.int 1))) _ M10 = _ from rev_ev l M10) (cons_ev (look_2 (l := l) (r := r) (g := g0 :: gs) rfl) (cons_ev (look_3 (l := l) (r := r) (g := g0 :: gs) rfl) rfl))) (svR_lst' _) rfl rfl) (tabfrz l.reverse r (g0 :: gs))) ?_
  have q4 := own_eq (rev_tb H) H (isT_d l.reverse r (g0 :: gs)) (isT_d l r (g0 :: gs)) M10
  have q5 : decide (l.reverse = l ∧ r = r ∧ g0 :: gs = g0 :: gs) = decide ((l.length : Int) = 1) := by
    rw [decide_eq_decide]
    have := rev_iff H.hl.nd hl1
    simp only [and_true, this]
    omega
  rw [q5] at q4
  show WpS (sIf (eTB (eSeq2 neR (eSeq2 (gOwn "Table" m_Table_eq) (eVar 16) (eVar 7)) (eSeq2 eqR (eB (scL lenD) (eCons (eSeq2 getR (eVar 3) (eC (.int 1))) eNil)) (eC (.int 1))))) (sRet (eC (.bl false))) sNil (rL ns (some (.d d)) (some (.d (lookD l r (g0 :: gs)))) (some (.h n)) (some (.h (n + 1))) (some (.h (n + 2))) (some (.d (tabD l r (g0 :: gs)))) (some (.h M6.length)) (some (.d (.lst [.int v, .int v]))) (some (.d (.str (reprS l.length r.length)))) (some (.d (toldD l r (g0 :: gs)))) (some (.d (.int (i : Nat)))) (some (.d (.int (j : Nat)))) (some (.d (tabD l r (g0 :: gs)))) (some (.h M9.length)) (some (.d (tabD l.reverse r (g0 :: gs))))) M10) _
  have q6 := sq2_ev (ρ := rL ns (some (.d d)) (some (.d (lookD l r (g0 :: gs)))) (some (.h n)) (some (.h (n + 1))) (some (.h (n + 2))) (some (.d (tabD l r (g0 :: gs)))) (some (.h M6.length)) (some (.d (.lst [.int v, .int v]))) (some (.d (.str (reprS l.length r.length)))) (some (.d (toldD l r (g0 :: gs)))) (some (.d (.int (i : Nat)))) (some (.d (.int (j : Nat)))) (some (.d (tabD l r (g0 :: gs)))) (some (.h M9.length)) (some (.d (tabD l.reverse r (g0 :: gs))))) (sq2_ev (A := eVar 16) (B := eVar 7) rfl rfl q4) (sq2_ev (len_kd (look_1 (M := M10) (l := l) (r := r) (g := g0 :: gs) rfl)) (show eC (.int 1) _ M10 = _ from rfl) (eqI _ 1 M10)) (neB _ _ M10)
  rw [decide_eq_true rfl] at q6
  rw [if_ev (tb_ev q6), wps_some]
  exact ⟨⟨R10, N10⟩, _, _, _, _, _, _, _, _, _, _, _, _, _, _, _, rfl⟩
theorem law_true (ns : List Int) (_ : ns.length ≤ 63) : ∃ M, m_law [.d (.ro (ns.map D.int))] [] = .ok (.t (.d (.bl true))) M := by
  obtain ⟨cs, s, r1, r2, r3⟩ := reel_ev ns
  have hR : Reel [reelT cs 0 0 s] 0 cs 0 0 s := ⟨rfl, by decide, r2, r3⟩
  have main : Wp (m_law [.d (.ro (ns.map D.int))] []) (fun r _ => r = .t (.d (.bl true))) (fun _ _ => False) := by
    refine wp_fn (ρ := [some (.d (.ro (ns.map D.int))), none, none, none, none, none, none, none, none, none, none, none, none, none, none, none, none, none]) rfl ?_
    unfold b_law
    rw [wps_seq]
    unfold t_law_0
    simp only [wp_ok, wp_bind, wp_ite, wps_some, wps_none, wps_ite, wps_bind, seqK_rt, seqK_xc, seqK_ct, seqK_bk, fnK_rt, fnK_nx, eVar, eC, eSeq2, eSeq1, eNil, eCons, eTB, eTru, tAndD, tOrD, tNotD, eNot, eAnd, eOr, eIf, sNil, sBad, sIf, sRet, sExpr, sAsg, gSet, svR, frz, frzR, eB, eCall, eArity, eLst, eTup, treesM, tYesD, eChain, dat, truth, List.getElem?_cons_zero, List.getElem?_cons_succ, List.set_cons_zero, List.set_cons_succ, List.map_cons, List.map_nil, List.length_cons, List.length_nil, Nat.reduceAdd, if_true, if_false, Bool.false_eq_true, decide_true, decide_false, Bool.not_true, Bool.not_false, frzL, take_len, and_true, true_and, r1]
    show WpS (some (.nx (rL ns none none none none none none none none none none none none none none none), [reelT cs 0 0 s])) _
    rw [wps_some, seqK_nx, wps_seq]
    refine turns ns (RD.self hR) rfl fun _ _ _ _ _ _ _ _ _ _ _ _ _ _ _ M' => ?_
    rw [seqK_nx]
    unfold t_law_2
    simp only [wp_ok, wp_bind, wp_ite, wps_some, wps_none, wps_ite, wps_bind, seqK_rt, seqK_xc, seqK_ct, seqK_bk, fnK_rt, fnK_nx, eVar, eC, eSeq2, eSeq1, eNil, eCons, eTB, eTru, tAndD, tOrD, tNotD, eNot, eAnd, eOr, eIf, sNil, sBad, sIf, sRet, sExpr, sAsg, gSet, svR, frz, frzR, eB, eCall, eArity, eLst, eTup, treesM, tYesD, eChain, dat, truth, List.getElem?_cons_zero, List.getElem?_cons_succ, List.set_cons_zero, List.set_cons_succ, List.map_cons, List.map_nil, List.length_cons, List.length_nil, Nat.reduceAdd, if_true, if_false, Bool.false_eq_true, decide_true, decide_false, Bool.not_true, Bool.not_false, frzL, take_len, and_true, true_and, eqI]
  obtain ⟨r, M', e, rfl⟩ := main.get
  exact ⟨M', e⟩
end
end Toy

/-! What the top has written, and the law (printed by gen.py) -/
namespace Toy
open PySem L2 DL PyProof.Rows
theorem all_mk {P : Program} {w : World} {K : PySem.W.Frag} {h : Heap} {mg : Str → Option Value} {fa : Addr} (X : K.In h) (G : h.Ns mainGlobals mg) (hfa : mg "law" = some (.ref fa))
    {f_Table_eq : Addr} {od_Table_eq an_Table_eq : Option Addr} {sl_Table_eq : Array (Option Value)} {oc_Table_eq kV_Table_eq dc_Table_eq pm_Table_eq cd_Table_eq ct_Table_eq : Value}
    {f_is_word : Addr} {od_is_word an_is_word : Option Addr} {sl_is_word : Array (Option Value)} {oc_is_word kV_is_word dc_is_word pm_is_word cd_is_word ct_is_word : Value}
    {f_is_kind : Addr} {od_is_kind an_is_kind : Option Addr} {sl_is_kind : Array (Option Value)} {oc_is_kind kV_is_kind dc_is_kind pm_is_kind cd_is_kind ct_is_kind : Value}
    {f_is_listed : Addr} {od_is_listed an_is_listed : Option Addr} {sl_is_listed : Array (Option Value)} {oc_is_listed kV_is_listed dc_is_listed pm_is_listed cd_is_listed ct_is_listed : Value}
    {f_check_kinds : Addr} {od_check_kinds an_check_kinds : Option Addr} {sl_check_kinds : Array (Option Value)} {oc_check_kinds kV_check_kinds dc_check_kinds pm_check_kinds cd_check_kinds ct_check_kinds : Value}
    {f_is_number : Addr} {od_is_number an_is_number : Option Addr} {sl_is_number : Array (Option Value)} {oc_is_number kV_is_number dc_is_number pm_is_number cd_is_number ct_is_number : Value}
    {f_check_values : Addr} {od_check_values an_check_values : Option Addr} {sl_check_values : Array (Option Value)} {oc_check_values kV_check_values dc_check_values pm_check_values cd_check_values ct_check_values : Value}
    {f_Table_init : Addr} {od_Table_init an_Table_init : Option Addr} {sl_Table_init : Array (Option Value)} {oc_Table_init kV_Table_init dc_Table_init pm_Table_init cd_Table_init ct_Table_init : Value}
    {f_Table_len : Addr} {od_Table_len an_Table_len : Option Addr} {sl_Table_len : Array (Option Value)} {oc_Table_len kV_Table_len dc_Table_len pm_Table_len cd_Table_len ct_Table_len : Value}
    {f_Table_repr : Addr} {od_Table_repr an_Table_repr : Option Addr} {sl_Table_repr : Array (Option Value)} {oc_Table_repr kV_Table_repr dc_Table_repr pm_Table_repr cd_Table_repr ct_Table_repr : Value}
    {f_Table_entry : Addr} {od_Table_entry an_Table_entry : Option Addr} {sl_Table_entry : Array (Option Value)} {oc_Table_entry kV_Table_entry dc_Table_entry pm_Table_entry cd_Table_entry ct_Table_entry : Value}
    {f_Table_is_square : Addr} {od_Table_is_square an_Table_is_square : Option Addr} {sl_Table_is_square : Array (Option Value)} {oc_Table_is_square kV_Table_is_square dc_Table_is_square pm_Table_is_square cd_Table_is_square ct_Table_is_square : Value}
    {f_Table_left : Addr} {od_Table_left an_Table_left : Option Addr} {sl_Table_left : Array (Option Value)} {oc_Table_left kV_Table_left dc_Table_left pm_Table_left cd_Table_left ct_Table_left : Value}
    {f_Table_right : Addr} {od_Table_right an_Table_right : Option Addr} {sl_Table_right : Array (Option Value)} {oc_Table_right kV_Table_right dc_Table_right pm_Table_right cd_Table_right ct_Table_right : Value}
    {f_Table_rows : Addr} {od_Table_rows an_Table_rows : Option Addr} {sl_Table_rows : Array (Option Value)} {oc_Table_rows kV_Table_rows dc_Table_rows pm_Table_rows cd_Table_rows ct_Table_rows : Value}
    {f_zdraw : Addr} {od_zdraw an_zdraw : Option Addr} {sl_zdraw : Array (Option Value)} {oc_zdraw kV_zdraw dc_zdraw pm_zdraw cd_zdraw ct_zdraw : Value}
    {f_znumber : Addr} {od_znumber an_znumber : Option Addr} {sl_znumber : Array (Option Value)} {oc_znumber kV_znumber dc_znumber pm_znumber cd_znumber ct_znumber : Value}
    {f_zof : Addr} {od_zof an_zof : Option Addr} {sl_zof : Array (Option Value)} {oc_zof kV_zof dc_zof pm_zof cd_zof ct_zof : Value}
    {f_zspoilt : Addr} {od_zspoilt an_zspoilt : Option Addr} {sl_zspoilt : Array (Option Value)} {oc_zspoilt kV_zspoilt dc_zspoilt pm_zspoilt cd_zspoilt ct_zspoilt : Value}
    {f_zgrid : Addr} {od_zgrid an_zgrid : Option Addr} {sl_zgrid : Array (Option Value)} {oc_zgrid kV_zgrid dc_zgrid pm_zgrid cd_zgrid ct_zgrid : Value}
    {f_zwords : Addr} {od_zwords an_zwords : Option Addr} {sl_zwords : Array (Option Value)} {oc_zwords kV_zwords dc_zwords pm_zwords cd_zwords ct_zwords : Value}
    {f_zkinds : Addr} {od_zkinds an_zkinds : Option Addr} {sl_zkinds : Array (Option Value)} {oc_zkinds kV_zkinds dc_zkinds pm_zkinds cd_zkinds ct_zkinds : Value}
    {f_zplain_look : Addr} {od_zplain_look an_zplain_look : Option Addr} {sl_zplain_look : Array (Option Value)} {oc_zplain_look kV_zplain_look dc_zplain_look pm_zplain_look cd_zplain_look ct_zplain_look : Value}
    {f_zreel : Addr} {od_zreel an_zreel : Option Addr} {sl_zreel : Array (Option Value)} {oc_zreel kV_zreel dc_zreel pm_zreel cd_zreel ct_zreel : Value}
    {f_zsame : Addr} {od_zsame an_zsame : Option Addr} {sl_zsame : Array (Option Value)} {oc_zsame kV_zsame dc_zsame pm_zsame cd_zsame ct_zsame : Value}
    {f_law : Addr} {od_law an_law : Option Addr} {sl_law : Array (Option Value)} {oc_law kV_law dc_law pm_law cd_law ct_law : Value}
    {C_Table : Addr}
    {p_Table_is_square : Addr} {r_Table_is_square : List Value}
    {mt_Table_MOST : Value} {tt_Table_MOST : Tok}
    {t_MOST_KINDS : Tok}
    {t_MOST_KIND : Tok}
    {t_LETTERS : Tok}
    (a_is_word : PySem.W.nsIn K mainGlobals "is_word" = some (some (.ref f_is_word))) (l_is_word : K.lookup f_is_word = some ⟨oc_is_word, od_is_word, .func (PySem.W.fnOf "is_word" "is_word" (defArgs s_is_word) (defBody s_is_word) (defScope s_is_word) .none kV_is_word dc_is_word pm_is_word an_is_word cd_is_word ct_is_word), sl_is_word⟩) (c_is_word : PySem.W.codeIn K cd_is_word "is_word" = true)
        (k_is_word : PySem.W.keepIn K (.ref f_is_word) = true)
    (a_is_kind : PySem.W.nsIn K mainGlobals "is_kind" = some (some (.ref f_is_kind))) (l_is_kind : K.lookup f_is_kind = some ⟨oc_is_kind, od_is_kind, .func (PySem.W.fnOf "is_kind" "is_kind" (defArgs s_is_kind) (defBody s_is_kind) (defScope s_is_kind) .none kV_is_kind dc_is_kind pm_is_kind an_is_kind cd_is_kind ct_is_kind), sl_is_kind⟩) (c_is_kind : PySem.W.codeIn K cd_is_kind "is_kind" = true)
        (k_is_kind : PySem.W.keepIn K (.ref f_is_kind) = true)
    (a_is_listed : PySem.W.nsIn K mainGlobals "is_listed" = some (some (.ref f_is_listed))) (l_is_listed : K.lookup f_is_listed = some ⟨oc_is_listed, od_is_listed, .func (PySem.W.fnOf "is_listed" "is_listed" (defArgs s_is_listed) (defBody s_is_listed) (defScope s_is_listed) .none kV_is_listed dc_is_listed pm_is_listed an_is_listed cd_is_listed ct_is_listed), sl_is_listed⟩)
        (c_is_listed : PySem.W.codeIn K cd_is_listed "is_listed" = true) (k_is_listed : PySem.W.keepIn K (.ref f_is_listed) = true)
    (a_check_kinds : PySem.W.nsIn K mainGlobals "check_kinds" = some (some (.ref f_check_kinds))) (l_check_kinds : K.lookup f_check_kinds = some ⟨oc_check_kinds, od_check_kinds, .func (PySem.W.fnOf "check_kinds" "check_kinds" (defArgs s_check_kinds) (defBody s_check_kinds)
        (defScope s_check_kinds) .none kV_check_kinds dc_check_kinds pm_check_kinds an_check_kinds cd_check_kinds ct_check_kinds), sl_check_kinds⟩) (c_check_kinds : PySem.W.codeIn K cd_check_kinds "check_kinds" = true) (k_check_kinds : PySem.W.keepIn K (.ref f_check_kinds) = true)
    (a_is_number : PySem.W.nsIn K mainGlobals "is_number" = some (some (.ref f_is_number))) (l_is_number : K.lookup f_is_number = some ⟨oc_is_number, od_is_number, .func (PySem.W.fnOf "is_number" "is_number" (defArgs s_is_number) (defBody s_is_number) (defScope s_is_number) .none kV_is_number dc_is_number pm_is_number an_is_number cd_is_number ct_is_number), sl_is_number⟩)
        (c_is_number : PySem.W.codeIn K cd_is_number "is_number" = true) (k_is_number : PySem.W.keepIn K (.ref f_is_number) = true)
    (a_check_values : PySem.W.nsIn K mainGlobals "check_values" = some (some (.ref f_check_values))) (l_check_values : K.lookup f_check_values = some ⟨oc_check_values, od_check_values, .func (PySem.W.fnOf "check_values" "check_values" (defArgs s_check_values) (defBody s_check_values)
        (defScope s_check_values) .none kV_check_values dc_check_values pm_check_values an_check_values cd_check_values ct_check_values), sl_check_values⟩) (c_check_values : PySem.W.codeIn K cd_check_values "check_values" = true) (k_check_values : PySem.W.keepIn K (.ref f_check_values) = true)
    (a_zdraw : PySem.W.nsIn K mainGlobals "_law_draw" = some (some (.ref f_zdraw))) (l_zdraw : K.lookup f_zdraw = some ⟨oc_zdraw, od_zdraw, .func (PySem.W.fnOf "_law_draw" "_law_draw" (defArgs s_zdraw) (defBody s_zdraw) (defScope s_zdraw) .none kV_zdraw dc_zdraw pm_zdraw an_zdraw cd_zdraw ct_zdraw), sl_zdraw⟩) (c_zdraw : PySem.W.codeIn K cd_zdraw "_law_draw" = true) (k_zdraw : PySem.W.keepIn K
        (.ref f_zdraw) = true)
    (a_znumber : PySem.W.nsIn K mainGlobals "_law_number" = some (some (.ref f_znumber))) (l_znumber : K.lookup f_znumber = some ⟨oc_znumber, od_znumber, .func (PySem.W.fnOf "_law_number" "_law_number" (defArgs s_znumber) (defBody s_znumber) (defScope s_znumber) .none kV_znumber dc_znumber pm_znumber an_znumber cd_znumber ct_znumber), sl_znumber⟩)
        (c_znumber : PySem.W.codeIn K cd_znumber "_law_number" = true) (k_znumber : PySem.W.keepIn K (.ref f_znumber) = true)
    (a_zof : PySem.W.nsIn K mainGlobals "_law_of" = some (some (.ref f_zof))) (l_zof : K.lookup f_zof = some ⟨oc_zof, od_zof, .func (PySem.W.fnOf "_law_of" "_law_of" (defArgs s_zof) (defBody s_zof) (defScope s_zof) .none kV_zof dc_zof pm_zof an_zof cd_zof ct_zof), sl_zof⟩) (c_zof : PySem.W.codeIn K cd_zof "_law_of" = true) (k_zof : PySem.W.keepIn K (.ref f_zof) = true)
    (a_zspoilt : PySem.W.nsIn K mainGlobals "_law_spoilt" = some (some (.ref f_zspoilt))) (l_zspoilt : K.lookup f_zspoilt = some ⟨oc_zspoilt, od_zspoilt, .func (PySem.W.fnOf "_law_spoilt" "_law_spoilt" (defArgs s_zspoilt) (defBody s_zspoilt) (defScope s_zspoilt) .none kV_zspoilt dc_zspoilt pm_zspoilt an_zspoilt cd_zspoilt ct_zspoilt), sl_zspoilt⟩)
        (c_zspoilt : PySem.W.codeIn K cd_zspoilt "_law_spoilt" = true) (k_zspoilt : PySem.W.keepIn K (.ref f_zspoilt) = true)
    (a_zgrid : PySem.W.nsIn K mainGlobals "_law_grid" = some (some (.ref f_zgrid))) (l_zgrid : K.lookup f_zgrid = some ⟨oc_zgrid, od_zgrid, .func (PySem.W.fnOf "_law_grid" "_law_grid" (defArgs s_zgrid) (defBody s_zgrid) (defScope s_zgrid) .none kV_zgrid dc_zgrid pm_zgrid an_zgrid cd_zgrid ct_zgrid), sl_zgrid⟩) (c_zgrid : PySem.W.codeIn K cd_zgrid "_law_grid" = true) (k_zgrid : PySem.W.keepIn K
        (.ref f_zgrid) = true)
    (a_zwords : PySem.W.nsIn K mainGlobals "_law_words" = some (some (.ref f_zwords))) (l_zwords : K.lookup f_zwords = some ⟨oc_zwords, od_zwords, .func (PySem.W.fnOf "_law_words" "_law_words" (defArgs s_zwords) (defBody s_zwords) (defScope s_zwords) .none kV_zwords dc_zwords pm_zwords an_zwords cd_zwords ct_zwords), sl_zwords⟩) (c_zwords : PySem.W.codeIn K cd_zwords "_law_words" = true)
        (k_zwords : PySem.W.keepIn K (.ref f_zwords) = true)
    (a_zkinds : PySem.W.nsIn K mainGlobals "_law_kinds" = some (some (.ref f_zkinds))) (l_zkinds : K.lookup f_zkinds = some ⟨oc_zkinds, od_zkinds, .func (PySem.W.fnOf "_law_kinds" "_law_kinds" (defArgs s_zkinds) (defBody s_zkinds) (defScope s_zkinds) .none kV_zkinds dc_zkinds pm_zkinds an_zkinds cd_zkinds ct_zkinds), sl_zkinds⟩) (c_zkinds : PySem.W.codeIn K cd_zkinds "_law_kinds" = true)
        (k_zkinds : PySem.W.keepIn K (.ref f_zkinds) = true)
    (a_zplain_look : PySem.W.nsIn K mainGlobals "_law_plain_look" = some (some (.ref f_zplain_look))) (l_zplain_look : K.lookup f_zplain_look = some ⟨oc_zplain_look, od_zplain_look, .func (PySem.W.fnOf "_law_plain_look" "_law_plain_look" (defArgs s_zplain_look) (defBody s_zplain_look)
        (defScope s_zplain_look) .none kV_zplain_look dc_zplain_look pm_zplain_look an_zplain_look cd_zplain_look ct_zplain_look), sl_zplain_look⟩) (c_zplain_look : PySem.W.codeIn K cd_zplain_look "_law_plain_look" = true) (k_zplain_look : PySem.W.keepIn K (.ref f_zplain_look) = true)
    (a_zreel : PySem.W.nsIn K mainGlobals "_law_reel" = some (some (.ref f_zreel))) (l_zreel : K.lookup f_zreel = some ⟨oc_zreel, od_zreel, .func (PySem.W.fnOf "_law_reel" "_law_reel" (defArgs s_zreel) (defBody s_zreel) (defScope s_zreel) .none kV_zreel dc_zreel pm_zreel an_zreel cd_zreel ct_zreel), sl_zreel⟩) (c_zreel : PySem.W.codeIn K cd_zreel "_law_reel" = true) (k_zreel : PySem.W.keepIn K
        (.ref f_zreel) = true)
    (a_zsame : PySem.W.nsIn K mainGlobals "_law_same" = some (some (.ref f_zsame))) (l_zsame : K.lookup f_zsame = some ⟨oc_zsame, od_zsame, .func (PySem.W.fnOf "_law_same" "_law_same" (defArgs s_zsame) (defBody s_zsame) (defScope s_zsame) .none kV_zsame dc_zsame pm_zsame an_zsame cd_zsame ct_zsame), sl_zsame⟩) (c_zsame : PySem.W.codeIn K cd_zsame "_law_same" = true) (k_zsame : PySem.W.keepIn K
        (.ref f_zsame) = true)
    (a_law : PySem.W.nsIn K mainGlobals "law" = some (some (.ref f_law))) (l_law : K.lookup f_law = some ⟨oc_law, od_law, .func (PySem.W.fnOf "law" "law" (defArgs s_law) (defBody s_law) (defScope s_law) .none kV_law dc_law pm_law an_law cd_law ct_law), sl_law⟩) (c_law : PySem.W.codeIn K cd_law "law" = true) (k_law : PySem.W.keepIn K (.ref f_law) = true)
    (ac_Table : PySem.W.nsIn K mainGlobals "Table" = some (some (.ref C_Table))) (pg_Table : PySem.W.plainGet K C_Table Str.empty = true) (hd_Table : PySem.W.hasDictIn K C_Table = true) (po_Table : PySem.W.plainOver K C_Table = true) (sa_Table : PySem.W.findIn K (.ref C_Table) "__setattr__" = some (some (.builtin "object.__setattr__"))) (kc_Table : PySem.W.keepIn K (.ref C_Table) = true)
    (v_Table_left : PySem.W.findIn K (.ref C_Table) "left" = some (some (.ref f_Table_left)))
    (v_Table_right : PySem.W.findIn K (.ref C_Table) "right" = some (some (.ref f_Table_right)))
    (v_Table_rows : PySem.W.findIn K (.ref C_Table) "rows" = some (some (.ref f_Table_rows)))
    (v_Table_entry : PySem.W.findIn K (.ref C_Table) "entry" = some (some (.ref f_Table_entry)))
    (mk_Table : PySem.W.makesIn K C_Table = true) (v_Table_init : PySem.W.findIn K (.ref C_Table) "__init__" = some (some (.ref f_Table_init)))
    (v_Table_is_square : PySem.W.findIn K (.ref C_Table) "is_square" = some (some (.ref p_Table_is_square))) (pq_Table_is_square : PySem.W.specialIn K (.ref p_Table_is_square) "__get__" = some (some (.builtin "property.__get__"))) (pt_Table_is_square : PySem.W.takesIn K (.ref p_Table_is_square) = some true) (pr_Table_is_square : PySem.W.recIn K p_Table_is_square "property" = some
        (.ref f_Table_is_square :: r_Table_is_square))
    (ix_Table : PySem.W.findIn K (.ref C_Table) "__class__" = some (some (.builtin "object.__class__"))) (iy_Table : PySem.W.specialIn K (.builtin "object.__class__") "__get__" = some (some (.builtin "getset_descriptor.__get__"))) (iz_Table : PySem.W.takesIn K (.builtin "object.__class__") = some true) (io_Table : PySem.W.mroIn K C_Table (.type "object") = some true)
    (it_Table : PySem.W.typeIn K (.ref C_Table) = some (.type "type")) (is_Table : PySem.W.subIn K (.type "list") (.ref C_Table) = some false)
    (cy_Table_MOST : PySem.W.typeIn K (.ref C_Table) = some mt_Table_MOST)
    (cr_Table_MOST : PySem.W.readsIn K C_Table mt_Table_MOST = true) (cg_Table_MOST : PySem.W.specialIn K (.ref C_Table) "__getattribute__" = some (some (.builtin "type.__getattribute__"))) (cf_Table_MOST : PySem.W.findCls K (.ref C_Table) mt_Table_MOST "MOST" = some (.val (.int 5 tt_Table_MOST)))
    (vb_Table_repr : PySem.W.findIn K (.ref C_Table) "__repr__" = some (some (.ref f_Table_repr)))
    (vb_Table_len : PySem.W.findIn K (.ref C_Table) "__len__" = some (some (.ref f_Table_len)))
    (ne_Table : PySem.W.findIn K (.ref C_Table) "__ne__" = some (some (.builtin "object.__ne__"))) (ob_Table : PySem.W.mroIn K C_Table (.type "object") = some true) (vn_Table_eq : PySem.W.findIn K (.ref C_Table) "__eq__" = some (some (.ref f_Table_eq)))
    (sf_Table : PySem.W.selfFirst K C_Table = true)
    (vo_Table_eq : PySem.W.findIn K (.ref C_Table) "__eq__" = some (some (.ref f_Table_eq)))
    (nf_Table : PySem.W.notFirst K C_Table (.type "list") = true) (vl_Table_eq : PySem.W.findIn K (.ref C_Table) "__eq__" = some (some (.ref f_Table_eq)))
    (na_Table_value_rows : PySem.W.findIn K (.ref C_Table) "value_rows" = some none)
    (na_Table_right_kinds : PySem.W.findIn K (.ref C_Table) "right_kinds" = some none)
    (na_Table_left_kinds : PySem.W.findIn K (.ref C_Table) "left_kinds" = some none)
    (na_Table_cells : PySem.W.findIn K (.ref C_Table) "cells" = some none)
    (i_Table_eq : PySem.W.isFn K (.ref f_Table_eq) = true) (l_Table_eq : K.lookup f_Table_eq = some ⟨oc_Table_eq, od_Table_eq, .func (PySem.W.fnOf "__eq__" "Table.__eq__" (defArgs s_Table_eq) (defBody s_Table_eq) (defScope s_Table_eq) .none kV_Table_eq dc_Table_eq pm_Table_eq an_Table_eq cd_Table_eq ct_Table_eq), sl_Table_eq⟩) (c_Table_eq : PySem.W.codeIn K cd_Table_eq "Table.__eq__" = true)
        (k_Table_eq : PySem.W.keepIn K (.ref f_Table_eq) = true)
    (i_Table_init : PySem.W.isFn K (.ref f_Table_init) = true) (l_Table_init : K.lookup f_Table_init = some ⟨oc_Table_init, od_Table_init, .func (PySem.W.fnOf "__init__" "Table.__init__" (defArgs s_Table_init) (defBody s_Table_init) (defScope s_Table_init) .none kV_Table_init dc_Table_init pm_Table_init an_Table_init cd_Table_init ct_Table_init), sl_Table_init⟩)
        (c_Table_init : PySem.W.codeIn K cd_Table_init "Table.__init__" = true) (k_Table_init : PySem.W.keepIn K (.ref f_Table_init) = true)
    (i_Table_len : PySem.W.isFn K (.ref f_Table_len) = true) (l_Table_len : K.lookup f_Table_len = some ⟨oc_Table_len, od_Table_len, .func (PySem.W.fnOf "__len__" "Table.__len__" (defArgs s_Table_len) (defBody s_Table_len) (defScope s_Table_len) .none kV_Table_len dc_Table_len pm_Table_len an_Table_len cd_Table_len ct_Table_len), sl_Table_len⟩)
        (c_Table_len : PySem.W.codeIn K cd_Table_len "Table.__len__" = true) (k_Table_len : PySem.W.keepIn K (.ref f_Table_len) = true)
    (i_Table_repr : PySem.W.isFn K (.ref f_Table_repr) = true) (l_Table_repr : K.lookup f_Table_repr = some ⟨oc_Table_repr, od_Table_repr, .func (PySem.W.fnOf "__repr__" "Table.__repr__" (defArgs s_Table_repr) (defBody s_Table_repr) (defScope s_Table_repr) .none kV_Table_repr dc_Table_repr pm_Table_repr an_Table_repr cd_Table_repr ct_Table_repr), sl_Table_repr⟩)
        (c_Table_repr : PySem.W.codeIn K cd_Table_repr "Table.__repr__" = true) (k_Table_repr : PySem.W.keepIn K (.ref f_Table_repr) = true)
    (i_Table_entry : PySem.W.isFn K (.ref f_Table_entry) = true) (l_Table_entry : K.lookup f_Table_entry = some ⟨oc_Table_entry, od_Table_entry, .func (PySem.W.fnOf "entry" "Table.entry" (defArgs s_Table_entry) (defBody s_Table_entry) (defScope s_Table_entry) .none kV_Table_entry dc_Table_entry pm_Table_entry an_Table_entry cd_Table_entry ct_Table_entry), sl_Table_entry⟩)
        (c_Table_entry : PySem.W.codeIn K cd_Table_entry "Table.entry" = true) (k_Table_entry : PySem.W.keepIn K (.ref f_Table_entry) = true)
    (i_Table_is_square : PySem.W.isFn K (.ref f_Table_is_square) = true) (l_Table_is_square : K.lookup f_Table_is_square = some ⟨oc_Table_is_square, od_Table_is_square, .func (PySem.W.fnOf "is_square" "Table.is_square" (defArgs s_Table_is_square) (defBody s_Table_is_square)
        (defScope s_Table_is_square) .none kV_Table_is_square dc_Table_is_square pm_Table_is_square an_Table_is_square cd_Table_is_square ct_Table_is_square), sl_Table_is_square⟩) (c_Table_is_square : PySem.W.codeIn K cd_Table_is_square "Table.is_square" = true) (k_Table_is_square : PySem.W.keepIn K (.ref f_Table_is_square) = true)
    (i_Table_left : PySem.W.isFn K (.ref f_Table_left) = true) (l_Table_left : K.lookup f_Table_left = some ⟨oc_Table_left, od_Table_left, .func (PySem.W.fnOf "left" "Table.left" (defArgs s_Table_left) (defBody s_Table_left) (defScope s_Table_left) .none kV_Table_left dc_Table_left pm_Table_left an_Table_left cd_Table_left ct_Table_left), sl_Table_left⟩)
        (c_Table_left : PySem.W.codeIn K cd_Table_left "Table.left" = true) (k_Table_left : PySem.W.keepIn K (.ref f_Table_left) = true)
    (i_Table_right : PySem.W.isFn K (.ref f_Table_right) = true) (l_Table_right : K.lookup f_Table_right = some ⟨oc_Table_right, od_Table_right, .func (PySem.W.fnOf "right" "Table.right" (defArgs s_Table_right) (defBody s_Table_right) (defScope s_Table_right) .none kV_Table_right dc_Table_right pm_Table_right an_Table_right cd_Table_right ct_Table_right), sl_Table_right⟩)
        (c_Table_right : PySem.W.codeIn K cd_Table_right "Table.right" = true) (k_Table_right : PySem.W.keepIn K (.ref f_Table_right) = true)
    (i_Table_rows : PySem.W.isFn K (.ref f_Table_rows) = true) (l_Table_rows : K.lookup f_Table_rows = some ⟨oc_Table_rows, od_Table_rows, .func (PySem.W.fnOf "rows" "Table.rows" (defArgs s_Table_rows) (defBody s_Table_rows) (defScope s_Table_rows) .none kV_Table_rows dc_Table_rows pm_Table_rows an_Table_rows cd_Table_rows ct_Table_rows), sl_Table_rows⟩)
        (c_Table_rows : PySem.W.codeIn K cd_Table_rows "Table.rows" = true) (k_Table_rows : PySem.W.keepIn K (.ref f_Table_rows) = true)
    (z_all : PySem.W.nsIn K mainGlobals "all" = some none)
    (z_bool : PySem.W.nsIn K mainGlobals "bool" = some none)
    (z_enumerate : PySem.W.nsIn K mainGlobals "enumerate" = some none)
    (z_int : PySem.W.nsIn K mainGlobals "int" = some none)
    (z_isinstance : PySem.W.nsIn K mainGlobals "isinstance" = some none)
    (z_len : PySem.W.nsIn K mainGlobals "len" = some none)
    (z_list : PySem.W.nsIn K mainGlobals "list" = some none)
    (z_max : PySem.W.nsIn K mainGlobals "max" = some none)
    (z_min : PySem.W.nsIn K mainGlobals "min" = some none)
    (z_range : PySem.W.nsIn K mainGlobals "range" = some none)
    (z_repr : PySem.W.nsIn K mainGlobals "repr" = some none)
    (z_str : PySem.W.nsIn K mainGlobals "str" = some none)
    (z_tuple : PySem.W.nsIn K mainGlobals "tuple" = some none)
    (z_zip : PySem.W.nsIn K mainGlobals "zip" = some none)
    (a_MOST_KINDS : PySem.W.nsIn K mainGlobals "MOST_KINDS" = some (some (.int 5 t_MOST_KINDS)))
    (a_MOST_KIND : PySem.W.nsIn K mainGlobals "MOST_KIND" = some (some (.int 6 t_MOST_KIND)))
    (a_LETTERS : PySem.W.nsIn K mainGlobals "LETTERS" = some (some (.str "abcdefghijklmnopqrstuvwxyz" t_LETTERS))) :
    ∃ fd : FuncData, (∀ (s : Shared) (v : Value), BindsTo s fd ⟨[v], []⟩ [("_law_script", v)]) ∧ ∀ base : Heap, K.In base → base.Ns mainGlobals mg → FnOk P w K mg base (L2.CX P w) 6 fa fd ["_law_script"] (spLaw K) := by
  have e := hfa.symm.trans (PySem.W.mg_of X G a_law)
  cases e
  have cl_Table : Cls K C_Table := ⟨pg_Table, hd_Table, po_Table, sa_Table⟩
  have T : Txt K mg ⟨f_Table_eq, f_is_word, f_is_kind, f_is_listed, f_check_kinds, f_is_number, f_check_values, f_Table_init, f_Table_len, f_Table_repr, f_Table_entry, f_Table_is_square, f_Table_left, f_Table_right, f_Table_rows, f_zdraw, f_znumber, f_zof, f_zspoilt, f_zgrid, f_zwords, f_zkinds, f_zplain_look, f_zreel, f_zsame, fa⟩ := ⟨PySem.W.mg_of X G a_is_word, k_is_word, PySem.W.mg_of X G a_is_kind, k_is_kind, PySem.W.mg_of X G a_is_listed, k_is_listed, PySem.W.mg_of X G a_check_kinds, k_check_kinds, PySem.W.mg_of X G a_is_number, k_is_number, PySem.W.mg_of X G a_check_values, k_check_values, PySem.W.mg_of X G a_zdraw, k_zdraw, PySem.W.mg_of X G a_znumber, k_znumber, PySem.W.mg_of X G a_zof, k_zof, PySem.W.mg_of X G a_zspoilt, k_zspoilt, PySem.W.mg_of X G a_zgrid, k_zgrid, PySem.W.mg_of X G a_zwords, k_zwords, PySem.W.mg_of X G a_zkinds, k_zkinds, PySem.W.mg_of X G a_zplain_look, k_zplain_look, PySem.W.mg_of X G a_zreel, k_zreel, PySem.W.mg_of X G a_zsame, k_zsame, PySem.W.mg_of X G a_law, k_law, PySem.W.mg_none_of X G z_all, PySem.W.mg_none_of X G z_bool, PySem.W.mg_none_of X G z_enumerate, PySem.W.mg_none_of X G z_int, PySem.W.mg_none_of X G z_isinstance, PySem.W.mg_none_of X G z_len, PySem.W.mg_none_of X G z_list, PySem.W.mg_none_of X G z_max, PySem.W.mg_none_of X G z_min, PySem.W.mg_none_of X G z_range, PySem.W.mg_none_of X G z_repr, PySem.W.mg_none_of X G z_str, PySem.W.mg_none_of X G z_tuple, PySem.W.mg_none_of X G z_zip, ⟨_, PySem.W.mg_of X G a_MOST_KINDS⟩, ⟨_, PySem.W.mg_of X G a_MOST_KIND⟩, ⟨_, PySem.W.mg_of X G a_LETTERS⟩, (.cons (PySem.W.mg_of X G ac_Table) cl_Table na_Table_value_rows .nil), (.cons (PySem.W.mg_of X G ac_Table) cl_Table na_Table_right_kinds .nil), (.cons (PySem.W.mg_of X G ac_Table) cl_Table na_Table_left_kinds .nil), (.cons (PySem.W.mg_of X G ac_Table) cl_Table na_Table_cells .nil), ⟨C_Table, PySem.W.mg_of X G ac_Table, cl_Table, ix_Table, iy_Table, iz_Table, io_Table⟩, ⟨C_Table, PySem.W.mg_of X G ac_Table, it_Table, is_Table⟩, ⟨C_Table, mt_Table_MOST, .int 5, _, PySem.W.mg_of X G ac_Table, ⟨cr_Table_MOST, cg_Table_MOST⟩, ⟨cf_Table_MOST, ⟨_, rfl⟩⟩, fun _ => .int _⟩⟩
  have F_Table_eq := fun_mk (st := s_Table_eq) l_Table_eq c_Table_eq k_Table_eq
  have b_Table_eq := F_Table_eq.binds (ps := ["self", "other"]) fun _ _ _ _ _ _ us hl => match us, hl with | [_, _], _ => rfl
  have F_is_word := fun_mk (st := s_is_word) l_is_word c_is_word k_is_word
  have b_is_word := F_is_word.binds (ps := ["value", "most"]) fun _ _ _ _ _ _ us hl => match us, hl with | [_, _], _ => rfl
  have F_is_kind := fun_mk (st := s_is_kind) l_is_kind c_is_kind k_is_kind
  have b_is_kind := F_is_kind.binds (ps := ["value"]) fun _ _ _ _ _ _ us hl => match us, hl with | [_], _ => rfl
  have F_is_listed := fun_mk (st := s_is_listed) l_is_listed c_is_listed k_is_listed
  have b_is_listed := F_is_listed.binds (ps := ["value"]) fun _ _ _ _ _ _ us hl => match us, hl with | [_], _ => rfl
  have F_check_kinds := fun_mk (st := s_check_kinds) l_check_kinds c_check_kinds k_check_kinds
  have b_check_kinds := F_check_kinds.binds (ps := ["kinds", "side"]) fun _ _ _ _ _ _ us hl => match us, hl with | [_, _], _ => rfl
  have F_is_number := fun_mk (st := s_is_number) l_is_number c_is_number k_is_number
  have b_is_number := F_is_number.binds (ps := ["value"]) fun _ _ _ _ _ _ us hl => match us, hl with | [_], _ => rfl
  have F_check_values := fun_mk (st := s_check_values) l_check_values c_check_values k_check_values
  have b_check_values := F_check_values.binds (ps := ["values", "height", "width"]) fun _ _ _ _ _ _ us hl => match us, hl with | [_, _, _], _ => rfl
  have F_Table_init := fun_mk (st := s_Table_init) l_Table_init c_Table_init k_Table_init
  have b_Table_init := F_Table_init.binds (ps := ["self", "left", "right", "values"]) fun _ _ _ _ _ _ us hl => match us, hl with | [_, _, _, _], _ => rfl
  have F_Table_len := fun_mk (st := s_Table_len) l_Table_len c_Table_len k_Table_len
  have b_Table_len := F_Table_len.binds (ps := ["self"]) fun _ _ _ _ _ _ us hl => match us, hl with | [_], _ => rfl
  have F_Table_repr := fun_mk (st := s_Table_repr) l_Table_repr c_Table_repr k_Table_repr
  have b_Table_repr := F_Table_repr.binds (ps := ["self"]) fun _ _ _ _ _ _ us hl => match us, hl with | [_], _ => rfl
  have F_Table_entry := fun_mk (st := s_Table_entry) l_Table_entry c_Table_entry k_Table_entry
  have b_Table_entry := F_Table_entry.binds (ps := ["self", "one", "other"]) fun _ _ _ _ _ _ us hl => match us, hl with | [_, _, _], _ => rfl
  have F_Table_is_square := fun_mk (st := s_Table_is_square) l_Table_is_square c_Table_is_square k_Table_is_square
  have b_Table_is_square := F_Table_is_square.binds (ps := ["self"]) fun _ _ _ _ _ _ us hl => match us, hl with | [_], _ => rfl
  have F_Table_left := fun_mk (st := s_Table_left) l_Table_left c_Table_left k_Table_left
  have b_Table_left := F_Table_left.binds (ps := ["self"]) fun _ _ _ _ _ _ us hl => match us, hl with | [_], _ => rfl
  have F_Table_right := fun_mk (st := s_Table_right) l_Table_right c_Table_right k_Table_right
  have b_Table_right := F_Table_right.binds (ps := ["self"]) fun _ _ _ _ _ _ us hl => match us, hl with | [_], _ => rfl
  have F_Table_rows := fun_mk (st := s_Table_rows) l_Table_rows c_Table_rows k_Table_rows
  have b_Table_rows := F_Table_rows.binds (ps := ["self"]) fun _ _ _ _ _ _ us hl => match us, hl with | [_], _ => rfl
  have F_zdraw := fun_mk (st := s_zdraw) l_zdraw c_zdraw k_zdraw
  have b_zdraw := F_zdraw.binds (ps := ["_law_reel_here", "_law_size"]) fun _ _ _ _ _ _ us hl => match us, hl with | [_, _], _ => rfl
  have F_znumber := fun_mk (st := s_znumber) l_znumber c_znumber k_znumber
  have b_znumber := F_znumber.binds (ps := ["_law_reel_here"]) fun _ _ _ _ _ _ us hl => match us, hl with | [_], _ => rfl
  have F_zof := fun_mk (st := s_zof) l_zof c_zof k_zof
  have b_zof := F_zof.binds (ps := ["_law_reel_here", "_law_some"]) fun _ _ _ _ _ _ us hl => match us, hl with | [_, _], _ => rfl
  have F_zspoilt := fun_mk (st := s_zspoilt) l_zspoilt c_zspoilt k_zspoilt
  have b_zspoilt := F_zspoilt.binds (ps := ["_law_reel_here", "_law_grid_here"]) fun _ _ _ _ _ _ us hl => match us, hl with | [_, _], _ => rfl
  have F_zgrid := fun_mk (st := s_zgrid) l_zgrid c_zgrid k_zgrid
  have b_zgrid := F_zgrid.binds (ps := ["_law_reel_here", "_law_high", "_law_wide"]) fun _ _ _ _ _ _ us hl => match us, hl with | [_, _, _], _ => rfl
  have F_zwords := fun_mk (st := s_zwords) l_zwords c_zwords k_zwords
  have b_zwords := F_zwords.binds (ps := ["_law_reel_here", "_law_many", "_law_most"]) fun _ _ _ _ _ _ us hl => match us, hl with | [_, _, _], _ => rfl
  have F_zkinds := fun_mk (st := s_zkinds) l_zkinds c_zkinds k_zkinds
  have b_zkinds := F_zkinds.binds (ps := ["_law_reel_here", "_law_many"]) fun _ _ _ _ _ _ us hl => match us, hl with | [_, _], _ => rfl
  have F_zplain_look := fun_mk (st := s_zplain_look) l_zplain_look c_zplain_look k_zplain_look
  have b_zplain_look := F_zplain_look.binds (ps := ["_law_reel_here", "_law_most"]) fun _ _ _ _ _ _ us hl => match us, hl with | [_, _], _ => rfl
  have F_zreel := fun_mk (st := s_zreel) l_zreel c_zreel k_zreel
  have b_zreel := F_zreel.binds (ps := ["_law_script"]) fun _ _ _ _ _ _ us hl => match us, hl with | [_], _ => rfl
  have F_zsame := fun_mk (st := s_zsame) l_zsame c_zsame k_zsame
  have b_zsame := F_zsame.binds (ps := ["_law_found", "_law_due"]) fun _ _ _ _ _ _ us hl => match us, hl with | [_, _], _ => rfl
  have F_law := fun_mk (st := s_law) l_law c_law k_law
  have b_law := F_law.binds (ps := ["_law_script"]) fun _ _ _ _ _ _ us hl => match us, hl with | [_], _ => rfl
  refine ⟨PySem.W.fnOf "law" "law" (defArgs s_law) (defBody s_law) (defScope s_law) .none kV_law dc_law pm_law an_law cd_law ct_law, fun s v => .of_eq rfl, fun base _ _ => ?_⟩
  let d : Ad := ⟨f_Table_eq, f_is_word, f_is_kind, f_is_listed, f_check_kinds, f_is_number, f_check_values, f_Table_init, f_Table_len, f_Table_repr, f_Table_entry, f_Table_is_square, f_Table_left, f_Table_right, f_Table_rows, f_zdraw, f_znumber, f_zof, f_zspoilt, f_zgrid, f_zwords, f_zkinds, f_zplain_look, f_zreel, f_zsame, fa⟩
  have G_Table_eq := okF_Table_eq (P := P) (w := w) (base := base) (d := d) F_Table_eq T 
  have C_Table_eq := FOk.of G_Table_eq b_Table_eq
  have N_Table_eq : OwnNe P w K mg base "Table" 1 ["self", "other"] m_Table_eq := ⟨⟨C_Table, f_Table_eq, PySem.W.mg_of X G ac_Table, ne_Table, ob_Table, ⟨vn_Table_eq, i_Table_eq, k_Table_eq⟩, C_Table_eq⟩⟩
  have O_Table_eq : OwnD P w K mg base "Table" "__eq__" 1 ["self", "other"] m_Table_eq := ⟨⟨C_Table, f_Table_eq, PySem.W.mg_of X G ac_Table, sf_Table, ⟨vo_Table_eq, i_Table_eq, k_Table_eq⟩, C_Table_eq⟩⟩
  have L_Table_eq : OwnL P w K mg base "Table" 1 ["self", "other"] m_Table_eq := ⟨⟨C_Table, f_Table_eq, PySem.W.mg_of X G ac_Table, nf_Table, ⟨vl_Table_eq, i_Table_eq, k_Table_eq⟩, C_Table_eq⟩⟩
  have G_is_word := okF_is_word (P := P) (w := w) (base := base) (d := d) F_is_word T 
  have C_is_word := FOk.of G_is_word b_is_word
  have G_is_kind := okF_is_kind (P := P) (w := w) (base := base) (d := d) F_is_kind T C_is_word
  have C_is_kind := FOk.of G_is_kind b_is_kind
  have G_is_listed := okF_is_listed (P := P) (w := w) (base := base) (d := d) F_is_listed T 
  have C_is_listed := FOk.of G_is_listed b_is_listed
  have G_check_kinds := okF_check_kinds (P := P) (w := w) (base := base) (d := d) F_check_kinds T C_is_kind C_is_listed
  have C_check_kinds := FOk.of G_check_kinds b_check_kinds
  have G_is_number := okF_is_number (P := P) (w := w) (base := base) (d := d) F_is_number T 
  have C_is_number := FOk.of G_is_number b_is_number
  have G_check_values := okF_check_values (P := P) (w := w) (base := base) (d := d) F_check_values T C_is_listed C_is_number
  have C_check_values := FOk.of G_check_values b_check_values
  have G_Table_init := okF_Table_init (P := P) (w := w) (base := base) (d := d) F_Table_init T C_check_kinds C_check_values
  have C_Table_init := FOk.of G_Table_init b_Table_init
  have Q_Table : MakeK P w K mg base "Table" 4 ["values", "right", "left"] [0, 3, 2, 1] m_Table_init := ⟨⟨C_Table, f_Table_init, PySem.W.mg_of X G ac_Table, ⟨mk_Table, v_Table_init, i_Table_init, kc_Table⟩, FOkK.of (ks := ["values", "right", "left"]) (π := [0, 3, 2, 1]) G_Table_init rfl fun s us ws h1 h2 => match us, ws, h1, h2 with | [_], [_, _, _], _, _ => .of_eq rfl⟩⟩
  have M_Table : MakeD P w K mg base "Table" 4 ["self", "left", "right", "values"] m_Table_init := ⟨⟨C_Table, f_Table_init, PySem.W.mg_of X G ac_Table, ⟨mk_Table, v_Table_init, i_Table_init, kc_Table⟩, C_Table_init⟩⟩
  have G_Table_len := okF_Table_len (P := P) (w := w) (base := base) (d := d) F_Table_len T 
  have C_Table_len := FOk.of G_Table_len b_Table_len
  have B_Table_len : SelfD P w K mg base "Table" "__len__" 1 ["self"] m_Table_len := ⟨⟨C_Table, f_Table_len, PySem.W.mg_of X G ac_Table, ⟨vb_Table_len, i_Table_len, k_Table_len⟩, C_Table_len⟩⟩
  have G_Table_repr := okF_Table_repr (P := P) (w := w) (base := base) (d := d) F_Table_repr T 
  have C_Table_repr := FOk.of G_Table_repr b_Table_repr
  have B_Table_repr : SelfD P w K mg base "Table" "__repr__" 1 ["self"] m_Table_repr := ⟨⟨C_Table, f_Table_repr, PySem.W.mg_of X G ac_Table, ⟨vb_Table_repr, i_Table_repr, k_Table_repr⟩, C_Table_repr⟩⟩
  have G_Table_entry := okF_Table_entry (P := P) (w := w) (base := base) (d := d) F_Table_entry T 
  have C_Table_entry := FOk.of G_Table_entry b_Table_entry
  have D_Table_entry : MethD P w K mg base "Table" "entry" 1 ["self", "one", "other"] m_Table_entry := ⟨⟨C_Table, f_Table_entry, PySem.W.mg_of X G ac_Table, cl_Table, ⟨v_Table_entry, i_Table_entry, k_Table_entry⟩, C_Table_entry⟩⟩
  have K_Table_entry : MethK P w K mg base "Table" "entry" 1 ["other", "one"] [0, 2, 1] m_Table_entry := ⟨⟨C_Table, f_Table_entry, PySem.W.mg_of X G ac_Table, cl_Table, ⟨v_Table_entry, i_Table_entry, k_Table_entry⟩, FOkK.of (ks := ["other", "one"]) (π := [0, 2, 1]) G_Table_entry rfl fun s us ws h1 h2 => match us, ws, h1, h2 with | [_], [_, _], _, _ => .of_eq rfl⟩⟩
  have G_Table_is_square := okF_Table_is_square (P := P) (w := w) (base := base) (d := d) F_Table_is_square T 
  have C_Table_is_square := FOk.of G_Table_is_square b_Table_is_square
  have P_Table_is_square : PropD P w K mg base "Table" "is_square" 1 m_Table_is_square := ⟨⟨C_Table, p_Table_is_square, f_Table_is_square, _, PySem.W.mg_of X G ac_Table, cl_Table, ⟨v_Table_is_square, pq_Table_is_square, pt_Table_is_square, ⟨_, pr_Table_is_square⟩⟩, C_Table_is_square⟩⟩
  have G_Table_left := okF_Table_left (P := P) (w := w) (base := base) (d := d) F_Table_left T 
  have C_Table_left := FOk.of G_Table_left b_Table_left
  have D_Table_left : MethD P w K mg base "Table" "left" 1 ["self"] m_Table_left := ⟨⟨C_Table, f_Table_left, PySem.W.mg_of X G ac_Table, cl_Table, ⟨v_Table_left, i_Table_left, k_Table_left⟩, C_Table_left⟩⟩
  have G_Table_right := okF_Table_right (P := P) (w := w) (base := base) (d := d) F_Table_right T 
  have C_Table_right := FOk.of G_Table_right b_Table_right
  have D_Table_right : MethD P w K mg base "Table" "right" 1 ["self"] m_Table_right := ⟨⟨C_Table, f_Table_right, PySem.W.mg_of X G ac_Table, cl_Table, ⟨v_Table_right, i_Table_right, k_Table_right⟩, C_Table_right⟩⟩
  have G_Table_rows := okF_Table_rows (P := P) (w := w) (base := base) (d := d) F_Table_rows T 
  have C_Table_rows := FOk.of G_Table_rows b_Table_rows
  have D_Table_rows : MethD P w K mg base "Table" "rows" 1 ["self"] m_Table_rows := ⟨⟨C_Table, f_Table_rows, PySem.W.mg_of X G ac_Table, cl_Table, ⟨v_Table_rows, i_Table_rows, k_Table_rows⟩, C_Table_rows⟩⟩
  have G_zdraw := okF_zdraw (P := P) (w := w) (base := base) (d := d) F_zdraw T 
  have C_zdraw := FOk.of G_zdraw b_zdraw
  have G_znumber := okF_znumber (P := P) (w := w) (base := base) (d := d) F_znumber T C_zdraw
  have C_znumber := FOk.of G_znumber b_znumber
  have G_zof := okF_zof (P := P) (w := w) (base := base) (d := d) F_zof T C_zdraw
  have C_zof := FOk.of G_zof b_zof
  have G_zspoilt := okF_zspoilt (P := P) (w := w) (base := base) (d := d) F_zspoilt T C_zdraw C_zof
  have C_zspoilt := FOk.of G_zspoilt b_zspoilt
  have G_zgrid := okF_zgrid (P := P) (w := w) (base := base) (d := d) F_zgrid T C_zdraw C_znumber C_zspoilt
  have C_zgrid := FOk.of G_zgrid b_zgrid
  have G_zwords := okF_zwords (P := P) (w := w) (base := base) (d := d) F_zwords T C_zdraw C_zof
  have C_zwords := FOk.of G_zwords b_zwords
  have G_zkinds := okF_zkinds (P := P) (w := w) (base := base) (d := d) F_zkinds T C_zwords
  have C_zkinds := FOk.of G_zkinds b_zkinds
  have G_zplain_look := okF_zplain_look (P := P) (w := w) (base := base) (d := d) F_zplain_look T C_zdraw C_zgrid C_zkinds
  have C_zplain_look := FOk.of G_zplain_look b_zplain_look
  have G_zreel := okF_zreel (P := P) (w := w) (base := base) (d := d) F_zreel T 
  have C_zreel := FOk.of G_zreel b_zreel
  have G_zsame := okF_zsame (P := P) (w := w) (base := base) (d := d) F_zsame b_zsame T  4
  have C_zsame := FOk.of G_zsame b_zsame
  have G_law := okF_law (P := P) (w := w) (base := base) (d := d) F_law T C_zdraw C_zplain_look C_zreel C_zsame B_Table_len B_Table_repr D_Table_entry D_Table_left D_Table_right D_Table_rows K_Table_entry L_Table_eq M_Table N_Table_eq O_Table_eq P_Table_is_square Q_Table
  exact fn_law G_law law_true
end Toy
open PySem PySem.W PyProof.Rows
set_option maxRecDepth 100000 in
set_option maxHeartbeats 0 in
theorem PySem.Challenge.cw_twoabreast_k05_tables_made_holds : PySem.Challenge.rw_twoabreast_k05_tables_made.Holds := by
  w_on; o_law; k_head; (case hw => w_witness2)
  k_fill
  refine L2.walk_of (l := PySem.Challenge.rw_twoabreast_k05_tables_made) (n := 63) (k := 6) (x := "_law_script") (CX := fun w => L2.CX PySem.Challenge.rw_twoabreast_k05_tables_made.prog w) (sp := fun w => DL.spLaw _) rfl (by decide) rfl ⟨rfl, by decide, by decide⟩ (fun w h Y => PySem.W.kIn_of Y) ?F (fun _ _ a ns hl _ hS => ⟨a, ns, rfl, hS, hl, fun _ => rfl⟩) fun w H s e s' z => DL.cx_no H s e s' z
  case F =>
    intro w mg fa h KX G hmg
    refine' Toy.all_mk KX G hmg ?a_is_word ?l_is_word ?c_is_word ?k_is_word ?a_is_kind ?l_is_kind ?c_is_kind ?k_is_kind ?a_is_listed ?l_is_listed ?c_is_listed ?k_is_listed ?a_check_kinds ?l_check_kinds ?c_check_kinds ?k_check_kinds ?a_is_number ?l_is_number ?c_is_number ?k_is_number ?a_check_values ?l_check_values ?c_check_values ?k_check_values ?a_zdraw ?l_zdraw ?c_zdraw ?k_zdraw ?a_znumber ?l_znumber ?c_znumber ?k_znumber ?a_zof ?l_zof ?c_zof ?k_zof ?a_zspoilt ?l_zspoilt ?c_zspoilt ?k_zspoilt ?a_zgrid ?l_zgrid ?c_zgrid ?k_zgrid ?a_zwords ?l_zwords ?c_zwords ?k_zwords ?a_zkinds ?l_zkinds ?c_zkinds ?k_zkinds ?a_zplain_look ?l_zplain_look ?c_zplain_look ?k_zplain_look ?a_zreel ?l_zreel ?c_zreel ?k_zreel ?a_zsame ?l_zsame ?c_zsame ?k_zsame ?a_law ?l_law ?c_law ?k_law ?ac_Table ?pg_Table ?hd_Table ?po_Table ?sa_Table ?kc_Table ?v_Table_left ?v_Table_right ?v_Table_rows ?v_Table_entry ?mk_Table ?v_Table_init ?v_Table_is_square ?pq_Table_is_square ?pt_Table_is_square ?pr_Table_is_square ?ix_Table ?iy_Table ?iz_Table ?io_Table ?it_Table ?is_Table ?cy_Table_MOST ?cr_Table_MOST ?cg_Table_MOST ?cf_Table_MOST ?vb_Table_repr ?vb_Table_len ?ne_Table ?ob_Table ?vn_Table_eq ?sf_Table ?vo_Table_eq ?nf_Table ?vl_Table_eq ?na_Table_value_rows ?na_Table_right_kinds ?na_Table_left_kinds ?na_Table_cells ?i_Table_eq ?l_Table_eq ?c_Table_eq ?k_Table_eq ?i_Table_init ?l_Table_init ?c_Table_init ?k_Table_init ?i_Table_len ?l_Table_len ?c_Table_len ?k_Table_len ?i_Table_repr ?l_Table_repr ?c_Table_repr ?k_Table_repr ?i_Table_entry ?l_Table_entry ?c_Table_entry ?k_Table_entry ?i_Table_is_square ?l_Table_is_square ?c_Table_is_square ?k_Table_is_square ?i_Table_left ?l_Table_left ?c_Table_left ?k_Table_left ?i_Table_right ?l_Table_right ?c_Table_right ?k_Table_right ?i_Table_rows ?l_Table_rows ?c_Table_rows ?k_Table_rows ?z_all ?z_bool ?z_enumerate ?z_int ?z_isinstance ?z_len ?z_list ?z_max ?z_min ?z_range ?z_repr ?z_str ?z_tuple ?z_zip ?a_MOST_KINDS ?a_MOST_KIND ?a_LETTERS
    (case a_is_word => k_is)
    (case l_is_word => k_is)
    (case c_is_word => k_is)
    (case k_is_word => k_is)
    (case a_is_kind => k_is)
    (case l_is_kind => k_is)
    (case c_is_kind => k_is)
    (case k_is_kind => k_is)
    (case a_is_listed => k_is)
    (case l_is_listed => k_is)
    (case c_is_listed => k_is)
    (case k_is_listed => k_is)
    (case a_check_kinds => k_is)
    (case l_check_kinds => k_is)
    (case c_check_kinds => k_is)
    (case k_check_kinds => k_is)
    (case a_is_number => k_is)
    (case l_is_number => k_is)
    (case c_is_number => k_is)
    (case k_is_number => k_is)
    (case a_check_values => k_is)
    (case l_check_values => k_is)
    (case c_check_values => k_is)
    (case k_check_values => k_is)
    (case a_zdraw => k_is)
    (case l_zdraw => k_is)
    (case c_zdraw => k_is)
    (case k_zdraw => k_is)
    (case a_znumber => k_is)
    (case l_znumber => k_is)
    (case c_znumber => k_is)
    (case k_znumber => k_is)
    (case a_zof => k_is)
    (case l_zof => k_is)
    (case c_zof => k_is)
    (case k_zof => k_is)
    (case a_zspoilt => k_is)
    (case l_zspoilt => k_is)
    (case c_zspoilt => k_is)
    (case k_zspoilt => k_is)
    (case a_zgrid => k_is)
    (case l_zgrid => k_is)
    (case c_zgrid => k_is)
    (case k_zgrid => k_is)
    (case a_zwords => k_is)
    (case l_zwords => k_is)
    (case c_zwords => k_is)
    (case k_zwords => k_is)
    (case a_zkinds => k_is)
    (case l_zkinds => k_is)
    (case c_zkinds => k_is)
    (case k_zkinds => k_is)
    (case a_zplain_look => k_is)
    (case l_zplain_look => k_is)
    (case c_zplain_look => k_is)
    (case k_zplain_look => k_is)
    (case a_zreel => k_is)
    (case l_zreel => k_is)
    (case c_zreel => k_is)
    (case k_zreel => k_is)
    (case a_zsame => k_is)
    (case l_zsame => k_is)
    (case c_zsame => k_is)
    (case k_zsame => k_is)
    (case a_law => k_is)
    (case l_law => k_is)
    (case c_law => k_is)
    (case k_law => k_is)
    (case ac_Table => k_is)
    (case pg_Table => k_is)
    (case hd_Table => k_is)
    (case po_Table => k_is)
    (case sa_Table => k_is)
    (case kc_Table => k_is)
    (case v_Table_left => k_is)
    (case v_Table_right => k_is)
    (case v_Table_rows => k_is)
    (case v_Table_entry => k_is)
    (case mk_Table => k_is)
    (case v_Table_init => k_is)
    (case v_Table_is_square => k_is)
    (case pq_Table_is_square => k_is)
    (case pt_Table_is_square => k_is)
    (case pr_Table_is_square => k_is)
    (case ix_Table => k_is)
    (case iy_Table => k_is)
    (case iz_Table => k_is)
    (case io_Table => k_is)
    (case it_Table => k_is)
    (case is_Table => k_is)
    (case cy_Table_MOST => k_is)
    (case cr_Table_MOST => k_is)
    (case cg_Table_MOST => k_is)
    (case cf_Table_MOST => k_is)
    (case vb_Table_repr => k_is)
    (case vb_Table_len => k_is)
    (case ne_Table => k_is)
    (case ob_Table => k_is)
    (case vn_Table_eq => k_is)
    (case sf_Table => k_is)
    (case vo_Table_eq => k_is)
    (case nf_Table => k_is)
    (case vl_Table_eq => k_is)
    (case na_Table_value_rows => k_is)
    (case na_Table_right_kinds => k_is)
    (case na_Table_left_kinds => k_is)
    (case na_Table_cells => k_is)
    (case i_Table_eq => k_is)
    (case l_Table_eq => k_is)
    (case c_Table_eq => k_is)
    (case k_Table_eq => k_is)
    (case i_Table_init => k_is)
    (case l_Table_init => k_is)
    (case c_Table_init => k_is)
    (case k_Table_init => k_is)
    (case i_Table_len => k_is)
    (case l_Table_len => k_is)
    (case c_Table_len => k_is)
    (case k_Table_len => k_is)
    (case i_Table_repr => k_is)
    (case l_Table_repr => k_is)
    (case c_Table_repr => k_is)
    (case k_Table_repr => k_is)
    (case i_Table_entry => k_is)
    (case l_Table_entry => k_is)
    (case c_Table_entry => k_is)
    (case k_Table_entry => k_is)
    (case i_Table_is_square => k_is)
    (case l_Table_is_square => k_is)
    (case c_Table_is_square => k_is)
    (case k_Table_is_square => k_is)
    (case i_Table_left => k_is)
    (case l_Table_left => k_is)
    (case c_Table_left => k_is)
    (case k_Table_left => k_is)
    (case i_Table_right => k_is)
    (case l_Table_right => k_is)
    (case c_Table_right => k_is)
    (case k_Table_right => k_is)
    (case i_Table_rows => k_is)
    (case l_Table_rows => k_is)
    (case c_Table_rows => k_is)
    (case k_Table_rows => k_is)
    (case z_all => k_is)
    (case z_bool => k_is)
    (case z_enumerate => k_is)
    (case z_int => k_is)
    (case z_isinstance => k_is)
    (case z_len => k_is)
    (case z_list => k_is)
    (case z_max => k_is)
    (case z_min => k_is)
    (case z_range => k_is)
    (case z_repr => k_is)
    (case z_str => k_is)
    (case z_tuple => k_is)
    (case z_zip => k_is)
    (case a_MOST_KINDS => k_is)
    (case a_MOST_KIND => k_is)
    (case a_LETTERS => k_is)

