import PyProof.Rows.All
import HandS.ForMost
import HandS.ForExc
import HandS.ExcInit
import HandS.Lambda
import HandS.HeadHook4
import KE.KDflt
import HandS.Wide
import HandS.CallSlots
import HandS.Property
import HandS.Zip
import HandS.TupAny
import HandS.IsInst
import HandS.Deep
import HandS.FStr
import HandS.Style
import KE.GoesEnum
import HandS.Strs
import HandS.ClsMeth
import HandS.ExcValue
import HandS.ExcField
import HandS.ExcIs
import KE.KExcInit
import KE.KExcIs
import HandS.Conv
import KE.KTryMore
import HandS.HotCalls
import HandS.Head0
import HandS.Head1
import HandS.Head2
import HandS.HeadNt
import HandS.HeadWalk
import Wide.All
import OpenK.AllK
import Wide.FinOn
import PySem.Challenge.RW_twoabreast_k03_measures
set_option Elab.async false
set_option linter.all false
set_option maxRecDepth 100000
set_option maxHeartbeats 4000000
set_option autoImplicit false
/-! DL0: data of Python's values, trees that are not shared yet, and what a heap says of them -/
namespace DL
open PySem L2

/-- data that never changes -/
inductive D where
  | non | bl (b : Bool) | int (i : Int) | str (x : Str)
  /-- tupP true: a tuple whose object is known to have no dict -/
  | lst (ds : List D) | tupP (p : Bool) (ds : List D)
  | ins (c : Str) (fs : List (Str × D))
  | glo (x : Str) | ty (n : String)
  /-- a list that is read only (the script) -/
  | ro (ds : List D)
  | dic (kvs : List (Key × D))
  /-- a thing of which nothing is known -/
  | junk
  /-- an own exception that was not raised -/
  | exn (c : Str) (fs : List (Str × D))

abbrev D.tup (ds : List D) : D := .tupP false ds

/-- a lambda as it is written: its name, parameters, body, scope; its maker's cells by the maker's frame -/
structure Lm where
  q : Str
  ps : Arguments
  bd : Expr
  sc : Scope
  cells : Nat → List (Str × Addr)
  /-- its one parameter, with the default 0, if it has one -/
  dx : Option Str
/-- a tree of objects that nobody else holds; tbl x q: the table of the code objects that the def x makes, all of the name q -/
inductive T where
  | d (x : D) | lst (ts : List T) | tup (ts : List T) | ins (c : Str) (fs : List (Str × T)) | dic (kvs : List (Key × T))
  | tbl (x q : Str)

mutual
def frz : T → D
  | .d x => x
  | .lst ts => .lst (frzL ts)
  | .tup ts => .tup (frzL ts)
  | .ins c fs => .ins c (frzF fs)
  | .dic fs => .dic (frzK fs)
  | .tbl _ _ => .junk
def frzL : List T → List D
  | [] => []
  | t :: r => frz t :: frzL r
def frzF : List (Str × T) → List (Str × D)
  | [] => []
  | (f, t) :: r => (f, frz t) :: frzF r
def frzK : List (Key × T) → List (Key × D)
  | [] => []
  | (f, t) :: r => (f, frz t) :: frzK r
end
theorem frzL_eq : ∀ ts : List T, frzL ts = ts.map frz
  | [] => rfl
  | t :: r => by simp [frzL, frzL_eq r]
theorem frzL_d (ds : List D) : frzL (ds.map T.d) = ds := by
  induction ds with
  | nil => rfl
  | cons x r ih => simp [frzL, frz, ih]

abbrev Mg := Str → Option Value
/-- a tuple; p: its object is known to have no dict -/
def SqP (K : PySem.W.Frag) (F : Hp) (p : Bool) (a : Addr) (xs : List V) : Prop := SqT K F a xs ∧ (p = true → ∃ o, (F a = some (.frz o (.tup xs)) ∨ K.lookup a = some o) ∧ o.dict = none)
section
variable (K : PySem.W.Frag) (mg : Mg) (F : Hp)
mutual
inductive Dp : V → D → Prop
  | non : Dp .non .non
  | bl (b : Bool) : Dp (.bl b) (.bl b)
  | int (i : Int) : Dp (.int i) (.int i)
  | str (x : Str) : Dp (.str x) (.str x)
  | lst {a : Addr} {xs : List V} {ds : List D} : F a = some (.lst xs) → DpL xs ds → Dp (.ref a) (.lst ds)
  | ro {a : Addr} {xs : List V} {ds : List D} : SqL K F a xs → DpL xs ds → Dp (.ref a) (.ro ds)
  | tupP {p : Bool} {a : Addr} {xs : List V} {ds : List D} : SqP K F p a xs → DpL xs ds → Dp (.ref a) (.tupP p ds)
  | ins {a C dx : Addr} {fs : List (Str × V)} {c : Str} {gs : List (Str × D)} : F a = some (.ins C dx fs) → mg c = some (.ref C) → DpF fs gs → Dp (.ref a) (.ins c gs)
  | glo {x : Str} {a : Addr} : mg x = some (.ref a) → Dp (.ref a) (.glo x)
  | ty (n : String) : Dp (.ty n) (.ty n)
  | dic {a : Addr} {kvs : List (Key × V)} {gs : List (Key × D)} : F a = some (.dK kvs) → DpK kvs gs → Dp (.ref a) (.dic gs)
  | junk (a : Addr) : Dp (.ref a) .junk
  | exn {a C dx : Addr} {fs : List (Str × V)} {c : Str} {gs : List (Str × D)} : F a = some (exo a C (some dx)) → F dx = some (exd dx fs) → mg c = some (.ref C) → DpF fs gs → Dp (.ref a) (.exn c gs)
inductive DpL : List V → List D → Prop
  | nil : DpL [] []
  | cons {v : V} {vs : List V} {x : D} {xs : List D} : Dp v x → DpL vs xs → DpL (v :: vs) (x :: xs)
inductive DpF : List (Str × V) → List (Str × D) → Prop
  | nil : DpF [] []
  | cons {f : Str} {v : V} {vs : List (Str × V)} {x : D} {xs : List (Str × D)} : Dp v x → DpF vs xs → DpF ((f, v) :: vs) ((f, x) :: xs)
inductive DpK : List (Key × V) → List (Key × D) → Prop
  | nil : DpK [] []
  | cons {f : Key} {v : V} {vs : List (Key × V)} {x : D} {xs : List (Key × D)} : Dp v x → DpK vs xs → DpK ((f, v) :: vs) ((f, x) :: xs)
end
variable (H : Hp)
mutual
inductive TR : V → T → List Addr → Prop
  | d {v : V} {x : D} : Dp K mg F v x → TR v (.d x) []
  | lst {a : Addr} {vs : List V} {ts : List T} {fp : List Addr} : H a = some (.lst vs) → F a = none → TRL vs ts fp → TR (.ref a) (.lst ts) (a :: fp)
  | tup {a : Addr} {vs : List V} {ts : List T} {fp : List Addr} : H a = some (.tup vs) → F a = none → TRL vs ts fp → TR (.ref a) (.tup ts) (a :: fp)
  | ins {a C dx : Addr} {fs : List (Str × V)} {c : Str} {ts : List (Str × T)} {fp : List Addr} : H a = some (.ins C dx fs) → F a = none → mg c = some (.ref C) → TRF fs ts fp → TR (.ref a) (.ins c ts) (a :: fp)
  | dic {a : Addr} {kvs : List (Key × V)} {ts : List (Key × T)} {fp : List Addr} : H a = some (.dK kvs) → F a = none → TRK kvs ts fp → TR (.ref a) (.dic ts) (a :: fp)
  | tbl {P : Addr} {x q : Str} {ps : Array Value} : P = (He.cT K (x, none)).2 → H P = some (.tbl ps) → F P = none → TriplesOk ps.toList → (∀ (pos : Pos) (cv : Value), codeAmong pos ps.toList = some cv → ∃ c', cv = .ref c' ∧ F c' = some (LamX.CodeO c' q)) → TR (.ref P) (.tbl x q) [P]
inductive TRL : List V → List T → List Addr → Prop
  | nil : TRL [] [] []
  | cons {v : V} {vs : List V} {t : T} {ts : List T} {f1 f2 : List Addr} : TR v t f1 → TRL vs ts f2 → TRL (v :: vs) (t :: ts) (f1 ++ f2)
inductive TRF : List (Str × V) → List (Str × T) → List Addr → Prop
  | nil : TRF [] [] []
  | cons {f : Str} {v : V} {vs : List (Str × V)} {t : T} {ts : List (Str × T)} {f1 f2 : List Addr} : TR v t f1 → TRF vs ts f2 → TRF ((f, v) :: vs) ((f, t) :: ts) (f1 ++ f2)
inductive TRK : List (Key × V) → List (Key × T) → List Addr → Prop
  | nil : TRK [] [] []
  | cons {f : Key} {v : V} {vs : List (Key × V)} {t : T} {ts : List (Key × T)} {f1 f2 : List Addr} : TR v t f1 → TRK vs ts f2 → TRK ((f, v) :: vs) ((f, t) :: ts) (f1 ++ f2)
end
end

section
variable {K : PySem.W.Frag} {mg : Mg} {F F' H H' : Hp}
theorem Same.seqT {a : Addr} {xs : List V} (e : Same F F') (h : SqT K F a xs) : SqT K F' a xs := by
  rcases h with (h | ⟨o, h⟩) | h
  · exact .inl (.inl (e _ _ h))
  · exact .inl (.inr ⟨o, e _ _ h⟩)
  · exact .inr h
theorem Dp.tup {a : Addr} {xs : List V} {ds : List D} (h : SqT K F a xs) (l : DpL K mg F xs ds) : Dp K mg F (.ref a) (.tup ds) := .tupP ⟨h, fun z => nomatch z⟩ l
theorem Same.seqP {p : Bool} {a : Addr} {xs : List V} (e : Same F F') (h : SqP K F p a xs) : SqP K F' p a xs := ⟨Same.seqT e h.1, fun z => (h.2 z).imp fun o q => ⟨q.1.imp (e _ _) id, q.2⟩⟩
mutual
theorem Dp.mono (e : Same F F') : ∀ {v : V} {x : D}, Dp K mg F v x → Dp K mg F' v x
  | _, _, .non => .non
  | _, _, .bl b => .bl b
  | _, _, .int i => .int i
  | _, _, .str x => .str x
  | _, _, .lst h l => .lst (e _ _ h) (DpL.mono e l)
  | _, _, .ro h l => .ro (e.seq h) (DpL.mono e l)
  | _, _, .tupP h l => .tupP (Same.seqP e h) (DpL.mono e l)
  | _, _, .ins h m l => .ins (e _ _ h) m (DpF.mono e l)
  | _, _, .glo m => .glo m
  | _, _, .ty n => .ty n
  | _, _, .dic h l => .dic (e _ _ h) (DpK.mono e l)
  | _, _, .junk v => .junk v
  | _, _, .exn h1 h2 m l => .exn (e _ _ h1) (e _ _ h2) m (DpF.mono e l)
theorem DpL.mono (e : Same F F') : ∀ {v : List V} {x : List D}, DpL K mg F v x → DpL K mg F' v x
  | _, _, .nil => .nil
  | _, _, .cons h r => .cons (Dp.mono e h) (DpL.mono e r)
theorem DpF.mono (e : Same F F') : ∀ {v : List (Str × V)} {x : List (Str × D)}, DpF K mg F v x → DpF K mg F' v x
  | _, _, .nil => .nil
  | _, _, .cons h r => .cons (Dp.mono e h) (DpF.mono e r)
theorem DpK.mono (e : Same F F') : ∀ {v : List (Key × V)} {x : List (Key × D)}, DpK K mg F v x → DpK K mg F' v x
  | _, _, .nil => .nil
  | _, _, .cons h r => .cons (Dp.mono e h) (DpK.mono e r)
end
theorem DpL.length : ∀ {vs : List V} {xs : List D}, DpL K mg F vs xs → vs.length = xs.length
  | _, _, .nil => rfl
  | _, _, .cons _ r => by simp [DpL.length r]
theorem DpL.get : ∀ {vs : List V} {xs : List D} {i : Nat} {x : D}, DpL K mg F vs xs → xs[i]? = some x → ∃ v, vs[i]? = some v ∧ Dp K mg F v x
  | _, _, _, _, .nil, e => by simp at e
  | _, _, 0, _, .cons h _, e => by simp at e; subst e; exact ⟨_, rfl, h⟩
  | _, _, i + 1, _, .cons _ r, e => by
    obtain ⟨v, h1, h2⟩ := DpL.get (i := i) r (by simpa using e)
    exact ⟨v, by simpa using h1, h2⟩
theorem DpL.append : ∀ {vs ws : List V} {xs ys : List D}, DpL K mg F vs xs → DpL K mg F ws ys → DpL K mg F (vs ++ ws) (xs ++ ys)
  | _, _, _, _, .nil, s => s
  | _, _, _, _, .cons h r, s => .cons h (DpL.append r s)
theorem DpL.take : ∀ {vs : List V} {xs : List D} (n : Nat), DpL K mg F vs xs → DpL K mg F (vs.take n) (xs.take n)
  | _, _, 0, _ => .nil
  | _, _, _ + 1, .nil => .nil
  | _, _, n + 1, .cons h r => .cons h (DpL.take n r)
theorem DpL.drop : ∀ {vs : List V} {xs : List D} (n : Nat), DpL K mg F vs xs → DpL K mg F (vs.drop n) (xs.drop n)
  | _, _, 0, r => r
  | _, _, _ + 1, .nil => .nil
  | _, _, n + 1, .cons _ r => DpL.drop n r
theorem DpL.reverse : ∀ {vs : List V} {xs : List D}, DpL K mg F vs xs → DpL K mg F vs.reverse xs.reverse
  | _, _, .nil => .nil
  | _, _, .cons h r => by simp only [List.reverse_cons]; exact DpL.append (DpL.reverse r) (.cons h .nil)
theorem DpF.get : ∀ {vs : List (Str × V)} {xs : List (Str × D)} {f : Str} {x : D}, DpF K mg F vs xs → xs.lookup f = some x → ∃ v, vs.lookup f = some v ∧ Dp K mg F v x
  | _, _, _, _, .nil, e => by simp at e
  | _, _, f, x, .cons (f := g) h r, e => by
    simp only [List.lookup_cons] at e ⊢
    split at e
    · cases e; exact ⟨_, rfl, h⟩
    · exact DpF.get r e
theorem DpF.none_of : ∀ {vs : List (Str × V)} {xs : List (Str × D)} {f : Str}, DpF K mg F vs xs → xs.lookup f = none → vs.lookup f = none
  | _, _, _, .nil, _ => rfl
  | _, _, f, .cons (f := g) h r, e => by
    simp only [List.lookup_cons] at e ⊢
    split at e
    · cases e
    · exact DpF.none_of r e
theorem TRL.length : ∀ {vs : List V} {xs : List T} {fp : List Addr}, TRL K mg F H vs xs fp → vs.length = xs.length
  | _, _, _, .nil => rfl
  | _, _, _, .cons _ r => by simp [TRL.length r]

mutual
/-- the places of a tree: tracked, not frozen -/
theorem TR.fp : ∀ {v : V} {t : T} {fp : List Addr}, TR K mg F H v t fp → ∀ a ∈ fp, F a = none ∧ ∃ o, H a = some o
  | _, _, _, .d _ => fun _ h => nomatch h
  | _, _, _, .lst h n l => fun a ha => by
    rcases List.mem_cons.mp ha with rfl | ha
    · exact ⟨n, _, h⟩
    · exact TRL.fp l a ha
  | _, _, _, .tup h n l => fun a ha => by
    rcases List.mem_cons.mp ha with rfl | ha
    · exact ⟨n, _, h⟩
    · exact TRL.fp l a ha
  | _, _, _, .ins h n m l => fun a ha => by
    rcases List.mem_cons.mp ha with rfl | ha
    · exact ⟨n, _, h⟩
    · exact TRF.fp l a ha
  | _, _, _, .dic h n l => fun a ha => by
    rcases List.mem_cons.mp ha with rfl | ha
    · exact ⟨n, _, h⟩
    · exact TRK.fp l a ha
  | _, _, _, .tbl _ h n _ _ => fun a ha => by
    rcases List.mem_singleton.mp ha with rfl
    exact ⟨n, _, h⟩
theorem TRL.fp : ∀ {v : List V} {t : List T} {fp : List Addr}, TRL K mg F H v t fp → ∀ a ∈ fp, F a = none ∧ ∃ o, H a = some o
  | _, _, _, .nil => fun _ h => nomatch h
  | _, _, _, .cons h r => fun a ha => by
    rcases List.mem_append.mp ha with ha | ha
    · exact TR.fp h a ha
    · exact TRL.fp r a ha
theorem TRF.fp : ∀ {v : List (Str × V)} {t : List (Str × T)} {fp : List Addr}, TRF K mg F H v t fp → ∀ a ∈ fp, F a = none ∧ ∃ o, H a = some o
  | _, _, _, .nil => fun _ h => nomatch h
  | _, _, _, .cons h r => fun a ha => by
    rcases List.mem_append.mp ha with ha | ha
    · exact TR.fp h a ha
    · exact TRF.fp r a ha
theorem TRK.fp : ∀ {v : List (Key × V)} {t : List (Key × T)} {fp : List Addr}, TRK K mg F H v t fp → ∀ a ∈ fp, F a = none ∧ ∃ o, H a = some o
  | _, _, _, .nil => fun _ h => nomatch h
  | _, _, _, .cons h r => fun a ha => by
    rcases List.mem_append.mp ha with ha | ha
    · exact TR.fp h a ha
    · exact TRK.fp r a ha
end
mutual
/-- a tree stays where its places stay -/
theorem TR.stay (e : Same F F') : ∀ {v : V} {t : T} {fp : List Addr}, TR K mg F H v t fp → (∀ a ∈ fp, F' a = none ∧ ∀ o, H a = some o → H' a = some o) → TR K mg F' H' v t fp
  | _, _, _, .d h, _ => .d (h.mono e)
  | _, _, _, .lst h n l, k => .lst ((k _ List.mem_cons_self).2 _ h) (k _ List.mem_cons_self).1 (TRL.stay e l fun a ha => k a (List.mem_cons_of_mem _ ha))
  | _, _, _, .tup h n l, k => .tup ((k _ List.mem_cons_self).2 _ h) (k _ List.mem_cons_self).1 (TRL.stay e l fun a ha => k a (List.mem_cons_of_mem _ ha))
  | _, _, _, .ins h n m l, k => .ins ((k _ List.mem_cons_self).2 _ h) (k _ List.mem_cons_self).1 m (TRF.stay e l fun a ha => k a (List.mem_cons_of_mem _ ha))
  | _, _, _, .dic h n l, k => .dic ((k _ List.mem_cons_self).2 _ h) (k _ List.mem_cons_self).1 (TRK.stay e l fun a ha => k a (List.mem_cons_of_mem _ ha))
  | _, _, _, .tbl t h n o c, k => .tbl t ((k _ List.mem_cons_self).2 _ h) (k _ List.mem_cons_self).1 o fun pos cv z => (c pos cv z).imp fun c' q => ⟨q.1, e _ _ q.2⟩
theorem TRL.stay (e : Same F F') : ∀ {v : List V} {t : List T} {fp : List Addr}, TRL K mg F H v t fp → (∀ a ∈ fp, F' a = none ∧ ∀ o, H a = some o → H' a = some o) → TRL K mg F' H' v t fp
  | _, _, _, .nil, _ => .nil
  | _, _, _, .cons h r, k => .cons (TR.stay e h fun a ha => k a (List.mem_append_left _ ha)) (TRL.stay e r fun a ha => k a (List.mem_append_right _ ha))
theorem TRF.stay (e : Same F F') : ∀ {v : List (Str × V)} {t : List (Str × T)} {fp : List Addr}, TRF K mg F H v t fp → (∀ a ∈ fp, F' a = none ∧ ∀ o, H a = some o → H' a = some o) → TRF K mg F' H' v t fp
  | _, _, _, .nil, _ => .nil
  | _, _, _, .cons h r, k => .cons (TR.stay e h fun a ha => k a (List.mem_append_left _ ha)) (TRF.stay e r fun a ha => k a (List.mem_append_right _ ha))
theorem TRK.stay (e : Same F F') : ∀ {v : List (Key × V)} {t : List (Key × T)} {fp : List Addr}, TRK K mg F H v t fp → (∀ a ∈ fp, F' a = none ∧ ∀ o, H a = some o → H' a = some o) → TRK K mg F' H' v t fp
  | _, _, _, .nil, _ => .nil
  | _, _, _, .cons h r, k => .cons (TR.stay e h fun a ha => k a (List.mem_append_left _ ha)) (TRK.stay e r fun a ha => k a (List.mem_append_right _ ha))
end
mutual
/-- what a tree is worth over a heap that holds its places -/
theorem TR.seen (e : Same F F') : ∀ {v : V} {t : T} {fp : List Addr}, TR K mg F H v t fp → (∀ a ∈ fp, ∀ o, H a = some o → F' a = some o) → Dp K mg F' v (frz t)
  | _, _, _, .d h, _ => h.mono e
  | _, _, _, .lst h n l, k => .lst (k _ List.mem_cons_self _ h) (TRL.seen e l fun a ha => k a (List.mem_cons_of_mem _ ha))
  | _, _, _, .tup h n l, k => .tup (SqT.of (k _ List.mem_cons_self _ h)) (TRL.seen e l fun a ha => k a (List.mem_cons_of_mem _ ha))
  | _, _, _, .ins h n m l, k => .ins (k _ List.mem_cons_self _ h) m (TRF.seen e l fun a ha => k a (List.mem_cons_of_mem _ ha))
  | _, _, _, .dic h n l, k => .dic (k _ List.mem_cons_self _ h) (TRK.seen e l fun a ha => k a (List.mem_cons_of_mem _ ha))
  | _, _, _, .tbl _ _ _ _ _, _ => .junk _
theorem TRL.seen (e : Same F F') : ∀ {v : List V} {t : List T} {fp : List Addr}, TRL K mg F H v t fp → (∀ a ∈ fp, ∀ o, H a = some o → F' a = some o) → DpL K mg F' v (frzL t)
  | _, _, _, .nil, _ => .nil
  | _, _, _, .cons h r, k => .cons (TR.seen e h fun a ha => k a (List.mem_append_left _ ha)) (TRL.seen e r fun a ha => k a (List.mem_append_right _ ha))
theorem TRF.seen (e : Same F F') : ∀ {v : List (Str × V)} {t : List (Str × T)} {fp : List Addr}, TRF K mg F H v t fp → (∀ a ∈ fp, ∀ o, H a = some o → F' a = some o) → DpF K mg F' v (frzF t)
  | _, _, _, .nil, _ => .nil
  | _, _, _, .cons h r, k => .cons (TR.seen e h fun a ha => k a (List.mem_append_left _ ha)) (TRF.seen e r fun a ha => k a (List.mem_append_right _ ha))
theorem TRK.seen (e : Same F F') : ∀ {v : List (Key × V)} {t : List (Key × T)} {fp : List Addr}, TRK K mg F H v t fp → (∀ a ∈ fp, ∀ o, H a = some o → F' a = some o) → DpK K mg F' v (frzK t)
  | _, _, _, .nil, _ => .nil
  | _, _, _, .cons h r, k => .cons (TR.seen e h fun a ha => k a (List.mem_append_left _ ha)) (TRK.seen e r fun a ha => k a (List.mem_append_right _ ha))
end
end
end DL

/-! DL1: states, how they grow, what a reading says of data -/
namespace DL
open PySem L2

abbrev Mst := List T
inductive R where
  | h (k : Nat) | t (x : T)
/-- a value held: data, a mutable thing, a list of lambdas that the frame at L made -/
inductive SV where
  | d (x : D) | h (k : Nat) | c (L : Addr) (ls : List Lm)
abbrev Ev := List (Option SV)
structure Exc where
  c : Str
  fs : List (Str × D)
inductive Out (α : Type) where
  | ok (a : α) (M : Mst) | exc (e : Exc) (M : Mst) | bad
/-- the ghost of a state: what is frozen, where the mutable objects stand, their places -/
structure Wd where
  F : Hp
  α : Nat → Addr
  φ : Nat → List Addr

/-- a place that may be changed from here -/
def Pm (fs : List Addr) (w : Wd) (H : Hp) (M : Mst) (a : Addr) : Prop := H a = none ∨ (∃ j, j < M.length ∧ a ∈ w.φ j) ∨ a ∈ fs
structure Ext (fs : List Addr) (w : Wd) (H : Hp) (M : Mst) (w' : Wd) (H' : Hp) (M' : Mst) : Prop where
  F : Same w.F w'.F
  len : M.length ≤ M'.length
  al : ∀ k, k < M.length → w'.α k = w.α k
  keep : ∀ a o, H a = some o → ¬ Pm fs w H M a → H' a = some o
  ph : ∀ k, k < M'.length → ∀ a ∈ w'.φ k, Pm fs w H M a
  gr : ∀ a, w'.F a ≠ none → w.F a ≠ none ∨ Pm fs w H M a
  there : ∀ a, H' a = none → H a = none
structure MR (K : PySem.W.Frag) (mg : Mg) (w : Wd) (H : Hp) (M : Mst) : Prop where
  sub : Same w.F H
  obj : ∀ k t, M[k]? = some t → TR K mg w.F H (.ref (w.α k)) t (w.φ k) ∧ (w.φ k).Nodup
  dis : ∀ j k a, j < M.length → k < M.length → a ∈ w.φ j → a ∈ w.φ k → j = k

def RR (K : PySem.W.Frag) (mg : Mg) (w : Wd) (H : Hp) (M : Mst) (v : V) : R → List Addr → Prop
  | .h k, fp => k < M.length ∧ v = .ref (w.α k) ∧ fp = []
  | .t x, fp => TR K mg w.F H v x fp ∧ fp.Nodup ∧ ∀ a ∈ fp, ∀ k, k < M.length → a ∉ w.φ k
inductive RRL (K : PySem.W.Frag) (mg : Mg) (w : Wd) (H : Hp) (M : Mst) : List V → List R → List Addr → Prop
  | nil : RRL K mg w H M [] [] []
  | cons {v : V} {vs : List V} {r : R} {rs : List R} {f1 f2 : List Addr} : RR K mg w H M v r f1 → RRL K mg w H M vs rs f2 → (∀ a ∈ f1, a ∉ f2) → RRL K mg w H M (v :: vs) (r :: rs) (f1 ++ f2)
def dflV : Option Addr → Value
  | none => .none
  | some t => .ref t
/-- the object of the lambda l, its maker's cells cl -/
def CloO (f : Addr) (cl : List (Str × Addr)) (l : Lm) (c' : Addr) (dv : Option Addr) : HO := .ext fun h => ∃ doc pm ctv : Value, h.get? f = some (PySem.W.kdv_obj "<lambda>" l.q l.ps (.expr l.bd) l.sc (cloFrom cl l.sc.names []) (dflV dv) doc pm c' ctv)
structure LamF (F : Hp) (L : Addr) (f c' : Addr) (dv : Option Addr) (l : Lm) : Prop where
  f : F f = some (CloO f (l.cells L) l c' dv)
  c : F c' = some (LamX.CodeO c' l.q)
  d0 : l.dx = none → dv = none
  d1 : l.dx ≠ none → ∃ t, dv = some t ∧ F t = some (.tup [.int 0])
inductive LamsR (F : Hp) (L : Addr) : List V → List Lm → Prop
  | nil : LamsR F L [] []
  | cons {f c' : Addr} {dv : Option Addr} {l : Lm} {vs : List V} {ls : List Lm} : LamF F L f c' dv l → LamsR F L vs ls → LamsR F L (.ref f :: vs) (l :: ls)
theorem LamF.mono {F F' : Hp} {L f c' : Addr} {dv : Option Addr} {l : Lm} (e : Same F F') (h : LamF F L f c' dv l) : LamF F' L f c' dv l := ⟨e _ _ h.f, e _ _ h.c, h.d0, fun z => (h.d1 z).imp fun t q => ⟨q.1, e _ _ q.2⟩⟩
theorem LamsR.mono {F F' : Hp} {L : Addr} (e : Same F F') : ∀ {vs : List V} {ls : List Lm}, LamsR F L vs ls → LamsR F' L vs ls
  | _, _, .nil => .nil
  | _, _, .cons h r => .cons (h.mono e) (LamsR.mono e r)
def VR (K : PySem.W.Frag) (mg : Mg) (w : Wd) (M : Mst) (v : V) : SV → Prop
  | .d x => Dp K mg w.F v x
  | .h k => k < M.length ∧ v = .ref (w.α k)
  | .c L ls => ∃ a vs, v = .ref a ∧ w.F a = some (.lst vs) ∧ LamsR w.F L vs ls
inductive VRL (K : PySem.W.Frag) (mg : Mg) (w : Wd) (M : Mst) : List V → List SV → Prop
  | nil : VRL K mg w M [] []
  | cons {v : V} {vs : List V} {x : SV} {xs : List SV} : VR K mg w M v x → VRL K mg w M vs xs → VRL K mg w M (v :: vs) (x :: xs)
structure ER (K : PySem.W.Frag) (mg : Mg) (w : Wd) (M : Mst) (σ : St) (ρ : Ev) : Prop where
  len : σ.length = ρ.length
  at_ : ∀ (i : Nat) (x : SV), ρ[i]? = some (some x) → ∃ v, σ[i]? = some (some v) ∧ VR K mg w M v x
def XR (K : PySem.W.Frag) (mg : Mg) (w : Wd) (H : Hp) (cls : Value) (d : Option Addr) (e : Exc) : Prop :=
  ∃ C dx vs, cls = .ref C ∧ mg e.c = some (.ref C) ∧ d = some dx ∧ H dx = some (.xd vs) ∧ DpF K mg w.F vs e.fs

section
variable {K : PySem.W.Frag} {mg : Mg} {fs gs fp f1 f2 : List Addr} {w w' w'' : Wd} {H H' H'' : Hp} {M M' M'' : Mst}
theorem Ext.refl (m : MR K mg w H M) : Ext fs w H M w H M where
  F := Same.refl _
  len := Nat.le_refl _
  al := fun _ _ => rfl
  keep := fun _ _ h _ => h
  ph := fun k hk a ha => .inr (.inl ⟨k, hk, ha⟩)
  gr := fun _ h => .inl h
  there := fun _ h => h
theorem Ext.pm (e : Ext fs w H M w' H' M') (hg : ∀ a ∈ gs, Pm fs w H M a) {a : Addr} (h : Pm gs w' H' M' a) : Pm fs w H M a := by
  rcases h with h | ⟨j, hj, h⟩ | h
  · exact .inl (e.there a h)
  · exact e.ph j hj a h
  · exact hg a h
theorem Ext.trans (e : Ext fs w H M w' H' M') (e' : Ext gs w' H' M' w'' H'' M'') (hg : ∀ a ∈ gs, Pm fs w H M a) : Ext fs w H M w'' H'' M'' where
  F := e.F.trans e'.F
  len := Nat.le_trans e.len e'.len
  al := fun k hk => (e'.al k (Nat.lt_of_lt_of_le hk e.len)).trans (e.al k hk)
  keep := fun a o h n => e'.keep a o (e.keep a o h n) fun z => n (e.pm hg z)
  ph := fun k hk a ha => e.pm hg (e'.ph k hk a ha)
  gr := fun a h => by
    rcases e'.gr a h with z | z
    · exact e.gr a z
    · exact .inr (e.pm hg z)
  there := fun a h => e.there a (e'.there a h)
theorem Ext.trans0 (e : Ext fs w H M w' H' M') (e' : Ext [] w' H' M' w'' H'' M'') : Ext fs w H M w'' H'' M'' := e.trans e' fun _ h => nomatch h
theorem Ext.mono (e : Ext fs w H M w' H' M') (hs : ∀ a ∈ fs, a ∈ gs) : Ext gs w H M w' H' M' := by
  have z : ∀ a, Pm fs w H M a → Pm gs w H M a := fun a h => by
    rcases h with h | h | h
    · exact .inl h
    · exact .inr (.inl h)
    · exact .inr (.inr (hs a h))
  exact ⟨e.F, e.len, e.al, fun a o h n => e.keep a o h fun q => n (z a q), fun k hk a ha => z a (e.ph k hk a ha), fun a h => (e.gr a h).imp id (z a), e.there⟩
theorem RR.fpOk {v : V} {r : R} (h : RR K mg w H M v r fp) : ∀ a ∈ fp, w.F a = none ∧ (∃ o, H a = some o) ∧ ∀ k, k < M.length → a ∉ w.φ k := by
  cases r with
  | h k => obtain ⟨_, _, rfl⟩ := h; exact fun _ z => nomatch z
  | t x => exact fun a ha => ⟨(h.1.fp a ha).1, (h.1.fp a ha).2, h.2.2 a ha⟩
theorem RR.nd {v : V} {r : R} (h : RR K mg w H M v r fp) : fp.Nodup := by
  cases r with
  | h k => obtain ⟨_, _, rfl⟩ := h; exact List.nodup_nil
  | t x => exact h.2.1
/-- a held result stays -/
theorem RR.stay {v : V} {r : R} (h : RR K mg w H M v r fp) (e : Ext gs w H M w' H' M') (hd : ∀ a ∈ fp, a ∉ gs) : RR K mg w' H' M' v r fp := by
  have np : ∀ a ∈ fp, ¬ Pm gs w H M a := fun a ha z => by
    obtain ⟨h1, ⟨o, h2⟩, h3⟩ := h.fpOk a ha
    rcases z with z | ⟨j, hj, z⟩ | z
    · rw [h2] at z; cases z
    · exact h3 j hj z
    · exact hd a ha z
  cases r with
  | h k => obtain ⟨h1, h2, h3⟩ := h; exact ⟨Nat.lt_of_lt_of_le h1 e.len, by rw [e.al k h1]; exact h2, h3⟩
  | t x =>
    obtain ⟨h1, h2, h3⟩ := h
    refine ⟨h1.stay e.F fun a ha => ⟨?_, fun o ho => e.keep a o ho (np a ha)⟩, h2, fun a ha k hk z => np a ha (e.ph k hk a z)⟩
    cases q : w'.F a with
    | none => rfl
    | some o =>
      rcases e.gr a (by rw [q]; exact fun z => nomatch z) with z | z
      · exact absurd (h1.fp a ha).1 z
      · exact absurd z (np a ha)
theorem RRL.fpOk : ∀ {vs : List V} {rs : List R} {fp : List Addr}, RRL K mg w H M vs rs fp → ∀ a ∈ fp, w.F a = none ∧ (∃ o, H a = some o) ∧ ∀ k, k < M.length → a ∉ w.φ k
  | _, _, _, .nil => fun _ z => nomatch z
  | _, _, _, .cons h r _ => fun a ha => by
    rcases List.mem_append.mp ha with z | z
    · exact h.fpOk a z
    · exact RRL.fpOk r a z
theorem RRL.stay : ∀ {vs : List V} {rs : List R} {fp : List Addr}, RRL K mg w H M vs rs fp → Ext gs w H M w' H' M' → (∀ a ∈ fp, a ∉ gs) → RRL K mg w' H' M' vs rs fp
  | _, _, _, .nil, _, _ => .nil
  | _, _, _, .cons h r d, e, hd => .cons (h.stay e fun a ha => hd a (List.mem_append_left _ ha)) (RRL.stay r e fun a ha => hd a (List.mem_append_right _ ha)) d
theorem RRL.length : ∀ {vs : List V} {rs : List R} {fp : List Addr}, RRL K mg w H M vs rs fp → vs.length = rs.length
  | _, _, _, .nil => rfl
  | _, _, _, .cons _ r _ => by simp [RRL.length r]
theorem VR.stay {v : V} {x : SV} (h : VR K mg w M v x) (e : Ext gs w H M w' H' M') : VR K mg w' M' v x := by
  cases x with
  | d x => exact Dp.mono e.F h
  | h k => exact ⟨Nat.lt_of_lt_of_le h.1 e.len, by rw [e.al k h.1]; exact h.2⟩
  | c L ls =>
    obtain ⟨a, vs, h2, h3, h4⟩ := h
    exact ⟨a, vs, h2, e.F _ _ h3, h4.mono e.F⟩
theorem VRL.stay : ∀ {vs : List V} {xs : List SV}, VRL K mg w M vs xs → Ext gs w H M w' H' M' → VRL K mg w' M' vs xs
  | _, _, .nil, _ => .nil
  | _, _, .cons h r, e => .cons (h.stay e) (VRL.stay r e)
theorem VRL.length : ∀ {vs : List V} {xs : List SV}, VRL K mg w M vs xs → vs.length = xs.length
  | _, _, .nil => rfl
  | _, _, .cons _ r => by simp [VRL.length r]
theorem VRL.get : ∀ {vs : List V} {xs : List SV} {i : Nat} {x : SV}, VRL K mg w M vs xs → xs[i]? = some x → ∃ v, vs[i]? = some v ∧ VR K mg w M v x
  | _, _, _, _, .nil, e => by simp at e
  | _, _, 0, _, .cons h _, e => by simp at e; subst e; exact ⟨_, rfl, h⟩
  | _, _, i + 1, _, .cons _ r, e => by
    obtain ⟨v, h1, h2⟩ := VRL.get (i := i) r (by simpa using e)
    exact ⟨v, by simpa using h1, h2⟩
theorem ER.stay {σ : St} {ρ : Ev} (h : ER K mg w M σ ρ) (e : Ext gs w H M w' H' M') : ER K mg w' M' σ ρ :=
  ⟨h.len, fun i x q => let ⟨v, h1, h2⟩ := h.at_ i x q; ⟨v, h1, h2.stay e⟩⟩
theorem ER.set {σ : St} {ρ : Ev} {i : Nat} {v : V} {x : SV} (h : ER K mg w M σ ρ) (hv : VR K mg w M v x) : ER K mg w M (σ.set i (some v)) (ρ.set i (some x)) := by
  refine ⟨by simpa using h.len, fun j y q => ?_⟩
  by_cases e : i = j
  · subst e
    by_cases hl : i < ρ.length
    · rw [List.getElem?_set_self hl] at q
      cases q
      exact ⟨v, List.getElem?_set_self (by rw [h.len]; exact hl), hv⟩
    · rw [List.getElem?_eq_none (by simpa using hl)] at q; cases q
  · rw [List.getElem?_set_ne e] at q ⊢
    exact h.at_ j y q
theorem ER.clear {σ : St} {ρ : Ev} {i : Nat} (h : ER K mg w M σ ρ) : ER K mg w M (σ.set i none) (ρ.set i none) := by
  refine ⟨by simpa using h.len, fun j y q => ?_⟩
  by_cases e : i = j
  · subst e
    by_cases hl : i < ρ.length
    · rw [List.getElem?_set_self hl] at q; cases q
    · rw [List.getElem?_eq_none (by simpa using hl)] at q; cases q
  · rw [List.getElem?_set_ne e] at q ⊢
    exact h.at_ j y q
def wipeE (ρ : Ev) : List Nat → Ev
  | [] => ρ
  | v :: vs => (wipeE ρ vs).set v none
theorem ER.wipe {σ : St} {ρ : Ev} (h : ER K mg w M σ ρ) : ∀ vs : List Nat, ER K mg w M (L2.wipe σ vs) (wipeE ρ vs)
  | [] => h
  | v :: vs => (ER.wipe h vs).clear

/-! ### freezing -/
def frzR (M : Mst) : R → D
  | .h k => frz (M.getD k (.d .non))
  | .t x => frz x
def frzM (M : Mst) : R → Mst
  | .h k => M.set k (.d (frz (M.getD k (.d .non))))
  | .t _ => M
def frzHp (F H : Hp) (fp : List Addr) : Hp := fun a => if a ∈ fp then H a else F a
theorem frzHp_same {F : Hp} (h : ∀ a ∈ fp, F a = none) : Same F (frzHp F H fp) := fun a o e => by
  unfold frzHp
  split
  · rename_i z; rw [h a z] at e; cases e
  · exact e
theorem frzHp_in (F H : Hp) {fp : List Addr} {a : Addr} (h : a ∈ fp) : frzHp F H fp a = H a := if_pos h
theorem frzHp_out (F H : Hp) {fp : List Addr} {a : Addr} (h : a ∉ fp) : frzHp F H fp a = F a := if_neg h
theorem frzM_length {r : R} : (frzM M r).length = M.length := by cases r <;> simp [frzM]
theorem getD_of {k : Nat} {x : T} (h : M[k]? = some x) : M.getD k (.d .non) = x := by rw [List.getD_eq_getElem?_getD, h]; rfl

/-- a result becomes data -/
theorem settle {v : V} {r : R} (m : MR K mg w H M) (h : RR K mg w H M v r fp) :
    ∃ w', Ext fp w H M w' H (frzM M r) ∧ MR K mg w' H (frzM M r) ∧ Dp K mg w'.F v (frzR M r) ∧ w'.α = w.α := by
  cases r with
  | t x =>
    obtain ⟨h1, h2, h3⟩ := h
    have hn : ∀ a ∈ fp, w.F a = none := fun a ha => (h1.fp a ha).1
    have sF : Same w.F (frzHp w.F H fp) := frzHp_same hn
    refine ⟨⟨frzHp w.F H fp, w.α, w.φ⟩, ⟨sF, Nat.le_refl _, fun _ _ => rfl, fun _ _ q _ => q, fun k hk a ha => .inr (.inl ⟨k, hk, ha⟩), fun a q => ?_, fun _ q => q⟩, ⟨fun a o e => ?_, fun k t e => ?_, m.dis⟩, ?_, rfl⟩
    · by_cases ha : a ∈ fp
      · exact .inr (.inr (.inr ha))
      · exact .inl (by rw [← frzHp_out w.F H ha]; exact q)
    · by_cases ha : a ∈ fp
      · rw [← frzHp_in w.F H ha]; exact e
      · exact m.sub a o (by rw [← frzHp_out w.F H ha]; exact e)
    · obtain ⟨q1, q2⟩ := m.obj k t e
      have hk : k < M.length := (List.getElem?_eq_some_iff.mp e).1
      refine ⟨q1.stay sF fun a ha => ⟨?_, fun _ z => z⟩, q2⟩
      show frzHp w.F H fp a = none
      rw [frzHp_out w.F H fun z => h3 a z k hk ha]
      exact (q1.fp a ha).1
    · exact h1.seen sF fun a ha o ho => by show frzHp w.F H fp a = _; rw [frzHp_in w.F H ha]; exact ho
  | h k =>
    obtain ⟨hk, rfl, rfl⟩ := h
    obtain ⟨x, hx⟩ : ∃ x, M[k]? = some x := ⟨M[k], List.getElem?_eq_getElem hk⟩
    obtain ⟨q1, q2⟩ := m.obj k x hx
    have hn : ∀ a ∈ w.φ k, w.F a = none := fun a ha => (q1.fp a ha).1
    have sF : Same w.F (frzHp w.F H (w.φ k)) := frzHp_same hn
    have seen : Dp K mg (frzHp w.F H (w.φ k)) (.ref (w.α k)) (frz x) := q1.seen sF fun a ha o ho => by rw [frzHp_in w.F H ha]; exact ho
    refine ⟨⟨frzHp w.F H (w.φ k), w.α, fun j => if j = k then [] else w.φ j⟩, ⟨sF, by rw [frzM_length]; exact Nat.le_refl _, fun _ _ => rfl, fun _ _ q _ => q, fun j hj a ha => ?_, fun a q => ?_, fun _ q => q⟩, ⟨fun a o e => ?_, fun j t e => ?_, fun i j a hi hj h1 h2 => ?_⟩, ?_, rfl⟩
    · rw [frzM_length] at hj
      have ha : a ∈ (if j = k then [] else w.φ j) := ha
      split at ha
      · cases ha
      · exact .inr (.inl ⟨j, hj, ha⟩)
    · by_cases ha : a ∈ w.φ k
      · exact .inr (.inr (.inl ⟨k, hk, ha⟩))
      · exact .inl (by rw [← frzHp_out w.F H ha]; exact q)
    · by_cases ha : a ∈ w.φ k
      · rw [← frzHp_in w.F H ha]; exact e
      · exact m.sub a o (by rw [← frzHp_out w.F H ha]; exact e)
    · have e : (M.set k (.d (frz (M.getD k (.d .non)))))[j]? = some t := e
      by_cases hj : k = j
      · subst hj
        rw [List.getElem?_set_self hk, getD_of hx] at e
        cases e
        refine ⟨?_, by simp⟩
        show TR K mg _ H _ _ (if k = k then [] else w.φ k)
        rw [if_pos rfl]
        exact .d seen
      · rw [List.getElem?_set_ne hj] at e
        obtain ⟨z1, z2⟩ := m.obj j t e
        have hj' : j < M.length := (List.getElem?_eq_some_iff.mp e).1
        have ej : (if j = k then [] else w.φ j) = w.φ j := if_neg (Ne.symm hj)
        refine ⟨?_, by show (if j = k then [] else w.φ j).Nodup; rw [ej]; exact z2⟩
        show TR K mg _ H _ _ (if j = k then [] else w.φ j)
        rw [ej]
        refine z1.stay sF fun a ha => ⟨?_, fun _ z => z⟩
        rw [frzHp_out w.F H fun z => hj (m.dis j k a hj' hk ha z).symm]
        exact (z1.fp a ha).1
    · rw [frzM_length] at hi hj
      have h1 : a ∈ (if i = k then [] else w.φ i) := h1
      have h2 : a ∈ (if j = k then [] else w.φ j) := h2
      split at h1
      · cases h1
      · split at h2
        · cases h2
        · exact m.dis i j a hi hj h1 h2
    · show Dp K mg (frzHp w.F H (w.φ k)) _ (frz (M.getD k (.d .non)))
      rw [getD_of hx]
      exact seen
/-- what a result is worth now -/
theorem seen {v : V} {r : R} (m : MR K mg w H M) (h : RR K mg w H M v r fp) : Dp K mg H v (frzR M r) := by
  cases r with
  | t x => exact h.1.seen m.sub fun _ _ _ ho => ho
  | h k =>
    obtain ⟨hk, rfl, rfl⟩ := h
    obtain ⟨x, hx⟩ : ∃ x, M[k]? = some x := ⟨M[k], List.getElem?_eq_getElem hk⟩
    show Dp K mg H _ (frz (M.getD k (.d .non)))
    rw [getD_of hx]
    exact (m.obj k x hx).1.seen m.sub fun _ _ _ ho => ho
end
end DL

/-! DL2: what a reading says by data; names, constants, operators, tests, blocks -/
namespace DL
open PySem L2

def Out.bind {α β : Type} (o : Out α) (k : α → Mst → Out β) : Out β := match o with
  | .ok a M => k a M
  | .exc e M => .exc e M
  | .bad => .bad
abbrev Den := Ev → Mst → Out R
abbrev DenT := Ev → Mst → Out Bool
abbrev DenA := Ev → Mst → Out (List R)

def Post (X : Cx) (W : WX) (σ : St) (fs : List Addr) (w : Wd) (H : Hp) (M : Mst) {α : Type} (o : Out α) (C : Wd → Hp → Mst → α → Prop) : Prop :=
  match o with
  | .ok a M' => ∀ w' H', Ext fs w H M w' H' M' → MR X.K X.mg w' H' M' → C w' H' M' a
  | .exc e M' => ∀ w' H' cls d, Ext fs w H M w' H' M' → MR X.K X.mg w' H' M' → XR X.K X.mg w' H' cls d e → W cls d σ H'
  | .bad => False
def CE (X : Cx) (fs : List Addr) (w : Wd) (H : Hp) (M : Mst) (Q : VK) : Wd → Hp → Mst → R → Prop :=
  fun w' H' M' r => ∀ v fp, RR X.K X.mg w' H' M' v r fp → (∀ a ∈ fp, Pm fs w H M a) → Q v H'
def CA (X : Cx) (fs : List Addr) (w : Wd) (H : Hp) (M : Mst) (Q : List V → Hp → Prop) : Wd → Hp → Mst → List R → Prop :=
  fun w' H' M' rs => ∀ vs fp, RRL X.K X.mg w' H' M' vs rs fp → (∀ a ∈ fp, Pm fs w H M a) → Q vs H'
def rdE (X : Cx) (W : WX) (F : Den) : TE := fun σ H Q => ∃ w ρ M, MR X.K X.mg w H M ∧ ER X.K X.mg w M σ ρ ∧ Post X W σ [] w H M (F ρ M) (CE X [] w H M Q)
def rdT (X : Cx) (W : WX) (F : DenT) : TT := fun σ H Q => ∃ w ρ M, MR X.K X.mg w H M ∧ ER X.K X.mg w M σ ρ ∧ Post X W σ [] w H M (F ρ M) (fun _ H' _ b => Q b H')
def rdA (X : Cx) (W : WX) (F : DenA) : TA := fun σ H Q => ∃ w ρ M, MR X.K X.mg w H M ∧ ER X.K X.mg w M σ ρ ∧ Post X W σ [] w H M (F ρ M) (CA X [] w H M Q)
def DE (X : Cx) (W : WX) (e : Expr) (F : Den) : Prop := PE X e (rdE X W F)
def DT (X : Cx) (W : WX) (e : Expr) (F : DenT) : Prop := PT X e (rdT X W F)
def DW (X : Cx) (W : WX) (e : Expr) (F : DenT) : Prop := PW X e (rdT X W F)
def DA (X : Cx) (W : WX) (es : List Expr) (F : DenA) : Prop := PA X es (rdA X W F)

section
variable {X : Cx} {W : WX} {σ : St} {fs gs : List Addr} {w w2 : Wd} {H H2 : Hp} {M M2 : Mst} {α β : Type}
theorem Post.imp {o : Out α} {C C' : Wd → Hp → Mst → α → Prop} (h : Post X W σ fs w H M o C) (k : ∀ w' H' M' a, Ext fs w H M w' H' M' → MR X.K X.mg w' H' M' → C w' H' M' a → C' w' H' M' a) : Post X W σ fs w H M o C' := by
  cases o with
  | ok a M' => exact fun w' H' e m => k _ _ _ _ e m (h w' H' e m)
  | exc e M' => exact h
  | bad => exact h
theorem Post.from {o : Out α} {C : Wd → Hp → Mst → α → Prop} (h : Post X W σ fs w H M o C) (e : Ext fs w H M w2 H2 M2) (hg : ∀ a ∈ gs, Pm fs w H M a) : Post X W σ gs w2 H2 M2 o C := by
  cases o with
  | ok a M' => exact fun w' H' e' m => h w' H' (e.trans e' hg) m
  | exc x M' => exact fun w' H' c d e' m z => h w' H' c d (e.trans e' hg) m z
  | bad => exact h
theorem Post.bind {o : Out α} {k : α → Mst → Out β} {C : Wd → Hp → Mst → β → Prop} (h : Post X W σ fs w H M (o.bind k) C) :
    Post X W σ fs w H M o (fun w1 H1 M1 a => Post X W σ [] w1 H1 M1 (k a M1) C) := by
  cases o with
  | ok a M' => exact fun w1 H1 e1 _ => Post.from h e1 (fun _ z => nomatch z)
  | exc x M' => exact h
  | bad => exact h
/-- .. behind a: whatever is held there -/
theorem Post.bindF {o : Out α} {k : α → Mst → Out β} {C : Wd → Hp → Mst → β → Prop} (h : Post X W σ fs w H M (o.bind k) C) :
    Post X W σ [] w H M o (fun w1 H1 M1 a => Ext [] w H M w1 H1 M1 ∧ MR X.K X.mg w1 H1 M1 ∧ ∀ gs, (∀ b ∈ gs, Pm fs w H M b) → Post X W σ gs w1 H1 M1 (k a M1) C) := by
  cases o with
  | ok a M' => exact fun w1 H1 e1 m1 => ⟨e1, m1, fun gs hg => Post.from h (e1.mono fun _ z => nomatch z) hg⟩
  | exc x M' => exact fun w1 H1 c d e1 m1 z => h w1 H1 c d (e1.mono fun _ z => nomatch z) m1 z
  | bad => exact h
theorem Post.now {a : α} {C : Wd → Hp → Mst → α → Prop} (h : Post X W σ fs w H M (.ok a M) C) (m : MR X.K X.mg w H M) : C w H M a := h w H (Ext.refl m) m
/-- the end of a part is an end of the whole -/
theorem CE.from {Q : VK} {w' : Wd} {H' : Hp} {M' : Mst} {r : R} (h : CE X fs w H M Q w' H' M' r) (e : Ext fs w H M w2 H2 M2) (hg : ∀ a ∈ gs, Pm fs w H M a) : CE X gs w2 H2 M2 Q w' H' M' r :=
  fun v fp q hp => h v fp q fun a ha => e.pm hg (hp a ha)
theorem CA.from {Q : List V → Hp → Prop} {w' : Wd} {H' : Hp} {M' : Mst} {r : List R} (h : CA X fs w H M Q w' H' M' r) (e : Ext fs w H M w2 H2 M2) (hg : ∀ a ∈ gs, Pm fs w H M a) : CA X gs w2 H2 M2 Q w' H' M' r :=
  fun v fp q hp => h v fp q fun a ha => e.pm hg (hp a ha)
theorem PostE.from {o : Out R} {Q : VK} (h : Post X W σ fs w H M o (CE X fs w H M Q)) (e : Ext fs w H M w2 H2 M2) (hg : ∀ a ∈ gs, Pm fs w H M a) : Post X W σ gs w2 H2 M2 o (CE X gs w2 H2 M2 Q) :=
  (h.from e hg).imp fun _ _ _ _ _ _ q => q.from e hg

theorem _root_.L2.PE.mono {e : Expr} {t t' : TE} (h : PE X e t) (k : ∀ σ H Q, t' σ H Q → t σ H Q) : PE X e t' := ⟨fun pins s σ H Q I q => h.run pins s σ H Q I (k _ _ _ q)⟩
theorem _root_.L2.PT.mono {e : Expr} {t t' : TT} (h : PT X e t) (k : ∀ σ H Q, t' σ H Q → t σ H Q) : PT X e t' := ⟨fun pins s σ H Q I q => h.run pins s σ H Q I (k _ _ _ q)⟩
theorem _root_.L2.PW.mono {e : Expr} {t t' : TT} (h : PW X e t) (k : ∀ σ H Q, t' σ H Q → t σ H Q) : PW X e t' := ⟨fun whole pins s σ H Q I q => h.run whole pins s σ H Q I (k _ _ _ q)⟩
theorem _root_.L2.PA.mono {e : List Expr} {t t' : TA} (h : PA X e t) (k : ∀ σ H Q, t' σ H Q → t σ H Q) : PA X e t' := ⟨fun pos pins s σ H Q I q => h.run pos pins s σ H Q I (k _ _ _ q)⟩
theorem _root_.L2.PS.mono {e : Stmt} {t t' : TS} (h : PS X e t) (k : ∀ D σ H, t' D σ H → t D σ H) : PS X e t' := ⟨fun pins s σ H D I q => h.run pins s σ H D I (k _ _ _ q)⟩
theorem _root_.L2.PSs.mono {e : List Stmt} {t t' : TS} (h : PSs X e t) (k : ∀ D σ H, t' D σ H → t D σ H) : PSs X e t' := ⟨fun pins s σ H D I q => h.run pins s σ H D I (k _ _ _ q)⟩
theorem _root_.L2.PE.or {e : Expr} {t t' : TE} (h : PE X e t) (h' : PE X e t') : PE X e (fun σ H Q => t σ H Q ∨ t' σ H Q) := ⟨fun pins s σ H Q I q => q.elim (h.run pins s σ H Q I) (h'.run pins s σ H Q I)⟩

/-! ### names, constants -/
def eVar (i : Nat) : Den := fun ρ M => match ρ[i]? with
  | some (some (.d x)) => .ok (.t (.d x)) M
  | some (some (.h k)) => .ok (.h k) M
  | _ => .bad
def eC (x : D) : Den := fun _ M => .ok (.t (.d x)) M
variable {e a b c : Expr} {Fe Fa Fb Fc : Den} {pos : Pos}
theorem rr_d {K : PySem.W.Frag} {mg : Mg} {v : V} {x : D} (h : Dp K mg w.F v x) : RR K mg w H M v (.t (.d x)) [] := ⟨.d h, List.nodup_nil, fun _ z => nomatch z⟩
theorem de_const {v : V} {x : D} (h : PE X e (tC v)) (hd : ∀ F, Dp X.K X.mg F v x) : DE X W e (eC x) :=
  h.mono fun σ H Q ⟨w, ρ, M, m, er, p⟩ => (p.now m) v [] (rr_d (hd _)) fun _ z => nomatch z
theorem de_var (i : Nat) (h : PE X e (tVar i)) : DE X W e (eVar i) := h.mono fun σ H Q ⟨w, ρ, M, m, er, p⟩ => by
  unfold eVar at p
  split at p
  · rename_i x hx
    obtain ⟨v, h1, h2⟩ := er.at_ i _ hx
    exact ⟨v, h1, (p.now m) v [] (rr_d h2) fun _ z => nomatch z⟩
  · rename_i k hk
    obtain ⟨v, h1, h2⟩ := er.at_ i _ hk
    exact ⟨v, h1, (p.now m) v [] ⟨h2.1, h2.2, rfl⟩ fun _ z => nomatch z⟩
  · exact p.elim

/-! ### operators -/
def eSeq2 (g : R → R → Mst → Out R) (Fa Fb : Den) : Den := fun ρ M => (Fa ρ M).bind fun x M1 => (Fb ρ M1).bind fun y M2 => g x y M2
def Op2 (X : Cx) (g : R → R → Mst → Out R) (r : R2) : Prop := ∀ (W : WX) (σ : St) (w : Wd) (H : Hp) (M : Mst) (x y : V) (r1 r2 : R) (f1 f2 : List Addr) (Q : VK), MR X.K X.mg w H M →
  RR X.K X.mg w H M x r1 f1 → RR X.K X.mg w H M y r2 f2 → (∀ a ∈ f1, a ∉ f2) → Post X W σ (f1 ++ f2) w H M (g r1 r2 M) (CE X (f1 ++ f2) w H M Q) → r x y H Q
theorem pm_nil {a : Addr} (h : Pm [] w H M a) (gs : List Addr) : Pm gs w H M a := h.imp id (Or.imp id fun z => nomatch z)
/-- a new thing is not a held one -/
theorem RR.apart {v : V} {r : R} {f1 f2 : List Addr} (q1 : RR X.K X.mg w H M v r f1) (h2 : ∀ a ∈ f2, Pm [] w H M a) : ∀ a ∈ f1, a ∉ f2 := fun a ha hb => by
  obtain ⟨_, ⟨o, ho⟩, hn⟩ := q1.fpOk a ha
  rcases h2 a hb with z | ⟨j, hj, z⟩ | z
  · rw [ho] at z; cases z
  · exact hn j hj z
  · cases z
theorem rd_op {g : R → R → Mst → Out R} {r : R2} (hg : Op2 X g r) {Q : VK} (h : rdE X W (eSeq2 g Fa Fb) σ H Q) : tOp r (rdE X W Fa) (rdE X W Fb) σ H Q := by
  obtain ⟨w, ρ, M, m, er, p⟩ := h
  refine ⟨w, ρ, M, m, er, p.bindF.imp fun w1 H1 M1 x _ _ z => ?_⟩
  obtain ⟨e1, m1, p1⟩ := z
  intro v1 f1 q1 hf1
  refine ⟨w1, ρ, M1, m1, er.stay e1, (p1 f1 hf1).bindF.imp fun w2 H2 M2 y _ _ z => ?_⟩
  obtain ⟨e2, m2, p2⟩ := z
  intro v2 f2 q2 hf2
  have e12 : Ext [] w H M w2 H2 M2 := e1.trans0 e2
  have hp : ∀ a ∈ f1 ++ f2, Pm f1 w1 H1 M1 a := fun a ha => (List.mem_append.mp ha).elim (fun z => .inr (.inr z)) fun z => pm_nil (hf2 a z) _
  have hp' : ∀ a ∈ f1 ++ f2, Pm [] w H M a := fun a ha => (List.mem_append.mp ha).elim (hf1 a) fun z => e1.pm (gs := []) (fun _ z => nomatch z) (hf2 a z)
  exact hg W σ w2 H2 M2 v1 v2 x y f1 f2 Q m2 (q1.stay e2 fun _ _ z => nomatch z) q2 (q1.apart hf2) ((p2 _ hp).imp fun _ _ _ _ _ _ q => q.from e12 hp')
theorem de_op {op : Operator} {r : R2} {g : R → R → Mst → Out R} (hr : OpR X (binaryOp op) r) (hg : Op2 X g r) (ha : DE X W a Fa) (hb : DE X W b Fb) : DE X W (.BinOp a op b pos) (eSeq2 g Fa Fb) :=
  (pe_op hr ha hb).mono fun _ _ _ h => rd_op hg h
end
end DL

/-! DL3: operators by data, comparisons, tests, argument lists, displays -/
namespace DL
open PySem L2
section
variable {X : Cx} {W : WX} {σ : St} {fs gs : List Addr} {w w2 : Wd} {H H2 : Hp} {M M2 : Mst} {α β : Type}
variable {e a b c : Expr} {Fe Fa Fb Fc : Den} {pos : Pos}

/-- a plain answer -/
theorem CE.val {v : V} {x : D} {Q : VK} {C : Mst → R} (h : CE X fs w H M Q w H M (.t (.d x))) (hv : Dp X.K X.mg w.F v x) : Q v H := h v [] (rr_d hv) fun _ z => nomatch z
/-- a scalar operation of two values as they are worth now -/
def sc2 (h : D → D → Option D) : R → R → Mst → Out R := fun r1 r2 M => match h (frzR M r1) (frzR M r2) with
  | some x => .ok (.t (.d x)) M
  | none => .bad
theorem op2_sc {h : D → D → Option D} {r : R2} (hh : ∀ (F : Hp) (H : Hp) (x y : V) (d1 d2 d : D) (Q : VK), Dp X.K X.mg H x d1 → Dp X.K X.mg H y d2 → h d1 d2 = some d → (∀ v, Dp X.K X.mg F v d → Q v H) → r x y H Q) : Op2 X (sc2 h) r := by
  intro W σ w H M x y r1 r2 f1 f2 Q m q1 q2 _ p
  unfold sc2 at p
  split at p
  · rename_i d hd
    exact hh w.F H x y _ _ d Q (seen m q1) (seen m q2) hd fun v hv => (p.now m).val (C := fun _ => r1) hv
  · exact p.elim
theorem Op2.or {g : R → R → Mst → Out R} {r r' : R2} (h : Op2 X g r ∨ Op2 X g r') : Op2 X g (fun x y H Q => r x y H Q ∨ r' x y H Q) :=
  fun W σ w H M x y r1 r2 f1 f2 Q m q1 q2 d p => h.elim (fun z => .inl (z W σ w H M x y r1 r2 f1 f2 Q m q1 q2 d p)) fun z => .inr (z W σ w H M x y r1 r2 f1 f2 Q m q1 q2 d p)
/-- by the operands' data: g is g1 where it is told -/
def case2 (t : D → D → Bool) (g1 g2 : R → R → Mst → Out R) : R → R → Mst → Out R := fun r1 r2 M => if t (frzR M r1) (frzR M r2) = true then g1 r1 r2 M else g2 r1 r2 M
theorem Op2.case {t : D → D → Bool} {g1 g2 : R → R → Mst → Out R} {r r' : R2} (h : Op2 X g1 r) (h' : Op2 X g2 r') : Op2 X (case2 t g1 g2) (fun x y H Q => r x y H Q ∨ r' x y H Q) := by
  intro W σ w H M x y r1 r2 f1 f2 Q m q1 q2 d p
  unfold case2 at p
  split at p
  · exact .inl (h W σ w H M x y r1 r2 f1 f2 Q m q1 q2 d p)
  · exact .inr (h' W σ w H M x y r1 r2 f1 f2 Q m q1 q2 d p)

/-! ### ints and texts -/
def iOp (c : Int → Int → Bool) (g : Int → Int → Int) : D → D → Option D
  | .int i, .int j => if c i j = true then some (.int (g i j)) else none
  | _, _ => none
def iRel (g : Int → Int → Bool) : D → D → Option D
  | .int i, .int j => some (.bl (g i j))
  | _, _ => none
theorem op2_i {cc : Int → Int → Bool} {C : Int → Int → Prop} {g : Int → Int → Int} (hc : ∀ i j, cc i j = true → C i j) : Op2 X (sc2 (iOp cc g)) (rI C fun i j => .int (g i j)) := op2_sc fun F H x y d1 d2 d Q h1 h2 hd q => by
  unfold iOp at hd
  split at hd
  · split at hd
    · rename_i i j z
      cases h1; cases h2; cases hd
      exact ⟨i, j, rfl, rfl, hc _ _ z, q _ (.int _)⟩
    · cases hd
  · cases hd
theorem op2_i0 {g : Int → Int → Int} : Op2 X (sc2 (iOp (fun _ _ => true) g)) (rI0 fun i j => .int (g i j)) := op2_sc fun F H x y d1 d2 d Q h1 h2 hd q => by
  unfold iOp at hd
  split at hd
  · rename_i i j
    cases h1; cases h2; cases hd
    exact ⟨i, j, rfl, rfl, q _ (.int _)⟩
  · cases hd
theorem op2_rel {g : Int → Int → Bool} : Op2 X (sc2 (iRel g)) (rI0 fun i j => .bl (g i j)) := op2_sc fun F H x y d1 d2 d Q h1 h2 hd q => by
  unfold iRel at hd
  split at hd
  · rename_i i j
    cases h1; cases h2; cases hd
    exact ⟨i, j, rfl, rfl, q _ (.bl _)⟩
  · cases hd
def strCap : Nat := 1000000
theorem cap_le : strCap ≤ sizeLine := by rw [sizeLine_eq]; decide
def sCat : D → D → Option D
  | .str x, .str y => if x.length + y.length ≤ strCap then some (.str (x ++ y)) else none
  | _, _ => none
theorem op2_scat : Op2 X (sc2 sCat) (fun x y H Q => ∃ i j, x = .str i ∧ y = .str j ∧ i.length + j.length ≤ sizeLine ∧ Q (.str (i ++ j)) H) := op2_sc fun F H x y d1 d2 d Q h1 h2 hd q => by
  unfold sCat at hd
  split at hd
  · split at hd
    · rename_i i j z
      cases h1; cases h2; cases hd
      exact ⟨i, j, rfl, rfl, Nat.le_trans z cap_le, q _ (.str _)⟩
    · cases hd
  · cases hd

/-! ### a new object -/
theorem MR.new {p : Addr} {o : HO} (m : MR X.K X.mg w H M) (hp : H p = none) : MR X.K X.mg w (upd H p o) M := by
  have ne : ∀ q u, H q = some u → q ≠ p := fun q u e => ne_of_none e hp
  refine ⟨fun q u e => ?_, fun k t e => ?_, m.dis⟩
  · rw [upd_ne (ne q u (m.sub q u e))]; exact m.sub q u e
  · obtain ⟨h1, h2⟩ := m.obj k t e
    exact ⟨h1.stay (Same.refl _) fun q hq => ⟨(h1.fp q hq).1, fun u hu => by rw [upd_ne (ne q u hu)]; exact hu⟩, h2⟩
theorem Ext.new {p : Addr} {o : HO} (m : MR X.K X.mg w H M) (hp : H p = none) : Ext fs w H M w (upd H p o) M where
  F := Same.refl _
  len := Nat.le_refl _
  al := fun _ _ => rfl
  keep := fun q u e _ => by rw [upd_ne (ne_of_none e hp)]; exact e
  ph := fun k hk q hq => .inr (.inl ⟨k, hk, hq⟩)
  gr := fun _ h => .inl h
  there := fun q e => by
    by_cases z : q = p
    · rw [z]; exact hp
    · rw [upd_ne z] at e; exact e
/-- a new list of held trees -/
theorem RR.newL {p : Addr} {vs : List V} {ts : List T} {fp : List Addr} (m : MR X.K X.mg w H M) (hp : H p = none) (q : TRL X.K X.mg w.F H vs ts fp) (nd : fp.Nodup) (dj : ∀ a ∈ fp, ∀ k, k < M.length → a ∉ w.φ k) :
    RR X.K X.mg w (upd H p (.lst vs)) M (.ref p) (.t (.lst ts)) (p :: fp) := by
  have nf : w.F p = none := by
    cases z : w.F p with
    | none => rfl
    | some o => rw [m.sub p o z] at hp; cases hp
  have np : p ∉ fp := fun z => by obtain ⟨_, o, e⟩ := q.fp p z; rw [e] at hp; cases hp
  refine ⟨.lst upd_same nf (q.stay (Same.refl _) fun b hb => ⟨(q.fp b hb).1, fun o ho => by rw [upd_ne (ne_of_none ho hp)]; exact ho⟩), List.nodup_cons.mpr ⟨np, nd⟩, fun b hb k hk z => ?_⟩
  rcases List.mem_cons.mp hb with rfl | hb
  · obtain ⟨x, hx⟩ : ∃ x, M[k]? = some x := ⟨M[k], List.getElem?_eq_getElem hk⟩
    obtain ⟨_, o, e⟩ := (m.obj k x hx).1.fp _ z
    rw [e] at hp; cases hp
  · exact dj b hb k hk z
theorem RR.newT {p : Addr} {vs : List V} {ts : List T} {fp : List Addr} (m : MR X.K X.mg w H M) (hp : H p = none) (q : TRL X.K X.mg w.F H vs ts fp) (nd : fp.Nodup) (dj : ∀ a ∈ fp, ∀ k, k < M.length → a ∉ w.φ k) :
    RR X.K X.mg w (upd H p (.tup vs)) M (.ref p) (.t (.tup ts)) (p :: fp) := by
  have nf : w.F p = none := by
    cases z : w.F p with
    | none => rfl
    | some o => rw [m.sub p o z] at hp; cases hp
  have np : p ∉ fp := fun z => by obtain ⟨_, o, e⟩ := q.fp p z; rw [e] at hp; cases hp
  refine ⟨.tup upd_same nf (q.stay (Same.refl _) fun b hb => ⟨(q.fp b hb).1, fun o ho => by rw [upd_ne (ne_of_none ho hp)]; exact ho⟩), List.nodup_cons.mpr ⟨np, nd⟩, fun b hb k hk z => ?_⟩
  rcases List.mem_cons.mp hb with rfl | hb
  · obtain ⟨x, hx⟩ : ∃ x, M[k]? = some x := ⟨M[k], List.getElem?_eq_getElem hk⟩
    obtain ⟨_, o, e⟩ := (m.obj k x hx).1.fp _ z
    rw [e] at hp; cases hp
  · exact dj b hb k hk z
theorem DpL.trees {vs : List V} {ds : List D} (h : DpL X.K X.mg w.F vs ds) : TRL X.K X.mg w.F H vs (ds.map T.d) [] := by
  induction ds generalizing vs with
  | nil => cases h; exact .nil
  | cons x r ih =>
    cases h with
    | cons h1 h2 => exact .cons (f1 := []) (f2 := []) (.d h1) (ih h2)

/-! ### argument lists -/
def eNil : DenA := fun _ M => .ok [] M
def eCons (F : Den) (G : DenA) : DenA := fun ρ M => (F ρ M).bind fun r M1 => (G ρ M1).bind fun rs M2 => .ok (r :: rs) M2
theorem da_nil : DA X W [] eNil := pa_nil.mono fun σ H Q h => by
  obtain ⟨w, ρ, M, m, er, p⟩ := h
  exact p.now m [] [] .nil fun _ z => nomatch z
theorem rd_cons {Q : List V → Hp → Prop} {F : Den} {G : DenA} (h : rdA X W (eCons F G) σ H Q) : tCons (rdE X W F) (rdA X W G) σ H Q := by
  obtain ⟨w, ρ, M, m, er, p⟩ := h
  refine ⟨w, ρ, M, m, er, p.bindF.imp fun w1 H1 M1 x _ _ z => ?_⟩
  obtain ⟨e1, m1, p1⟩ := z
  intro v1 f1 q1 hf1
  refine ⟨w1, ρ, M1, m1, er.stay e1, (p1 f1 hf1).bindF.imp fun w2 H2 M2 y _ _ z => ?_⟩
  obtain ⟨e2, m2, p2⟩ := z
  intro v2 f2 q2 hf2
  have hp : ∀ a ∈ f1 ++ f2, Pm f1 w1 H1 M1 a := fun a ha => (List.mem_append.mp ha).elim (fun z => .inr (.inr z)) fun z => pm_nil (hf2 a z) _
  have hp' : ∀ a ∈ f1 ++ f2, Pm [] w H M a := fun a ha => (List.mem_append.mp ha).elim (hf1 a) fun z => e1.pm (gs := []) (fun _ z => nomatch z) (hf2 a z)
  exact (p2 _ hp).now m2 (v1 :: v2) (f1 ++ f2) (.cons (q1.stay e2 fun _ _ z => nomatch z) q2 (q1.apart hf2)) hp'
theorem da_cons {es : List Expr} {F : Den} {G : DenA} (ha : DE X W e F) (hr : DA X W es G) (hs : starEach (e :: es) X.env = (false, eval e X.env) :: starEach es X.env := by rfl) : DA X W (e :: es) (eCons F G) :=
  (pa_cons ha hr hs).mono fun _ _ _ h => rd_cons h

/-! ### displays -/
def treesM : List R → Mst → List T × Mst
  | [], M => ([], M)
  | .t x :: r, M => let (ts, M') := treesM r M; (x :: ts, M')
  | .h k :: r, M => let (ts, M') := treesM r (frzM M (.h k)); (.d (frzR M (.h k)) :: ts, M')
theorem trees_ok {rs : List R} : ∀ {vs : List V} {fp : List Addr} {w : Wd} {H : Hp} {M : Mst}, MR X.K X.mg w H M → RRL X.K X.mg w H M vs rs fp →
    ∃ w', Ext [] w H M w' H (treesM rs M).2 ∧ MR X.K X.mg w' H (treesM rs M).2 ∧ TRL X.K X.mg w'.F H vs (treesM rs M).1 fp ∧ fp.Nodup ∧ ∀ a ∈ fp, ∀ k, k < (treesM rs M).2.length → a ∉ w'.φ k := by
  induction rs with
  | nil =>
    intro vs fp w H M m h
    cases h
    exact ⟨w, Ext.refl m, m, .nil, List.nodup_nil, fun _ z => nomatch z⟩
  | cons r rs ih =>
    intro vs fp w H M m h
    cases h with
    | @cons v vs _ _ f1 f2 h1 h2 dj =>
      cases r with
      | t x =>
        obtain ⟨w', e, m', q, nd, na⟩ := ih m h2
        have h1' := h1.stay e fun _ _ z => nomatch z
        exact ⟨w', e, m', .cons h1'.1 q, List.nodup_append.mpr ⟨h1'.2.1, nd, fun a ha b hb z => dj a ha (z ▸ hb)⟩, fun a ha => (List.mem_append.mp ha).elim (h1'.2.2 a) (na a)⟩
      | h k =>
        obtain ⟨w1, e1, m1, d1, _⟩ := settle m h1
        have hk : f1 = [] := h1.2.2
        subst hk
        obtain ⟨w', e, m', q, nd, na⟩ := ih m1 (h2.stay e1 fun _ _ z => nomatch z)
        exact ⟨w', e1.trans0 e, m', .cons (.d (d1.mono e.F)) q, nd, na⟩
def eLst (G : DenA) : Den := fun ρ M => (G ρ M).bind fun rs M1 => if rs.length ≤ 1000000 then .ok (.t (.lst (treesM rs M1).1)) (treesM rs M1).2 else .bad
def eTup (G : DenA) : Den := fun ρ M => (G ρ M).bind fun rs M1 => if rs.length ≤ 1000000 then .ok (.t (.tup (treesM rs M1).1)) (treesM rs M1).2 else .bad
theorem big_le {n : Nat} (h : n ≤ 1000000) : n ≤ sizeLine := Nat.le_trans h cap_le
theorem de_lst {es : List Expr} {G : DenA} (h : DA X W es G) : DE X W (.List es pos) (eLst G) := (pe_lst h).mono fun σ H Q h => by
  obtain ⟨w, ρ, M, m, er, p⟩ := h
  refine ⟨w, ρ, M, m, er, p.bindF.imp fun w1 H1 M1 rs _ _ z => ?_⟩
  obtain ⟨e1, m1, p1⟩ := z
  intro vs fp q hf
  replace p1 := p1 fp hf
  split at p1
  · rename_i hl
    refine ⟨by rw [q.length]; exact big_le hl, fun a ha => ?_⟩
    obtain ⟨w2, e2, m2, q2, nd, na⟩ := trees_ok m1 q
    refine p1 w2 _ ((e2.mono fun _ z => nomatch z).trans0 (Ext.new m2 ha)) (m2.new ha) _ (a :: fp) (RR.newL m2 ha q2 nd na) fun b hb => ?_
    rcases List.mem_cons.mp hb with rfl | hb
    · exact .inl (e1.there _ ha)
    · exact hf b hb
  · exact p1.elim
theorem de_tup {es : List Expr} {G : DenA} {x1 : Nat} (h : DA X W es G) : DE X W (.Tuple es x1 pos) (eTup G) := (pe_tup h).mono fun σ H Q h => by
  obtain ⟨w, ρ, M, m, er, p⟩ := h
  refine ⟨w, ρ, M, m, er, p.bindF.imp fun w1 H1 M1 rs _ _ z => ?_⟩
  obtain ⟨e1, m1, p1⟩ := z
  intro vs fp q hf
  replace p1 := p1 fp hf
  split at p1
  · rename_i hl
    refine ⟨by rw [q.length]; exact big_le hl, fun a ha => ?_⟩
    obtain ⟨w2, e2, m2, q2, nd, na⟩ := trees_ok m1 q
    refine p1 w2 _ ((e2.mono fun _ z => nomatch z).trans0 (Ext.new m2 ha)) (m2.new ha) _ (a :: fp) (RR.newT m2 ha q2 nd na) fun b hb => ?_
    rcases List.mem_cons.mp hb with rfl | hb
    · exact .inl (e1.there _ ha)
    · exact hf b hb
  · exact p1.elim
end
end DL

/-! DL4: comparisons, tests, and or not, conditional expressions -/
namespace DL
open PySem L2
section
variable {X : Cx} {W : WX} {σ : St} {fs gs : List Addr} {w w2 : Wd} {H H2 : Hp} {M M2 : Mst} {α β : Type}
variable {e a b c : Expr} {Fe Fa Fb Fc : Den} {Ta Tb : DenT} {pos : Pos}

theorem rr_bl {K : PySem.W.Frag} {mg : Mg} {v : V} {k : Bool} {fp : List Addr} (h : RR K mg w H M v (.t (.d (.bl k))) fp) : v = .bl k := by
  obtain ⟨h, _⟩ := h
  cases h with
  | d h => cases h; rfl
def eTB (F : Den) : DenT := fun ρ M => (F ρ M).bind fun r M' => match r with
  | .t (.d (.bl b)) => .ok b M'
  | _ => .bad
theorem rd_tb {F : Den} {Q : Bool → Hp → Prop} (h : rdT X W (eTB F) σ H Q) : rdE X W F σ H (fun x H' => ∃ k, x = .bl k ∧ Q k H') := by
  obtain ⟨w, ρ, M, m, er, p⟩ := h
  refine ⟨w, ρ, M, m, er, p.bindF.imp fun w1 H1 M1 r _ _ z => ?_⟩
  obtain ⟨e1, m1, p1⟩ := z
  intro v fp q hf
  replace p1 := p1 [] (fun _ z => nomatch z)
  split at p1
  · exact ⟨_, rr_bl q, p1.now m1⟩
  · exact p1.elim
theorem de_cmp {op : CmpOp} {r : R2} {g : R → R → Mst → Out R} (hr : OpR X (compareOp op) r) (hg : Op2 X g r) (ha : DE X W a Fa) (hb : DE X W b Fb) (hm : behindInMarks op b = false) : DE X W (.Compare a [op] [b] pos) (eSeq2 g Fa Fb) :=
  (pe_cmpR hr ha hb hm).mono fun _ _ _ h => rd_op hg h
theorem dt_cmp {op : CmpOp} {r : R2} {g : R → R → Mst → Out R} (hr : OpR X (compareOp op) r) (hg : Op2 X g r) (ha : DE X W a Fa) (hb : DE X W b Fb) (hm : behindInMarks op b = false) : DT X W (.Compare a [op] [b] pos) (eTB (eSeq2 g Fa Fb)) :=
  (pt_cmpR hr ha hb hm).mono fun _ _ _ h => rd_op hg (rd_tb h)
theorem dt_val (h : DE X W e Fe) (he : ∀ whole, isTrue e X.env whole = (do let v ← whole; standAt e.pos; holding [v] (truthy v)) := by intro _; rfl) : DT X W e (eTB Fe) :=
  (pt_val h he).mono fun _ _ _ h => rd_tb h

/-! ### truth -/
def truth : D → Option Bool
  | .non => some false
  | .bl b => some b
  | .int i => some (i != 0)
  | .str x => if x.length ≤ strCap then some ((x.length : Int) != 0) else none
  | .lst ds => some (!ds.isEmpty)
  | .tupP _ ds => some (!ds.isEmpty)
  | _ => none
def eTru (F : Den) : DenT := fun ρ M => (F ρ M).bind fun r M' => match truth (frzR M' r) with
  | some b => .ok b M'
  | none => .bad
theorem DpL.empty {F : Hp} {K : PySem.W.Frag} {mg : Mg} {vs : List V} {ds : List D} (h : DpL K mg F vs ds) : ds.isEmpty = vs.isEmpty := by cases h <;> rfl
theorem dt_tru (h : DE X W e Fe) (he : ∀ whole, isTrue e X.env whole = (do let v ← whole; standAt e.pos; holding [v] (truthy v)) := by intro _; rfl) : DT X W e (eTru Fe) :=
  (pt_truth h he).mono fun σ H Q h => by
    obtain ⟨w, ρ, M, m, er, p⟩ := h
    refine ⟨w, ρ, M, m, er, p.bindF.imp fun w1 H1 M1 r _ _ z => ?_⟩
    obtain ⟨e1, m1, p1⟩ := z
    intro v fp q hf
    replace p1 := p1 [] (fun _ z => nomatch z)
    split at p1
    · rename_i k hk
      refine ⟨k, ?_, p1.now m1⟩
      have s := seen m1 q
      unfold truth at hk
      split at hk
      · rename_i z; rw [z] at s; cases s; cases hk; rfl
      · rename_i z; rw [z] at s; cases s; cases hk; rfl
      · rename_i z; rw [z] at s; cases s; cases hk; rfl
      · rename_i z
        rw [z] at s; cases s
        split at hk
        · rename_i hl
          cases hk
          exact ⟨Nat.le_trans hl cap_le, rfl⟩
        · cases hk
      · rename_i z
        rw [z] at s
        cases s with
        | lst h l => cases hk; exact .inl ⟨_, SqL.of h, by rw [l.empty]⟩
      · rename_i z
        rw [z] at s
        cases s with
        | tupP h l => cases hk; exact .inr (.inl ⟨_, h.1, by rw [l.empty]⟩)
      · cases hk
    · exact p1.elim

/-! ### and, or, not as tests -/
def tAndD (Fa Fb : DenT) : DenT := fun ρ M => (Fa ρ M).bind fun k M1 => if k = true then Fb ρ M1 else .ok false M1
def tOrD (Fa Fb : DenT) : DenT := fun ρ M => (Fa ρ M).bind fun k M1 => if k = true then .ok true M1 else Fb ρ M1
def tNotD (Fa : DenT) : DenT := fun ρ M => (Fa ρ M).bind fun k M1 => .ok (!k) M1
theorem DW.dt (h : DW X W e Ta) : DT X W e Ta := PW.pt h
theorem dw_and1 (ha : DT X W a Ta) : DW X W (.BoolOp .And [a] pos) Ta := pw_and1 ha
theorem dw_or1 (ha : DT X W a Ta) : DW X W (.BoolOp .Or [a] pos) Ta := pw_or1 ha
variable {rest : List Expr}
theorem dw_and (ha : DT X W a Ta) (hb : DW X W (.BoolOp .And (b :: rest) pos) Tb) : DW X W (.BoolOp .And (a :: b :: rest) pos) (tAndD Ta Tb) :=
  (pw_and ha hb).mono fun σ H Q h => by
    obtain ⟨w, ρ, M, m, er, p⟩ := h
    refine ⟨w, ρ, M, m, er, p.bindF.imp fun w1 H1 M1 k _ _ z => ?_⟩
    obtain ⟨e1, m1, p1⟩ := z
    replace p1 := p1 [] (fun _ z => nomatch z)
    cases k with
    | true => exact ⟨w1, ρ, M1, m1, er.stay e1, p1⟩
    | false => exact p1.now m1
theorem dw_or (ha : DT X W a Ta) (hb : DW X W (.BoolOp .Or (b :: rest) pos) Tb) : DW X W (.BoolOp .Or (a :: b :: rest) pos) (tOrD Ta Tb) :=
  (pw_or ha hb).mono fun σ H Q h => by
    obtain ⟨w, ρ, M, m, er, p⟩ := h
    refine ⟨w, ρ, M, m, er, p.bindF.imp fun w1 H1 M1 k _ _ z => ?_⟩
    obtain ⟨e1, m1, p1⟩ := z
    replace p1 := p1 [] (fun _ z => nomatch z)
    cases k with
    | true => exact p1.now m1
    | false => exact ⟨w1, ρ, M1, m1, er.stay e1, p1⟩
theorem dt_not (ha : DT X W a Ta) : DT X W (.UnaryOp .Not a pos) (tNotD Ta) :=
  (pt_not ha).mono fun σ H Q h => by
    obtain ⟨w, ρ, M, m, er, p⟩ := h
    refine ⟨w, ρ, M, m, er, p.bindF.imp fun w1 H1 M1 k _ _ z => ?_⟩
    obtain ⟨e1, m1, p1⟩ := z
    exact (p1 [] (fun _ z => nomatch z)).now m1
/-! ### .. as values -/
def eAnd (Fa Fb : Den) : Den := fun ρ M => (eTB Fa ρ M).bind fun k M1 => if k = true then Fb ρ M1 else .ok (.t (.d (.bl false))) M1
def eOr (Fa Fb : Den) : Den := fun ρ M => (eTB Fa ρ M).bind fun k M1 => if k = true then .ok (.t (.d (.bl true))) M1 else Fb ρ M1
def eNot (Fa : Den) : Den := fun ρ M => (eTB Fa ρ M).bind fun k M1 => .ok (.t (.d (.bl !k))) M1
theorem de_one {op : BoolOp} (h : DE X W a Fa) : DE X W (.BoolOp op [a] pos) Fa := pe_one h
theorem rd_tb' {F : Den} {Q : VK} {k : Bool → Mst → Out R} (h : rdE X W (fun ρ M => (eTB F ρ M).bind k) σ H Q) (kk : ∀ w1 ρ M1 H1 c, MR X.K X.mg w1 H1 M1 → ER X.K X.mg w1 M1 σ ρ → Post X W σ [] w1 H1 M1 (k c M1) (CE X [] w1 H1 M1 Q) → True) : True := trivial
theorem de_and (ha : DE X W a Fa) (hb : DE X W (.BoolOp .And (b :: rest) pos) Fb) : DE X W (.BoolOp .And (a :: b :: rest) pos) (eAnd Fa Fb) :=
  (pe_and ha hb).mono fun σ H Q h => by
    obtain ⟨w, ρ, M, m, er, p⟩ := h
    refine rd_tb (Q := fun c H1 => if c = true then rdE X W Fb σ H1 Q else Q (.bl false) H1) ⟨w, ρ, M, m, er, p.bindF.imp fun w1 H1 M1 k _ _ z => ?_⟩
    obtain ⟨e1, m1, p1⟩ := z
    replace p1 := p1 [] (fun _ z => nomatch z)
    cases k with
    | true =>
      rw [if_pos rfl]
      exact ⟨w1, ρ, M1, m1, er.stay e1, Post.imp p1 fun _ _ _ _ _ _ q => q.from e1 fun _ z => nomatch z⟩
    | false =>
      rw [if_neg Bool.false_ne_true]
      exact (p1.now m1) _ [] (rr_d (.bl _)) fun _ z => nomatch z
theorem de_or (ha : DE X W a Fa) (hb : DE X W (.BoolOp .Or (b :: rest) pos) Fb) : DE X W (.BoolOp .Or (a :: b :: rest) pos) (eOr Fa Fb) :=
  (pe_or ha hb).mono fun σ H Q h => by
    obtain ⟨w, ρ, M, m, er, p⟩ := h
    refine rd_tb (Q := fun c H1 => if c = true then Q (.bl true) H1 else rdE X W Fb σ H1 Q) ⟨w, ρ, M, m, er, p.bindF.imp fun w1 H1 M1 k _ _ z => ?_⟩
    obtain ⟨e1, m1, p1⟩ := z
    replace p1 := p1 [] (fun _ z => nomatch z)
    cases k with
    | true =>
      rw [if_pos rfl]
      exact (p1.now m1) _ [] (rr_d (.bl _)) fun _ z => nomatch z
    | false =>
      rw [if_neg Bool.false_ne_true]
      exact ⟨w1, ρ, M1, m1, er.stay e1, Post.imp p1 fun _ _ _ _ _ _ q => q.from e1 fun _ z => nomatch z⟩
theorem de_not (ha : DE X W a Fa) : DE X W (.UnaryOp .Not a pos) (eNot Fa) :=
  (pe_not ha).mono fun σ H Q h => by
    obtain ⟨w, ρ, M, m, er, p⟩ := h
    refine rd_tb (Q := fun c H1 => Q (.bl !c) H1) ⟨w, ρ, M, m, er, p.bindF.imp fun w1 H1 M1 k _ _ z => ?_⟩
    obtain ⟨e1, m1, p1⟩ := z
    exact ((p1 [] (fun _ z => nomatch z)).now m1) _ [] (rr_d (.bl _)) fun _ z => nomatch z
def eIf (T : DenT) (Fa Fb : Den) : Den := fun ρ M => (T ρ M).bind fun k M1 => if k = true then Fa ρ M1 else Fb ρ M1
theorem de_if (hc : DT X W c Ta) (ha : DE X W a Fa) (hb : DE X W b Fb) : DE X W (.IfExp c a b pos) (eIf Ta Fa Fb) :=
  (pe_ifExp hc ha hb).mono fun σ H Q h => by
    obtain ⟨w, ρ, M, m, er, p⟩ := h
    refine ⟨w, ρ, M, m, er, p.bindF.imp fun w1 H1 M1 k _ _ z => ?_⟩
    obtain ⟨e1, m1, p1⟩ := z
    replace p1 := p1 [] (fun _ z => nomatch z)
    cases k with
    | true => exact ⟨w1, ρ, M1, m1, er.stay e1, Post.imp p1 fun _ _ _ _ _ _ q => q.from e1 fun _ z => nomatch z⟩
    | false => exact ⟨w1, ρ, M1, m1, er.stay e1, Post.imp p1 fun _ _ _ _ _ _ q => q.from e1 fun _ z => nomatch z⟩

/-! ### a < b < c -/
def dat : R → Option D
  | .t (.d x) => some x
  | _ => none
def eChain (g g' : R → R → Mst → Out R) (Fa Fb Fc : Den) : Den := fun ρ M => (Fa ρ M).bind fun x M1 => (Fb ρ M1).bind fun y M2 => match dat x, dat y with
  | some x, some y => (g (.t (.d x)) (.t (.d y)) M2).bind fun z M3 => match dat z with
    | some (.bl k) => if k = true then (Fc ρ M3).bind fun u M4 => g' (.t (.d y)) u M4 else .ok (.t (.d (.bl false))) M3
    | _ => .bad
  | _, _ => .bad
theorem dat_eq {r : R} {x : D} (h : dat r = some x) : r = .t (.d x) := by
  unfold dat at h
  split at h
  · cases h; rfl
  · cases h
theorem rr_dat {K : PySem.W.Frag} {mg : Mg} {v : V} {x : D} {fp : List Addr} (h : RR K mg w H M v (.t (.d x)) fp) : Dp K mg w.F v x ∧ fp = [] := by
  obtain ⟨h, _⟩ := h
  cases h with
  | d h => exact ⟨h, rfl⟩
theorem rd_chain {g g' : R → R → Mst → Out R} {r r' : R2} (hg : Op2 X g r) (hg' : Op2 X g' r') {Q : VK} (h : rdE X W (eChain g g' Fa Fb Fc) σ H Q) : tChain r r' (rdE X W Fa) (rdE X W Fb) (rdE X W Fc) σ H Q := by
  obtain ⟨w, ρ, M, m, er, p⟩ := h
  refine ⟨w, ρ, M, m, er, p.bindF.imp fun w1 H1 M1 x _ _ z => ?_⟩
  obtain ⟨e1, m1, p1⟩ := z
  intro v1 f1 q1 hf1
  refine ⟨w1, ρ, M1, m1, er.stay e1, (p1 [] fun _ z => nomatch z).bindF.imp fun w2 H2 M2 y _ _ z => ?_⟩
  obtain ⟨e2, m2, p2⟩ := z
  intro v2 f2 q2 hf2
  replace p2 := p2 [] fun _ z => nomatch z
  split at p2
  · rename_i dx dy hx hy
    have hx := dat_eq hx; subst hx
    have hy := dat_eq hy; subst hy
    obtain ⟨a1, rfl⟩ := rr_dat q1
    obtain ⟨a2, rfl⟩ := rr_dat q2
    have e12 : Ext [] w H M w2 H2 M2 := e1.trans0 e2
    have er2 := er.stay e12
    refine hg W σ w2 H2 M2 v1 v2 _ _ [] [] _ m2 (rr_d (Dp.mono e2.F a1)) (rr_d a2) (fun _ z => nomatch z) (p2.bindF.imp fun w3 H3 M3 z _ _ q => ?_)
    obtain ⟨e3, m3, p3⟩ := q
    intro v3 f3 q3 hf3
    replace p3 := p3 [] fun _ z => nomatch z
    split at p3
    · rename_i k hk
      have hk := dat_eq hk; subst hk
      refine ⟨k, rr_bl q3, ?_⟩
      have e13 := e12.trans0 e3
      cases k with
      | true =>
        rw [if_pos rfl]
        refine ⟨w3, ρ, M3, m3, er2.stay e3, (Post.bindF p3).imp fun w4 H4 M4 u _ _ q => ?_⟩
        obtain ⟨e4, m4, p4⟩ := q
        intro v4 f4 q4 hf4
        refine hg' W σ w4 H4 M4 v2 v4 _ _ [] f4 _ m4 (rr_d (Dp.mono (e3.F.trans e4.F) a2)) q4 (fun _ z => nomatch z) ?_
        refine (p4 f4 hf4).imp fun _ _ _ _ _ _ q => q.from (e13.trans0 e4) fun a ha => e13.pm (gs := []) (fun _ z => nomatch z) (hf4 a ha)
      | false =>
        rw [if_neg Bool.false_ne_true]
        exact (p3.now m3) _ [] (rr_d (.bl _)) fun _ z => nomatch z
    · exact p3.elim
  · exact p2.elim
theorem de_chain {op op' : CmpOp} {g g' : R → R → Mst → Out R} {r r' : R2} (hr : OpR X (compareOp op) r) (hr' : OpR X (compareOp op') r') (hg : Op2 X g r) (hg' : Op2 X g' r') (ha : DE X W a Fa) (hb : DE X W b Fb) (hc : DE X W c Fc)
    (hm : lastMarks [op, op'] [b, c] = false := by with_unfolding_all rfl) : DE X W (.Compare a [op, op'] [b, c] pos) (eChain g g' Fa Fb Fc) := (pe_chain hr hr' ha hb hc hm).mono fun _ _ _ h => rd_chain hg hg' h
theorem dt_chain {op op' : CmpOp} {g g' : R → R → Mst → Out R} {r r' : R2} (hr : OpR X (compareOp op) r) (hr' : OpR X (compareOp op') r') (hg : Op2 X g r) (hg' : Op2 X g' r') (ha : DE X W a Fa) (hb : DE X W b Fb) (hc : DE X W c Fc)
    (hm : lastMarks [op, op'] [b, c] = false := by with_unfolding_all rfl) : DT X W (.Compare a [op, op'] [b, c] pos) (eTB (eChain g g' Fa Fb Fc)) := (pt_chain hr hr' ha hb hc hm).mono fun _ _ _ h => rd_chain hg hg' (rd_tb h)
/-! ### one operand -/
def eSeq1 (g : R → Mst → Out R) (F : Den) : Den := fun ρ M => (F ρ M).bind g
def Op1 (X : Cx) (g : R → Mst → Out R) (r : V → Hp → VK → Prop) : Prop := ∀ (W : WX) (σ : St) (w : Wd) (H : Hp) (M : Mst) (x : V) (r1 : R) (f1 : List Addr) (Q : VK), MR X.K X.mg w H M →
  RR X.K X.mg w H M x r1 f1 → Post X W σ f1 w H M (g r1 M) (CE X f1 w H M Q) → r x H Q
theorem rd_un {g : R → Mst → Out R} {r : V → Hp → VK → Prop} (hg : Op1 X g r) {Q : VK} (h : rdE X W (eSeq1 g Fa) σ H Q) : tUn r (rdE X W Fa) σ H Q := by
  obtain ⟨w, ρ, M, m, er, p⟩ := h
  refine ⟨w, ρ, M, m, er, p.bindF.imp fun w1 H1 M1 x _ _ z => ?_⟩
  obtain ⟨e1, m1, p1⟩ := z
  intro v1 f1 q1 hf1
  exact hg W σ w1 H1 M1 v1 x f1 Q m1 q1 ((p1 f1 hf1).imp fun _ _ _ _ _ _ q => q.from e1 hf1)
theorem de_un {op : UnaryOp} {r : V → Hp → VK → Prop} {g : R → Mst → Out R} (hr : UnR X (unaryOp op) r) (hg : Op1 X g r) (ha : DE X W a Fa) : DE X W (.UnaryOp op a pos) (eSeq1 g Fa) :=
  (pe_un hr ha).mono fun _ _ _ h => rd_un hg h
def sc1 (h : D → Option D) : R → Mst → Out R := fun r1 M => match h (frzR M r1) with
  | some x => .ok (.t (.d x)) M
  | none => .bad
theorem op1_sc {h : D → Option D} {r : V → Hp → VK → Prop} (hh : ∀ (F : Hp) (H : Hp) (x : V) (d1 d : D) (Q : VK), Dp X.K X.mg H x d1 → h d1 = some d → (∀ v, Dp X.K X.mg F v d → Q v H) → r x H Q) : Op1 X (sc1 h) r := by
  intro W σ w H M x r1 f1 Q m q1 p
  unfold sc1 at p
  split at p
  · rename_i d hd
    exact hh w.F H x _ d Q (seen m q1) hd fun v hv => (p.now m).val (C := fun _ => r1) hv
  · exact p.elim
def iNeg : D → Option D
  | .int i => some (.int (-i))
  | _ => none
theorem op1_neg : Op1 X (sc1 iNeg) (rU fun i => .int (-i)) := op1_sc fun F H x d1 d Q h hd q => by
  unfold iNeg at hd
  split at hd
  · cases h; cases hd; exact ⟨_, rfl, q _ (.int _)⟩
  · cases hd
end
end DL

/-! DL5: statements, targets -/
namespace DL
open PySem L2
inductive Fl where
  | nx (ρ : Ev) | rt (r : R) | bk (ρ : Ev) | ct (ρ : Ev) | xc (e : Exc) (ρ : Ev)
abbrev DenS := Ev → Mst → Option (Fl × Mst)
abbrev DenG := R → Ev → Mst → Option (Ev × Mst)
def bindS {α : Type} (o : Out α) (ρ : Ev) (k : α → Mst → Option (Fl × Mst)) : Option (Fl × Mst) := match o with
  | .ok a M => k a M
  | .exc e M => some (.xc e ρ, M)
  | .bad => none
def PostF (X : Cx) (W : WX) (fs : List Addr) (w : Wd) (H : Hp) (M : Mst) (Dn : Ends) : Fl → Mst → Prop
  | .nx ρ', M' => ∀ w' H' σ', Ext fs w H M w' H' M' → MR X.K X.mg w' H' M' → ER X.K X.mg w' M' σ' ρ' → Dn.nx σ' H'
  | .bk ρ', M' => ∀ w' H' σ', Ext fs w H M w' H' M' → MR X.K X.mg w' H' M' → ER X.K X.mg w' M' σ' ρ' → Dn.bk σ' H'
  | .ct ρ', M' => ∀ w' H' σ', Ext fs w H M w' H' M' → MR X.K X.mg w' H' M' → ER X.K X.mg w' M' σ' ρ' → Dn.ct σ' H'
  | .rt r, M' => ∀ w' H' v fp, Ext fs w H M w' H' M' → MR X.K X.mg w' H' M' → RR X.K X.mg w' H' M' v r fp → (∀ a ∈ fp, Pm fs w H M a) → Dn.rt v H'
  | .xc e ρ', M' => ∀ w' H' σ' cls d, Ext fs w H M w' H' M' → MR X.K X.mg w' H' M' → ER X.K X.mg w' M' σ' ρ' → XR X.K X.mg w' H' cls d e → W cls d σ' H'
def PostS (X : Cx) (W : WX) (fs : List Addr) (w : Wd) (H : Hp) (M : Mst) (o : Option (Fl × Mst)) (Dn : Ends) : Prop := match o with
  | some (f, M') => PostF X W fs w H M Dn f M'
  | none => False
def PostG (X : Cx) (fs : List Addr) (w : Wd) (H : Hp) (M : Mst) (o : Option (Ev × Mst)) (Q : St → Hp → Prop) : Prop := match o with
  | some (ρ', M') => ∀ w' H' σ', Ext fs w H M w' H' M' → MR X.K X.mg w' H' M' → ER X.K X.mg w' M' σ' ρ' → Q σ' H'
  | none => False
def rdS (X : Cx) (W : WX) (F : DenS) : TS := fun Dn σ H => ∃ w ρ M, MR X.K X.mg w H M ∧ ER X.K X.mg w M σ ρ ∧ PostS X W [] w H M (F ρ M) Dn
def rdG (X : Cx) (W : WX) (G : DenG) : TG := fun v σ H Q => ∃ w ρ M r fp, MR X.K X.mg w H M ∧ ER X.K X.mg w M σ ρ ∧ RR X.K X.mg w H M v r fp ∧
  PostG X fp w H M (G r ρ M) Q
def DS (X : Cx) (W : WX) (st : Stmt) (F : DenS) : Prop := PS X st (rdS X W F)
def DB (X : Cx) (W : WX) (st : List Stmt) (F : DenS) : Prop := PSs X st (rdS X W F)
def DG (X : Cx) (W : WX) (tg : Expr) (G : DenG) : Prop := PG X tg (rdG X W G)
section
variable {X : Cx} {W : WX} {σ : St} {fs gs : List Addr} {w w2 : Wd} {H H2 : Hp} {M M2 : Mst} {α β : Type}
variable {e a b c : Expr} {Fe Fa Fb Fc : Den} {Ta Tb : DenT} {pos : Pos} {st : Stmt} {rest sa sb : List Stmt} {F G : DenS} {Dn : Ends}
theorem PostF.from {f : Fl} {M' : Mst} (h : PostF X W fs w H M Dn f M') (e : Ext fs w H M w2 H2 M2) (hg : ∀ a ∈ gs, Pm fs w H M a) : PostF X W gs w2 H2 M2 Dn f M' := by
  cases f with
  | nx ρ => exact fun w' H' σ' e' m er => h w' H' σ' (e.trans e' hg) m er
  | bk ρ => exact fun w' H' σ' e' m er => h w' H' σ' (e.trans e' hg) m er
  | ct ρ => exact fun w' H' σ' e' m er => h w' H' σ' (e.trans e' hg) m er
  | rt r => exact fun w' H' v fp e' m q hp => h w' H' v fp (e.trans e' hg) m q fun a ha => e.pm hg (hp a ha)
  | xc x ρ => exact fun w' H' σ' c d e' m er z => h w' H' σ' c d (e.trans e' hg) m er z
theorem PostS.from {o : Option (Fl × Mst)} (h : PostS X W fs w H M o Dn) (e : Ext fs w H M w2 H2 M2) (hg : ∀ a ∈ gs, Pm fs w H M a) : PostS X W gs w2 H2 M2 o Dn := by
  cases o with
  | none => exact h
  | some p => obtain ⟨f, M'⟩ := p; exact PostF.from h e hg
theorem PostS.bindF {o : Out α} {ρ : Ev} {k : α → Mst → Option (Fl × Mst)} (h : PostS X W fs w H M (bindS o ρ k) Dn) (er : ER X.K X.mg w M σ ρ) :
    Post X W σ [] w H M o (fun w1 H1 M1 a => Ext [] w H M w1 H1 M1 ∧ MR X.K X.mg w1 H1 M1 ∧ ∀ gs, (∀ b ∈ gs, Pm fs w H M b) → PostS X W gs w1 H1 M1 (k a M1) Dn) := by
  cases o with
  | ok a M' => exact fun w1 H1 e1 m1 => ⟨e1, m1, fun gs hg => PostS.from h (e1.mono fun _ z => nomatch z) hg⟩
  | exc x M' => exact fun w1 H1 c d e1 m1 z => h w1 H1 σ c d (e1.mono fun _ z => nomatch z) m1 (er.stay e1) z
  | bad => exact h
theorem PostS.nx {ρ' : Ev} {σ' : St} (h : PostS X W fs w H M (some (.nx ρ', M)) Dn) (m : MR X.K X.mg w H M) (er : ER X.K X.mg w M σ' ρ') : Dn.nx σ' H := h w H σ' (Ext.refl m) m er

theorem PostG.from {o : Option (Ev × Mst)} {Q : St → Hp → Prop} (h : PostG X fs w H M o Q) (e : Ext fs w H M w2 H2 M2) (hg : ∀ a ∈ gs, Pm fs w H M a) : PostG X gs w2 H2 M2 o Q := by
  cases o with
  | none => exact h
  | some p => exact fun w' H' σ' e' m er => h w' H' σ' (e.trans e' hg) m er
/-! ### blocks -/
def sNil : DenS := fun ρ M => some (.nx ρ, M)
def sBad : DenS := fun _ _ => none
def sSeq (F G : DenS) : DenS := fun ρ M => match F ρ M with
  | some (.nx ρ', M') => G ρ' M'
  | o => o
theorem rd_seq (h : rdS X W (sSeq F G) Dn σ H) : tSeq (rdS X W F) (rdS X W G) Dn σ H := by
  obtain ⟨w, ρ, M, m, er, p⟩ := h
  refine ⟨w, ρ, M, m, er, ?_⟩
  unfold sSeq at p
  cases z : F ρ M with
  | none => rw [z] at p; exact p
  | some q =>
    obtain ⟨f, M'⟩ := q
    rw [z] at p
    cases f with
    | nx ρ' => exact fun w' H' σ' e' m' er' => ⟨w', ρ', M', m', er', PostS.from p e' fun _ z => nomatch z⟩
    | bk ρ' => exact p
    | ct ρ' => exact p
    | rt r => exact p
    | xc x ρ' => exact p
theorem db_nil : DB X W [] sNil := pss_nil.mono fun Dn σ H h => by
  obtain ⟨w, ρ, M, m, er, p⟩ := h
  exact p.nx m er
theorem db_cons (h1 : DS X W st F) (h2 : DB X W rest G) : DB X W (st :: rest) (sSeq F G) := (pss_cons h1 h2).mono fun _ _ _ h => rd_seq h
theorem db_one (h1 : DS X W st F) : DB X W [st] F := pss_one h1
theorem ds_never : DS X W st sBad := ps_never.mono fun Dn σ H h => by
  obtain ⟨w, ρ, M, m, er, p⟩ := h
  exact p
theorem db_never : DB X W rest sBad := pss_never.mono fun Dn σ H h => by
  obtain ⟨w, ρ, M, m, er, p⟩ := h
  exact p
theorem ds_pass : DS X W (.Pass pos) sNil := ps_pass.mono fun Dn σ H h => by
  obtain ⟨w, ρ, M, m, er, p⟩ := h
  exact p.nx m er
def sBreak : DenS := fun ρ M => some (.bk ρ, M)
def sCont : DenS := fun ρ M => some (.ct ρ, M)
theorem ds_break : DS X W (.Break pos) sBreak := ps_break.mono fun Dn σ H h => by
  obtain ⟨w, ρ, M, m, er, p⟩ := h
  exact p w H σ (Ext.refl m) m er
theorem ds_cont : DS X W (.Continue pos) sCont := ps_continue.mono fun Dn σ H h => by
  obtain ⟨w, ρ, M, m, er, p⟩ := h
  exact p w H σ (Ext.refl m) m er
def sExpr (F : Den) : DenS := fun ρ M => bindS (F ρ M) ρ fun _ M1 => some (.nx ρ, M1)
theorem ds_expr (h : DE X W e Fe) (hs : swapsWith e none pos.line X.env = pure false := by rfl) : DS X W (.Expr e pos) (sExpr Fe) := (ps_expr h hs).mono fun Dn σ H h => by
  obtain ⟨w, ρ, M, m, er, p⟩ := h
  refine ⟨w, ρ, M, m, er, (p.bindF er).imp fun w1 H1 M1 r _ _ z => ?_⟩
  obtain ⟨e1, m1, p1⟩ := z
  intro v fp q hf
  exact (p1 [] fun _ z => nomatch z).nx m1 (er.stay e1)
def sRet (F : Den) : DenS := fun ρ M => bindS (F ρ M) ρ fun r M1 => some (.rt r, M1)
theorem ds_ret (h : DE X W e Fe) : DS X W (.Return (some e) pos) (sRet Fe) := (ps_ret h).mono fun Dn σ H h => by
  obtain ⟨w, ρ, M, m, er, p⟩ := h
  refine ⟨w, ρ, M, m, er, (p.bindF er).imp fun w1 H1 M1 r _ _ z => ?_⟩
  obtain ⟨e1, m1, p1⟩ := z
  intro v fp q hf
  exact p1 fp hf w1 H1 v fp (Ext.refl m1) m1 q fun a ha => .inr (.inr ha)
def sRetN : DenS := fun _ M => some (.rt (.t (.d .non)), M)
theorem ds_retN : DS X W (.Return none pos) sRetN := ps_retN.mono fun Dn σ H h => by
  obtain ⟨w, ρ, M, m, er, p⟩ := h
  exact p w H .non [] (Ext.refl m) m (rr_d .non) fun _ z => nomatch z
def sIf (T : DenT) (F G : DenS) : DenS := fun ρ M => bindS (T ρ M) ρ fun k M1 => if k = true then F ρ M1 else G ρ M1
theorem ds_if (hc : DT X W c Ta) (ha : DB X W sa F) (hb : DB X W sb G) : DS X W (.If c sa sb pos) (sIf Ta F G) := (ps_if hc ha hb).mono fun Dn σ H h => by
  obtain ⟨w, ρ, M, m, er, p⟩ := h
  refine ⟨w, ρ, M, m, er, (p.bindF er).imp fun w1 H1 M1 k _ _ z => ?_⟩
  obtain ⟨e1, m1, p1⟩ := z
  replace p1 := p1 [] fun _ z => nomatch z
  cases k with
  | true => exact ⟨w1, ρ, M1, m1, er.stay e1, p1⟩
  | false => exact ⟨w1, ρ, M1, m1, er.stay e1, p1⟩

/-! ### targets -/
def svR : R → SV
  | .h k => .h k
  | .t x => .d (frz x)
theorem settleV {v : V} {r : R} {fp : List Addr} (m : MR X.K X.mg w H M) (h : RR X.K X.mg w H M v r fp) :
    ∃ w', Ext fp w H M w' H M ∧ MR X.K X.mg w' H M ∧ VR X.K X.mg w' M v (svR r) ∧ w'.α = w.α := by
  cases r with
  | h k => exact ⟨w, Ext.refl m, m, ⟨h.1, h.2.1⟩, rfl⟩
  | t x => exact settle m h
def gSet (i : Nat) : DenG := fun r ρ M => some (ρ.set i (some (svR r)), M)
theorem rd_set {i : Nat} {v : V} {Q : St → Hp → Prop} (h : rdG X W (gSet i) v σ H Q) : gName i v σ H Q := by
  obtain ⟨w, ρ, M, r, fp, m, er, q, p⟩ := h
  obtain ⟨w', e, m', hv, _⟩ := settleV m q
  exact p w' H _ e m' ((er.stay e).set hv)
/-- a mutable object of one's own -/
def gSetM (i : Nat) : DenG := fun r ρ M => match r with
  | .h k => some (ρ.set i (some (.h k)), M)
  | .t (.d x) => some (ρ.set i (some (.d x)), M)
  | .t x => some (ρ.set i (some (.h M.length)), M ++ [x])
theorem keepM {v : V} {x : T} {fp : List Addr} (m : MR X.K X.mg w H M) (h : RR X.K X.mg w H M v (.t x) fp) {p : Addr} (hv : v = .ref p) :
    ∃ w', Ext fp w H M w' H (M ++ [x]) ∧ MR X.K X.mg w' H (M ++ [x]) ∧ VR X.K X.mg w' (M ++ [x]) v (.h M.length) := by
  obtain ⟨h1, h2, h3⟩ := h
  subst hv
  refine ⟨⟨w.F, fun k => if k = M.length then p else w.α k, fun k => if k = M.length then fp else w.φ k⟩, ⟨Same.refl _, by simp, fun k hk => if_neg (Nat.ne_of_lt hk), fun _ _ q _ => q, fun k hk a ha => ?_, fun a z => .inl z, fun _ z => z⟩, ⟨m.sub, fun k t e => ?_, fun j k a hj hk h1' h2' => ?_⟩, ?_⟩
  · have ha : a ∈ (if k = M.length then fp else w.φ k) := ha
    split at ha
    · exact .inr (.inr ha)
    · exact .inr (.inl ⟨k, by simp at hk; omega, ha⟩)
  · by_cases hk : k = M.length
    · subst hk
      rw [List.getElem?_append_right (Nat.le_refl _)] at e
      simp at e
      subst e
      show TR X.K X.mg w.F H (.ref (if M.length = M.length then p else _)) _ (if M.length = M.length then fp else _) ∧ (if M.length = M.length then fp else _).Nodup
      rw [if_pos rfl, if_pos rfl]
      exact ⟨h1, h2⟩
    · have hl : k < M.length := by
        have := (List.getElem?_eq_some_iff.mp e).1
        simp at this; omega
      rw [List.getElem?_append_left hl] at e
      show TR X.K X.mg w.F H (.ref (if k = M.length then p else _)) _ (if k = M.length then fp else _) ∧ (if k = M.length then fp else _).Nodup
      rw [if_neg hk, if_neg hk]
      exact m.obj k t e
  · have h1' : a ∈ (if j = M.length then fp else w.φ j) := h1'
    have h2' : a ∈ (if k = M.length then fp else w.φ k) := h2'
    simp at hj hk
    split at h1'
    · split at h2'
      · omega
      · exact absurd h2' (h3 a h1' k (by omega))
    · split at h2'
      · exact absurd h1' (h3 a h2' j (by omega))
      · exact m.dis j k a (by omega) (by omega) h1' h2'
  · refine ⟨by simp, ?_⟩
    show V.ref p = .ref (if M.length = M.length then p else _)
    rw [if_pos rfl]
theorem rd_setM {i : Nat} {v : V} {Q : St → Hp → Prop} (h : rdG X W (gSetM i) v σ H Q) : gName i v σ H Q := by
  obtain ⟨w, ρ, M, r, fp, m, er, q, p⟩ := h
  have go : ∀ x : T, r = .t x → (∃ p, v = .ref p) → PostG X fp w H M (some (ρ.set i (some (.h M.length)), M ++ [x])) Q → gName i v σ H Q := fun x hr ⟨a, hv⟩ p' => by
    subst hr
    obtain ⟨w', e, m', hv⟩ := keepM m q hv
    exact p' w' H _ e m' ((er.stay e).set hv)
  cases r with
  | h k => exact p w H _ (Ext.refl m) m (er.set (x := .h k) ⟨q.1, q.2.1⟩)
  | t x =>
    cases x with
    | d x =>
      obtain ⟨q, _⟩ := q
      cases q with
      | d q => exact p w H _ (Ext.refl m) m (er.set (x := .d x) q)
    | lst ts => exact go _ rfl (by cases q.1; exact ⟨_, rfl⟩) p
    | tup ts => exact go _ rfl (by cases q.1; exact ⟨_, rfl⟩) p
    | ins c ts => exact go _ rfl (by cases q.1; exact ⟨_, rfl⟩) p
    | dic _ => exact go _ rfl (by cases q.1; exact ⟨_, rfl⟩) p
    | tbl _ _ => exact go _ rfl (by cases q.1; exact ⟨_, rfl⟩) p
theorem dg_name {x : Str} (i : Nat) (h : PG X (.Name x pos) (gName i)) : DG X W (.Name x pos) (gSet i) := ⟨fun pins s σ H v u Q I r q => h.run pins s σ H v u Q I r (rd_set q)⟩
theorem dg_nameM {x : Str} (i : Nat) (h : PG X (.Name x pos) (gName i)) : DG X W (.Name x pos) (gSetM i) := ⟨fun pins s σ H v u Q I r q => h.run pins s σ H v u Q I r (rd_setM q)⟩
def sAsg (F : Den) (G : DenG) : DenS := fun ρ M => bindS (F ρ M) ρ fun r M1 => match G r ρ M1 with
  | some (ρ', M2) => some (.nx ρ', M2)
  | none => none
theorem rd_asg {g : TG} {Gd : DenG} (hg : ∀ v σ H Q, rdG X W Gd v σ H Q → g v σ H Q) (h : rdS X W (sAsg Fe Gd) Dn σ H) : tAsg (rdE X W Fe) g Dn σ H := by
  obtain ⟨w, ρ, M, m, er, p⟩ := h
  refine ⟨w, ρ, M, m, er, (p.bindF er).imp fun w1 H1 M1 r _ _ z => ?_⟩
  obtain ⟨e1, m1, p1⟩ := z
  intro v fp q hf
  refine hg _ _ _ _ ⟨w1, ρ, M1, r, fp, m1, er.stay e1, q, ?_⟩
  have p2 := p1 fp hf
  cases z : Gd r ρ M1 with
  | some q => rw [z] at p2; exact p2
  | none => rw [z] at p2; exact p2
theorem ds_set {i : Nat} {x : Str} {pos' : Pos} (hN : X.N.Nodup) (hi : X.N[i]? = some x) (hx : Loc X.env.scope x) (he : DE X W e Fe) (hs : swapsWith e (some (.Name x pos')) pos.line X.env = pure false := by rfl) (hf : X.fn x = true ∨ X.env.scope.names.lookup x = some .local := by first | exact .inl rfl | exact .inr rfl | assumption) :
    DS X W (.Assign [.Name x pos'] e pos) (sAsg Fe (gSet i)) := (ps_set hN hi hx he hs hf).mono fun _ _ _ h => rd_asg (fun _ _ _ _ => rd_set) h
theorem ds_setM {i : Nat} {x : Str} {pos' : Pos} (hN : X.N.Nodup) (hi : X.N[i]? = some x) (hx : Loc X.env.scope x) (he : DE X W e Fe) (hs : swapsWith e (some (.Name x pos')) pos.line X.env = pure false := by rfl) (hf : X.fn x = true ∨ X.env.scope.names.lookup x = some .local := by first | exact .inl rfl | exact .inr rfl | assumption) :
    DS X W (.Assign [.Name x pos'] e pos) (sAsg Fe (gSetM i)) := (ps_set hN hi hx he hs hf).mono fun _ _ _ h => rd_asg (fun _ _ _ _ => rd_setM) h
theorem ds_asg {tg : Expr} {Gd : DenG} (he : DE X W e Fe) (hg : DG X W tg Gd) (hs : swapsWithSole [tg] e pos.line X.env = pure false := by rfl) (hw : swappedStores [tg] e X.env = pure none := by rfl)
    (h1 : (assignEach [tg] X.env).map (·.2) = [assign tg X.env] := by rfl) : DS X W (.Assign [tg] e pos) (sAsg Fe Gd) := (ps_asg he hg hs hw h1).mono fun _ _ _ h => rd_asg (fun _ _ _ _ q => q) h

/-! ### a, b, .. = a tuple -/
abbrev DenGs := List T → Ev → Mst → Option (Ev × Mst)
def rdGs (X : Cx) (W : WX) (G : DenGs) : TGs := fun vs σ H Q => ∃ w ρ M ts fp, MR X.K X.mg w H M ∧ ER X.K X.mg w M σ ρ ∧ TRL X.K X.mg w.F H vs ts fp ∧ fp.Nodup ∧ (∀ a ∈ fp, ∀ k, k < M.length → a ∉ w.φ k) ∧
  PostG X fp w H M (G ts ρ M) Q
def DGs (X : Cx) (W : WX) (tg : List Expr) (G : DenGs) : Prop := PGs X tg (rdGs X W G)
def gNilD : DenGs := fun ts ρ M => if ts.isEmpty then some (ρ, M) else none
def gConsD (G : DenG) (Gs : DenGs) : DenGs := fun ts ρ M => match ts with
  | t :: r => (match G (.t t) ρ M with
    | some (ρ', M') => Gs r ρ' M'
    | none => none)
  | [] => none
theorem _root_.L2.PGs.mono {es : List Expr} {t t' : TGs} (h : PGs X es t) (k : ∀ vs σ H Q, t' vs σ H Q → t vs σ H Q) : PGs X es t' := ⟨fun pins s σ H vs us Q I r q => h.run pins s σ H vs us Q I r (k _ _ _ _ q)⟩
theorem _root_.L2.PG.mono {es : Expr} {t t' : TG} (h : PG X es t) (k : ∀ vs σ H Q, t' vs σ H Q → t vs σ H Q) : PG X es t' := ⟨fun pins s σ H vs us Q I r q => h.run pins s σ H vs us Q I r (k _ _ _ _ q)⟩
theorem dgs_nil : DGs X W [] gNilD := pgs_nil.mono fun vs σ H Q h => by
  obtain ⟨w, ρ, M, ts, fp, m, er, q, nd, na, p⟩ := h
  unfold gNilD at p
  cases ts with
  | nil => cases q; exact ⟨rfl, p w H _ (Ext.refl m) m er⟩
  | cons t r => exact p.elim
/-- a target only writes the state that it is given -/
theorem dgs_cons {tg : Expr} {es : List Expr} {G : DenG} {Gs : DenGs} (h1 : DG X W tg G) (h2 : DGs X W es Gs)
    (hs : (assignEach (tg :: es) X.env).map (·.2) = assign tg X.env :: (assignEach es X.env).map (·.2) := by rfl) : DGs X W (tg :: es) (gConsD G Gs) := (pgs_cons h1 h2 hs).mono fun vs σ H Q h => by
  obtain ⟨w, ρ, M, ts, fp, m, er, q, nd, na, p⟩ := h
  cases q with
  | nil => exact p.elim
  | @cons v vs t ts f1 f2 q1 q2 =>
    obtain ⟨nd1, nd2, dj⟩ := List.nodup_append.mp nd
    have dj' : ∀ a ∈ f2, a ∉ f1 := fun a ha hb => dj a hb a ha rfl
    refine ⟨v, vs, rfl, w, ρ, M, .t t, f1, m, er, ⟨q1, nd1, fun a ha => na a (List.mem_append_left _ ha)⟩, ?_⟩
    have p : PostG X (f1 ++ f2) w H M (match G (.t t) ρ M with
      | some (ρ', M') => Gs ts ρ' M'
      | none => none) Q := p
    cases z : G (.t t) ρ M with
    | none => rw [z] at p; exact p
    | some q =>
      obtain ⟨ρ', M'⟩ := q
      rw [z] at p
      intro w' H' σ' e' m' er'
      have s2 : TRL X.K X.mg w'.F H' vs ts f2 ∧ ∀ a ∈ f2, ∀ k, k < M'.length → a ∉ w'.φ k := by
        have np : ∀ a ∈ f2, ¬ Pm f1 w H M a := fun a ha z => by
          obtain ⟨h1, o, h2⟩ := q2.fp a ha
          rcases z with z | ⟨j, hj, z⟩ | z
          · rw [h2] at z; cases z
          · exact na a (List.mem_append_right _ ha) j hj z
          · exact dj' a ha z
        refine ⟨q2.stay e'.F fun a ha => ⟨?_, fun o ho => e'.keep a o ho (np a ha)⟩, fun a ha k hk z => np a ha (e'.ph k hk a z)⟩
        cases q : w'.F a with
        | none => rfl
        | some o =>
          rcases e'.gr a (by rw [q]; exact fun z => nomatch z) with z | z
          · exact absurd (q2.fp a ha).1 z
          · exact absurd z (np a ha)
      refine ⟨w', ρ', M', ts, f2, m', er', s2.1, nd2, s2.2, ?_⟩
      have e2 : Ext (f1 ++ f2) w H M w' H' M' := e'.mono fun a ha => List.mem_append_left _ ha
      have p : PostG X (f1 ++ f2) w H M (Gs ts ρ' M') Q := p
      cases z3 : Gs ts ρ' M' with
      | none => rw [z3] at p; exact p
      | some q => rw [z3] at p; exact fun w3 H3 σ3 e3 m3 er3 => p w3 H3 σ3 (e2.trans e3 fun a ha => .inr (.inr (List.mem_append_right _ ha))) m3 er3
/-- the items of a tuple -/
def tupItems : R → Option (List T)
  | .t (.tup ts) => some ts
  | .t (.d (.tupP _ ds)) => some (ds.map T.d)
  | _ => none
def gTupD (n : Nat) (G : DenGs) : DenG := fun r ρ M => match tupItems r with
  | some ts => if ts.length = n then G ts ρ M else none
  | none => none
theorem dg_tup {es : List Expr} {k n : Nat} {G : DenGs} (hc : X.calm = true) (h : DGs X W es G) (hn : (assignEach es X.env).length = n := by rfl) (hst : (assignEach es X.env).findIdx? (·.1) = none := by rfl) : DG X W (.Tuple es k pos) (gTupD n G) :=
  (pg_tup hc h hn hst).mono fun v σ H Q h => by
    obtain ⟨w, ρ, M, r, fp, m, er, q, p⟩ := h
    unfold gTupD at p
    split at p
    · rename_i ts hts
      split at p
      · rename_i hl
        unfold tupItems at hts
        split at hts
        · cases hts
          obtain ⟨q1, nd, na⟩ := q
          cases q1 with
          | @tup a vs _ fp h n l =>
            exact ⟨a, vs, rfl, SqT.of h, by rw [l.length]; exact hl, w, ρ, M, _, fp, m, er, l, (List.nodup_cons.mp nd).2, fun b hb => na b (List.mem_cons_of_mem _ hb), p.from (Ext.refl m) fun b hb => .inr (.inr (List.mem_cons_of_mem _ hb))⟩
        · cases hts
          obtain ⟨q1, rfl⟩ := rr_dat q
          cases q1 with
          | @tupP _ a vs _ h l =>
            exact ⟨a, vs, rfl, Same.seqT m.sub h.1, by rw [l.length]; simpa using hl, w, ρ, M, _, [], m, er, l.trees, List.nodup_nil, (fun _ z => nomatch z), p⟩
        · cases hts
      · exact p.elim
    · exact p.elim
end
end DL

/-! DL6: defs and their calls, new instances, methods -/
namespace DL
open PySem L2 PySem.Spec PyProof.Rows
abbrev Fn := List SV → Mst → Out R
def retR (n : Nat) (M : Mst) : R → R
  | .h k => if k < n then .h k else .t (M.getD k (.d .non))
  | .t x => .t x
def outOf (n : Nat) (o : Option (Fl × Mst)) : Out R := match o with
  | some (.nx _, M) => .ok (.t (.d .non)) (M.take n)
  | some (.rt r, M) => .ok (retR n M r) (M.take n)
  | some (.xc e _, M) => .exc e (M.take n)
  | _ => .bad
def env0 (N : Nat) (xs : List SV) : Ev := xs.map some ++ List.replicate (N - xs.length) none
def body (N : Nat) (b : DenS) : Fn := fun xs M => outOf M.length (b (env0 N xs) M)
def PostC (K : PySem.W.Frag) (mg : Mg) (E : XK) (w : Wd) (H : Hp) (M : Mst) (o : Out R) (Q : VK) : Prop := match o with
  | .ok r M' => ∀ w' H' v fp, Ext [] w H M w' H' M' → MR K mg w' H' M' → RR K mg w' H' M' v r fp → (∀ a ∈ fp, Pm [] w H M a) → Q v H'
  | .exc e M' => ∀ w' H' cls d, Ext [] w H M w' H' M' → MR K mg w' H' M' → XR K mg w' H' cls d e → E cls d H'
  | .bad => False
def spD (K : PySem.W.Frag) (mg : Mg) (n : Nat) (G : Fn) : Sp := fun vs H Q E => ∃ w xs M, MR K mg w H M ∧ VRL K mg w M vs xs ∧ vs.length = n ∧ PostC K mg E w H M (G xs M) Q
/-- the def at f keeps the promise «it does as G tells», by at most k calls one in another -/
def FOk (P : Program) (w : World) (K : PySem.W.Frag) (mg : Mg) (base : Heap) (k : Nat) (f : Addr) (ps : List Str) (G : Fn) : Prop :=
  ∃ fd, FnOk P w K mg base (L2.CX P w) k f fd ps (spD K mg ps.length G) ∧ Binds K fd ps []

section
variable {K : PySem.W.Frag} {mg : Mg} {w w' : Wd} {H H' : Hp} {M M' : Mst} {fs fp : List Addr}
theorem MR.take (m : MR K mg w H M) (n : Nat) : MR K mg w H (M.take n) := by
  refine ⟨m.sub, fun k t e => ?_, fun j k a hj hk => m.dis j k a (by rw [List.length_take] at hj; omega) (by rw [List.length_take] at hk; omega)⟩
  rw [List.getElem?_take] at e
  split at e
  · exact m.obj k t e
  · cases e
theorem Ext.take (e : Ext fs w H M w' H' M') : Ext fs w H M w' H' (M'.take M.length) :=
  ⟨e.F, by rw [List.length_take]; exact Nat.le_min.mpr ⟨Nat.le_refl _, e.len⟩, e.al, e.keep, fun k hk => e.ph k (by rw [List.length_take] at hk; omega), e.gr, e.there⟩
theorem RR.ret {v : V} {r : R} {n : Nat} (hn : n ≤ M.length) (m : MR K mg w H M) (h : RR K mg w H M v r fp) : ∃ fp', RR K mg w H (M.take n) v (retR n M r) fp' ∧ ∀ a ∈ fp', a ∈ fp ∨ ∃ k, k < M.length ∧ a ∈ w.φ k := by
  cases r with
  | t x =>
    obtain ⟨h1, h2, h3⟩ := h
    exact ⟨fp, ⟨h1, h2, fun a ha k hk => h3 a ha k (by rw [List.length_take] at hk; omega)⟩, fun a ha => .inl ha⟩
  | h k =>
    obtain ⟨h1, h2, h3⟩ := h
    by_cases hk : k < n
    · rw [show retR n M (.h k) = .h k from if_pos hk]
      exact ⟨[], ⟨by rw [List.length_take]; omega, h2, rfl⟩, fun _ z => nomatch z⟩
    · rw [show retR n M (.h k) = .t (M.getD k (.d .non)) from if_neg hk]
      obtain ⟨x, hx⟩ : ∃ x, M[k]? = some x := ⟨M[k], List.getElem?_eq_getElem h1⟩
      obtain ⟨q1, q2⟩ := m.obj k x hx
      rw [getD_of hx]
      refine ⟨w.φ k, ⟨h2 ▸ q1, q2, fun a ha j hj z => ?_⟩, fun a ha => .inr ⟨k, h1, ha⟩⟩
      rw [List.length_take] at hj
      exact absurd (m.dis k j a h1 (by omega) ha z) (by omega)
theorem settleL {X : Cx} {rs : List R} : ∀ {vs : List V} {fp : List Addr} {w : Wd} {H : Hp} {M : Mst}, MR X.K X.mg w H M → RRL X.K X.mg w H M vs rs fp → ∃ w', Ext fp w H M w' H M ∧ MR X.K X.mg w' H M ∧ VRL X.K X.mg w' M vs (rs.map svR) := by
  induction rs with
  | nil => intro vs fp w H M m h; cases h; exact ⟨w, Ext.refl m, m, .nil⟩
  | cons r rs ih =>
    intro vs fp w H M m h
    cases h with
    | @cons v vs _ _ f1 f2 h1 h2 dj =>
      obtain ⟨w1, e1, m1, v1, _⟩ := settleV m h1
      obtain ⟨w2, e2, m2, v2⟩ := ih m1 (h2.stay e1 fun a ha hb => dj a hb ha)
      exact ⟨w2, (e1.mono fun a ha => List.mem_append_left _ ha).trans e2 fun a ha => .inr (.inr (List.mem_append_right _ ha)), m2, .cons (v1.stay e2) v2⟩
end

/-- THE RULE for a def: what its body does by data -/
theorem fn_okF {P : Program} {w : World} {K : PySem.W.Frag} {mg : Mg} {base : Heap} {x qual : Str} {st : Stmt} {f : Addr} {fd : FuncData} {N ps : List Str} {k : Nat} {b : DenS} (F : Fun K x qual st f fd) (S : FnScope N ps (defScope st))
    (h : ∀ (cdv : Value) (A : Around) (outer : List Env) (s : Shared) (H : Hp) (E : XK), Room k (A.deeper (envOfC qual (defScope st) s.heap.objs.size f cdv)) → Takes (cxOf (L2.CX P w) P w K mg base N qual (defScope st) f cdv A outer s H E) (fun cls d _ H => E cls d H) →
      PassesOwn (model P w) (A.deeper (envOfC qual (defScope st) s.heap.objs.size f cdv)) (cxOf (L2.CX P w) P w K mg base N qual (defScope st) f cdv A outer s H E).env (cxOf (L2.CX P w) P w K mg base N qual (defScope st) f cdv A outer s H E).xe →
      DB (cxOf (L2.CX P w) P w K mg base N qual (defScope st) f cdv A outer s H E) (fun cls d _ H => E cls d H) (defBody st) b) : FnOk P w K mg base (L2.CX P w) (k + 1) f fd ps (spD K mg ps.length (body N.length b)) := by
  refine F.okX S (fun vs H Q E h => ?_) (fun cdv A outer s H vs Q E hr hq => ⟨_, h cdv A outer s H E hr (takes_of rfl rfl rfl rfl) (passes_of rfl), ?_⟩)
  · obtain ⟨_, _, _, _, _, hl, _⟩ := h
    exact hl
  · obtain ⟨wd, xs, M, m, vr, hl, p⟩ := hq
    have er : ER K mg wd M (L2.start N vs) (env0 N.length xs) := by
      have hxs := vr.length
      refine ⟨by unfold L2.start env0; simp [hxs], fun i y q => ?_⟩
      unfold env0 at q
      by_cases hi : i < xs.length
      · rw [List.getElem?_append_left (by simpa using hi), List.getElem?_map] at q
        cases z : xs[i]? with
        | none => rw [z] at q; cases q
        | some y' =>
          rw [z] at q
          have e : y' = y := Option.some.inj (Option.some.inj q)
          subst e
          obtain ⟨v, h1, h2⟩ := vr.get z
          refine ⟨v, ?_, h2⟩
          unfold L2.start
          rw [List.getElem?_append_left (by simpa [hxs] using hi), List.getElem?_map, h1]
          rfl
      · rw [List.getElem?_append_right (by simpa using hi), List.getElem?_replicate] at q
        split at q <;> cases q
    refine ⟨wd, _, M, m, er, ?_⟩
    unfold body at p
    show PostS _ _ [] wd H M _ _
    cases z : b (env0 N.length xs) M with
    | none => rw [z] at p; exact p
    | some q =>
      obtain ⟨fl, M'⟩ := q
      rw [z] at p
      cases fl with
      | nx ρ => exact fun w' H' σ' e m' _ => p w' H' .non [] e.take (m'.take _) (rr_d .non) fun _ z => nomatch z
      | rt r =>
        intro w' H' v fp e m' q hf
        obtain ⟨fp', q', hf'⟩ := q.ret e.len m'
        refine p w' H' v fp' e.take (m'.take _) q' fun a ha => ?_
        rcases hf' a ha with z | ⟨k, hk, z⟩
        · exact hf a z
        · exact e.ph k hk a z
      | bk ρ => exact p.elim
      | ct ρ => exact p.elim
      | xc e ρ => exact fun w' H' σ' cls d ex m' _ xr => p w' H' cls d ex.take (m'.take _) xr
theorem FOk.of {P : Program} {w : World} {K : PySem.W.Frag} {mg : Mg} {base : Heap} {k : Nat} {f : Addr} {fd : FuncData} {ps : List Str} {G : Fn} (F : FnOk P w K mg base (L2.CX P w) k f fd ps (spD K mg ps.length G)) (hb : Binds K fd ps []) : FOk P w K mg base k f ps G := ⟨fd, F, hb⟩
theorem FOk.mono {P : Program} {w : World} {K : PySem.W.Frag} {mg : Mg} {base : Heap} {j k : Nat} {f : Addr} {ps : List Str} {G : Fn} (F : FOk P w K mg base j f ps G) (h : j ≤ k) : FOk P w K mg base k f ps G :=
  let ⟨fd, h1, h2⟩ := F; ⟨fd, h1.mono h, h2⟩
theorem FOk.imp {P : Program} {w : World} {K : PySem.W.Frag} {mg : Mg} {base : Heap} {k : Nat} {f : Addr} {ps : List Str} {G G' : Fn} (F : FOk P w K mg base k f ps G) (h : ∀ xs M, xs.length = ps.length → G' xs M = .bad ∨ G' xs M = G xs M) : FOk P w K mg base k f ps G' := by
  obtain ⟨fd, h1, h2⟩ := F
  refine ⟨fd, h1.imp fun vs H Q E ⟨w, xs, M, m, vr, hl, p⟩ => ⟨w, xs, M, m, vr, hl, ?_⟩, h2⟩
  rcases h xs M (by rw [← vr.length]; exact hl) with z | z
  · rw [z] at p; exact p.elim
  · rw [z] at p; exact p

section
variable {X : Cx} {W : WX} {σ : L2.St} {fs gs : List Addr} {w w2 : Wd} {H H2 : Hp} {M M2 : Mst}
variable {e o : Expr} {es : List Expr} {Fe Fa : Den} {A : DenA} {pos p apos : Pos} {x m : Str} {k : Nat} {f C : Addr} {ps : List Str} {G : Fn}
def eCall (G : Fn) (A : DenA) : Den := fun ρ M => (A ρ M).bind fun rs M1 => G (rs.map svR) M1
theorem PostC.of {w0 : Wd} {H0 : Hp} {M0 : Mst} {Q : VK} {o : Out R} {fp : List Addr} (p : Post X W σ fp w H M o (CE X [] w0 H0 M0 Q)) (e0 : Ext [] w0 H0 M0 w H M) (hf : ∀ a ∈ fp, Pm [] w0 H0 M0 a) (e : Ext fp w H M w2 H2 M2) : PostC X.K X.mg (WE W σ) w2 H2 M2 o Q := by
  cases o with
  | bad => exact p
  | exc x M' => exact fun w' H' c d e' m' xr => p w' H' c d (e.trans0 e') m' xr
  | ok r M' => exact fun w' H' v fp' e' m' q hq => p w' H' (e.trans0 e') m' v fp' q fun a ha => e0.pm hf (e.pm (gs := []) (fun _ z => nomatch z) (hq a ha))
theorem FOk.run (F : FOk X.prog X.w X.K X.mg X.base k f ps G) (hr : Room k X.A) (tk : Takes X W) {pins : List (Addr × Obj)} {s : Shared} {Q : VK} {us : List Value} {vs : List V} (I : Inv X pins σ H s) (r : Vals vs us)
    (h : spD X.K X.mg ps.length G vs H Q (WE W σ)) : wpAny (model X.prog X.w) X.A (call (.ref f) us) (EP X pins σ Q) X.xe s := by
  obtain ⟨fd, F, hb⟩ := F
  exact run_fnS (E := fun σ => WE W σ) F hr hb (passAt tk σ) I r h
def eArity (n : Nat) (A : DenA) : DenA := fun ρ M => (A ρ M).bind fun rs M1 => if rs.length = n then .ok rs M1 else .bad
theorem rd_call' {n : Nat} {Q : VK} (h : rdE X W (eCall G (eArity n A)) σ H Q) : rdA X W A σ H fun vs H1 => spD X.K X.mg n G vs H1 Q (WE W σ) := by
  obtain ⟨w, ρ, M, m, er, p⟩ := h
  have p : Post X W σ [] w H M ((eArity n A ρ M).bind fun rs M1 => G (rs.map svR) M1) (CE X [] w H M Q) := p
  refine ⟨w, ρ, M, m, er, ?_⟩
  have p : Post X W σ [] w H M ((A ρ M).bind fun rs M1 => if rs.length = n then G (rs.map svR) M1 else .bad) (CE X [] w H M Q) := by
    unfold eArity at p
    cases z : A ρ M with
    | bad => rw [z] at p; exact p
    | exc x M' => rw [z] at p; exact p
    | ok rs M' =>
      rw [z] at p
      show Post X W σ [] w H M (if rs.length = n then _ else _) _
      have p : Post X W σ [] w H M ((if rs.length = n then Out.ok rs M' else .bad).bind fun rs M1 => G (rs.map svR) M1) (CE X [] w H M Q) := p
      split at p
      · rename_i hl; rw [if_pos hl]; exact p
      · rename_i hl; rw [if_neg hl]; exact p
  refine p.bindF.imp fun w1 H1 M1 rs _ _ z => ?_
  obtain ⟨e1, m1, p1⟩ := z
  intro vs fp q hf
  replace p1 := p1 fp hf
  split at p1
  · rename_i hl
    obtain ⟨w2, e2, m2, v2⟩ := settleL m1 q
    exact ⟨w2, _, M1, m2, v2, by rw [q.length]; exact hl, PostC.of p1 e1 hf e2⟩
  · exact p1.elim
/-- f(e, ..) -/
theorem de_call (F : FOk X.prog X.w X.K X.mg X.base k f ps G) (hr : Room k X.A) (tk : Takes X W) (hg : Gl X x) (hm : X.mg x = some (.ref f)) (hk : PySem.W.keepIn X.K (.ref f) = true) (ha : DA X W (e :: es) A)
    (hdb : (x == ("__debug__" : Str)) = false := by decide) (he : starEach (e :: es) X.env = (false, eval e X.env) :: starEach es X.env := by rfl) (hpl : (backTo pos (starEach es X.env)).any (·.1) = false := by rfl) :
    DE X W (.Call (.Name x p) (e :: es) [] pos) (eCall G (eArity ps.length A)) := by
  obtain ⟨fd, F, hb⟩ := F
  exact (pe_callS (E := fun σ => WE W σ) F hr hg hm hk hb (fun σ => passAt tk σ) ha hdb he hpl).mono fun _ _ _ h => rd_call' h
theorem de_call0 (F : FOk X.prog X.w X.K X.mg X.base k f ps G) (hr : Room k X.A) (tk : Takes X W) (hg : Gl X x) (hm : X.mg x = some (.ref f)) (hk : PySem.W.keepIn X.K (.ref f) = true)
    (hdb : (x == ("__debug__" : Str)) = false := by decide) : DE X W (.Call (.Name x p) [] [] pos) (eCall G (eArity ps.length eNil)) := by
  refine ⟨fun pins s σ H Q I h => ?_⟩
  refine wpAny_Call_Name_kw (ld_glob I hg hm ?_ hdb)
  have h := rd_call' h
  obtain ⟨w, ρ, M, m, er, p⟩ := h
  exact PySem.W.callWith_K0 I.kIn hk (F.run hr tk I (us := []) .nil (p.now m [] [] .nil fun _ z => nomatch z))
end
end DL

/-! DL7: what is walked; for, while, comprehensions -/
namespace DL
open PySem L2
/-- a loop's target: a name, or names in a tuple -/
inductive Tg where
  | one (i : Nat) | many (is : List Nat)
def gNames : List Nat → TGs
  | [] => gNil
  | i :: r => gCons (gName i) (gNames r)
def tgR (K : PySem.W.Frag) : Tg → TG
  | .one i => gName i
  | .many is => gTup K is.length (gNames is)
def DTg (X : Cx) (tg : Expr) (g : Tg) : Prop := PG X tg (tgR X.K g)
def setAll : List Nat → List D → Ev → Ev
  | i :: is, d :: ds, ρ => setAll is ds (ρ.set i (some (.d d)))
  | _, _, ρ => ρ
def setT : Tg → D → Ev → Option Ev
  | .one i, d, ρ => some (ρ.set i (some (.d d)))
  | .many is, .tupP _ ds, ρ => if ds.length = is.length then some (setAll is ds ρ) else none
  | .many _, _, _ => none
def setAllV : List Nat → List V → L2.St → L2.St
  | i :: is, d :: ds, ρ => setAllV is ds (ρ.set i (some d))
  | _, _, ρ => ρ
def Tg.slots : Tg → List Nat
  | .one i => [i]
  | .many is => is
section
variable {X : Cx} {W : WX} {σ : L2.St} {fs gs : List Addr} {w w2 : Wd} {H H2 : Hp} {M M2 : Mst}
theorem gNames_run {Q : L2.St → Hp → Prop} : ∀ (is : List Nat) (vs : List V) (σ : L2.St), vs.length = is.length → Q (setAllV is vs σ) H → gNames is vs σ H Q
  | [], [], σ, _, q => ⟨rfl, q⟩
  | i :: is, v :: vs, σ, h, q => ⟨v, vs, rfl, gNames_run is vs _ (by simpa using h) q⟩
  | [], v :: vs, σ, h, _ => by simp at h
  | i :: is, [], σ, h, _ => by simp at h
theorem er_all : ∀ (is : List Nat) {vs : List V} {ds : List D} {σ : L2.St} {ρ : Ev}, DpL X.K X.mg w.F vs ds → ER X.K X.mg w M σ ρ → ER X.K X.mg w M (setAllV is vs σ) (setAll is ds ρ)
  | [], _, _, _, _, _, er => by unfold setAllV setAll; exact er
  | i :: is, _, _, _, _, .nil, er => by unfold setAllV setAll; exact er
  | i :: is, _, _, _, _, .cons h r, er => er_all is r (er.set (x := .d _) h)
theorem wipe_set {i : Nat} {v : Option V} {σ : L2.St} : ∀ {vs : List Nat}, i ∈ vs → L2.wipe (σ.set i v) vs = L2.wipe σ vs
  | j :: vs, h => by
    unfold L2.wipe
    by_cases e : i = j
    · subst e
      by_cases hm : i ∈ vs
      · rw [wipe_set hm]
      · have : ∀ (vs : List Nat) (σ : L2.St), L2.wipe (σ.set i v) vs = (L2.wipe σ vs).set i v ∨ L2.wipe (σ.set i v) vs = L2.wipe σ vs := by
          intro vs
          induction vs with
          | nil => intro σ; exact .inl rfl
          | cons k ks ih =>
            intro σ
            unfold L2.wipe
            rcases ih σ with z | z
            · rw [z]
              by_cases e : i = k
              · subst e; right; rw [List.set_set]
              · left; rw [List.set_comm _ _ e]
            · right; rw [z]
        rcases this vs σ with z | z
        · rw [z, List.set_set]
        · rw [z]
    · have hm : i ∈ vs := by
        rcases List.mem_cons.mp h with z | z
        · exact absurd z e
        · exact z
      rw [wipe_set hm]
theorem wipe_all : ∀ (is : List Nat) (ws : List V) {σ : L2.St} {vs : List Nat}, (∀ i ∈ is, i ∈ vs) → L2.wipe (setAllV is ws σ) vs = L2.wipe σ vs
  | [], _, _, _, _ => by unfold setAllV; rfl
  | _ :: _, [], _, _, _ => by unfold setAllV; rfl
  | i :: is, v :: ws, σ, vs, h => by
    unfold setAllV
    rw [wipe_all is ws fun j hj => h j (List.mem_cons_of_mem _ hj)]
    exact wipe_set (h i List.mem_cons_self)
/-- a target takes its item -/
theorem tg_run {g : Tg} {d : D} {ρ ρ' : Ev} {v : V} {Q : L2.St → Hp → Prop} (m : MR X.K X.mg w H M) (er : ER X.K X.mg w M σ ρ) (hv : Dp X.K X.mg w.F v d) (h : setT g d ρ = some ρ')
    (k : ∀ σ', ER X.K X.mg w M σ' ρ' → (∀ vs : List Nat, (∀ i ∈ g.slots, i ∈ vs) → L2.wipe σ' vs = L2.wipe σ vs) → Q σ' H) : tgR X.K g v σ H Q := by
  cases g with
  | one i =>
    cases h
    exact k _ (er.set (x := .d _) hv) fun vs hi => wipe_set (hi i (by simp [Tg.slots]))
  | many is =>
    unfold setT at h
    split at h
    · rename_i e; cases e
    · rename_i is' ds e
      cases e
      split at h
      · rename_i hl
        cases h
        cases hv with
        | @tupP _ a vs _ h l => exact ⟨a, vs, rfl, Same.seqT m.sub h.1, by rw [l.length]; exact hl, gNames_run is vs σ (by rw [l.length]; exact hl) (k _ (er_all is l er) fun us hi => wipe_all is vs hi)⟩
      · cases h
    · cases h
end

/-- an iterator that hands out the items -/
structure ItOk (K : PySem.W.Frag) (mg : Mg) (F : Hp) (J : It) (items : List D) : Prop where
  go : ∀ (i : Nat) (w : Wd) (H : Hp) (M : Mst) (d : D), MR K mg w H M → Same F w.F → items[i]? = some d → J.go i H ∧ ∀ x H', J.yld i H x H' → ∃ w', Ext [] w H M w' H' M ∧ MR K mg w' H' M ∧ Dp K mg w'.F x d
  stop : ∀ (i : Nat) (w : Wd) (H : Hp) (M : Mst), MR K mg w H M → Same F w.F → items.length ≤ i → J.stop i H
abbrev DenI := Ev → Mst → Out (List D)
def rdI (X : Cx) (W : WX) (G : DenI) : TI := fun σ H R => ∃ w ρ M, MR X.K X.mg w H M ∧ ER X.K X.mg w M σ ρ ∧ Post X W σ [] w H M (G ρ M) (fun w' H' M' items => ∀ J, ItOk X.K X.mg w'.F J items → R J H')
def DI (X : Cx) (W : WX) (tg iter : Expr) (G : DenI) : Prop := PI X tg iter (rdI X W G)
theorem _root_.L2.PI.mono {X : Cx} {tg e : Expr} {t t' : TI} (h : PI X tg e t) (k : ∀ σ H Q, t' σ H Q → t σ H Q) : PI X tg e t' := ⟨fun pins s σ H Q I q => h.run pins s σ H Q I (k _ _ _ q)⟩
theorem _root_.L2.PI.or {X : Cx} {tg e : Expr} {t t' : TI} (h : PI X tg e t) (h' : PI X tg e t') : PI X tg e (fun σ H Q => t σ H Q ∨ t' σ H Q) := ⟨fun pins s σ H Q I q => q.elim (h.run pins s σ H Q I) (h'.run pins s σ H Q I)⟩

/-! ### for -/
def forS (g : Tg) (b : DenS) : List D → Ev → Mst → Option (Fl × Mst)
  | [], ρ, M => some (.nx ρ, M)
  | d :: ds, ρ, M => match setT g d ρ with
    | none => none
    | some ρ1 => match b ρ1 M with
      | some (.nx ρ2, M2) => forS g b ds ρ2 M2
      | some (.ct ρ2, M2) => forS g b ds ρ2 M2
      | some (.bk ρ2, M2) => some (.nx ρ2, M2)
      | o => o
def sFor (G : DenI) (g : Tg) (b : DenS) : DenS := fun ρ M => bindS (G ρ M) ρ fun items M1 => forS g b items ρ M1
section
variable {X : Cx} {W : WX} {σ : L2.St} {fs gs : List Addr} {w w2 : Wd} {H H2 : Hp} {M M2 : Mst} {Dn : Ends}
variable {tg iter e : Expr} {G : DenI} {g : Tg} {b : DenS} {pos : Pos} {bd : List Stmt}
theorem ds_for (hp : PassesOwn (model X.prog X.w) X.A X.env X.xe) (hc : X.calm = true) (hi : DI X W tg iter G) (hg : DTg X tg g) (hb : DB X W bd b) (hs : ∀ x, foldedSetIterable iter X.env x = pure x := by intro _; rfl) :
    DS X W (.For tg iter bd [] pos) (sFor G g b) := (ps_for hp hc hi hg hb hs).mono fun Dn σ H h => by
  obtain ⟨w, ρ, M, m, er, p⟩ := h
  refine ⟨w, ρ, M, m, er, (p.bindF er).imp fun w1 H1 M1 items _ _ z => ?_⟩
  obtain ⟨e1, m1, p1⟩ := z
  intro J ok
  replace p1 := p1 [] fun _ z => nomatch z
  refine ⟨fun i mm σ H => i ≤ items.length ∧ mm = items.length - i ∧ ∃ w ρ M, MR X.K X.mg w H M ∧ ER X.K X.mg w M σ ρ ∧ Same w1.F w.F ∧ PostS X W [] w H M (forS g b (items.drop i) ρ M) Dn,
    ⟨_, Nat.zero_le _, rfl, w1, ρ, M1, m1, er.stay e1, Same.refl _, p1⟩, ?_⟩
  rintro i mm σ H ⟨hi, rfl, w, ρ, M, m, er, sF, p⟩
  by_cases hl : i < items.length
  · obtain ⟨d, hd⟩ : ∃ d, items[i]? = some d := ⟨items[i], List.getElem?_eq_getElem hl⟩
    obtain ⟨g1, g2⟩ := ok.go i w H M d m sF hd
    have ed : items.drop i = d :: items.drop (i + 1) := by
      rw [List.drop_eq_getElem_cons hl]
      rw [List.getElem?_eq_getElem hl] at hd
      rw [Option.some.inj hd]
    rw [ed] at p
    refine .inr ⟨g1, _, fun σ' H' q => q, fun x H' y => ?_⟩
    · obtain ⟨w', e', m', hx⟩ := g2 x H' y
      unfold forS at p
      cases z : setT g d ρ with
      | none => rw [z] at p; exact p.elim
      | some ρ1 =>
        rw [z] at p
        refine tg_run m' (er.stay e') hx z fun σ2 er2 _ => ⟨w', ρ1, M, m', er2, ?_⟩
        have p : PostS X W [] w' H' M (match b ρ1 M with
          | some (.nx ρ2, M2) => forS g b (items.drop (i + 1)) ρ2 M2
          | some (.ct ρ2, M2) => forS g b (items.drop (i + 1)) ρ2 M2
          | some (.bk ρ2, M2) => some (.nx ρ2, M2)
          | o => o) Dn := PostS.from p e' fun _ z => nomatch z
        cases z2 : b ρ1 M with
        | none => rw [z2] at p; exact p
        | some q =>
          obtain ⟨f, M2⟩ := q
          rw [z2] at p
          cases f with
          | nx ρ2 => exact fun w3 H3 σ3 e3 m3 er3 => ⟨_, by omega, hl, rfl, w3, ρ2, M2, m3, er3, (sF.trans e'.F).trans e3.F, PostS.from p e3 fun _ z => nomatch z⟩
          | ct ρ2 => exact fun w3 H3 σ3 e3 m3 er3 => ⟨_, by omega, hl, rfl, w3, ρ2, M2, m3, er3, (sF.trans e'.F).trans e3.F, PostS.from p e3 fun _ z => nomatch z⟩
          | bk ρ2 => exact fun w3 H3 σ3 e3 m3 er3 => p w3 H3 σ3 e3 m3 er3
          | rt r => exact p
          | xc x ρ2 => exact p
  · have e : i = items.length := by omega
    subst e
    rw [List.drop_length] at p
    exact .inl ⟨ok.stop _ w H M m sF (Nat.le_refl _), p.nx m er⟩

/-! ### while -/
def whileS (c : DenT) (b : DenS) : Nat → Ev → Mst → Option (Fl × Mst)
  | 0, _, _ => none
  | n + 1, ρ, M => bindS (c ρ M) ρ fun k M1 => if k = true then (match b ρ M1 with
      | some (.nx ρ2, M2) => whileS c b n ρ2 M2
      | some (.ct ρ2, M2) => whileS c b n ρ2 M2
      | some (.bk ρ2, M2) => some (.nx ρ2, M2)
      | o => o) else some (.nx ρ, M1)
def sWhile (n : Nat) (c : DenT) (b : DenS) : DenS := fun ρ M => whileS c b n ρ M
theorem ds_while (n : Nat) {ce : Expr} {c : DenT} (hp : PassesOwn (model X.prog X.w) X.A X.env X.xe) (hc : DT X W ce c) (hb : DB X W bd b) : DS X W (.While ce bd [] pos) (sWhile n c b) := (ps_while hp hc hb).mono fun Dn σ H h => by
  obtain ⟨w, ρ, M, m, er, p⟩ := h
  refine ⟨fun n σ H => ∃ w ρ M, MR X.K X.mg w H M ∧ ER X.K X.mg w M σ ρ ∧ PostS X W [] w H M (whileS c b n ρ M) Dn, ⟨n, w, ρ, M, m, er, p⟩, ?_⟩
  rintro n σ H ⟨w, ρ, M, m, er, p⟩
  cases n with
  | zero => exact p.elim
  | succ n =>
    refine ⟨w, ρ, M, m, er, (PostS.bindF p er).imp fun w1 H1 M1 k _ _ z => ?_⟩
    obtain ⟨e1, m1, p1⟩ := z
    replace p1 := p1 [] fun _ z => nomatch z
    cases k with
    | false => rw [if_neg Bool.false_ne_true] at p1 ⊢; exact p1.nx m1 (er.stay e1)
    | true =>
      rw [if_pos rfl] at p1 ⊢
      refine ⟨_, fun σ' H' q => q, ?_⟩
      · refine ⟨w1, ρ, M1, m1, er.stay e1, ?_⟩
        cases z2 : b ρ M1 with
        | none => rw [z2] at p1; exact p1
        | some q =>
          obtain ⟨f, M2⟩ := q
          rw [z2] at p1
          cases f with
          | nx ρ2 => exact fun w3 H3 σ3 e3 m3 er3 => ⟨n, Nat.lt_succ_self _, w3, ρ2, M2, m3, er3, PostS.from p1 e3 fun _ z => nomatch z⟩
          | ct ρ2 => exact fun w3 H3 σ3 e3 m3 er3 => ⟨n, Nat.lt_succ_self _, w3, ρ2, M2, m3, er3, PostS.from p1 e3 fun _ z => nomatch z⟩
          | bk ρ2 => exact fun w3 H3 σ3 e3 m3 er3 => p1 w3 H3 σ3 e3 m3 er3
          | rt r => exact p1
          | xc x ρ2 => exact p1
end
end DL

/-! DL8: comprehensions -/
namespace DL
open PySem L2
def noX {α : Type} : Out α → Out α
  | .ok a M => .ok a M
  | _ => .bad
def treeT (M : Mst) : R → T
  | .t x => x
  | .h k => .d (frz (M.getD k (.d .non)))
def lcL (g : Tg) (own : List Nat) (c : DenT) (f : Den) (ρ : Ev) : List D → List T → Mst → Out (List T)
  | [], acc, M => .ok acc M
  | d :: ds, acc, M => match setT g d (wipeE ρ own) with
    | none => .bad
    | some ρ1 => (noX (c ρ1 M)).bind fun k M2 => if k = true then (noX (f ρ1 M2)).bind fun r M3 => if acc.length < 1000000 then lcL g own c f ρ ds (acc ++ [treeT M3 r]) (frzM M3 r) else .bad
      else lcL g own c f ρ ds acc M2
def lcL2 (g : Tg) (own : List Nat) (c : DenT) (G1 : DenI) (g1 : Tg) (own1 : List Nat) (c1 : DenT) (f : Den) (ρ : Ev) : List D → List T → Mst → Out (List T)
  | [], acc, M => .ok acc M
  | d :: ds, acc, M => match setT g d (wipeE ρ own) with
    | none => .bad
    | some ρ1 => (noX (c ρ1 M)).bind fun k M2 => if k = true then (noX (G1 ρ1 M2)).bind fun items M3 => (lcL g1 own1 c1 f ρ1 items acc M3).bind fun acc' M4 => lcL2 g own c G1 g1 own1 c1 f ρ ds acc' M4
      else lcL2 g own c G1 g1 own1 c1 f ρ ds acc M2
def eLc (G : DenI) (g : Tg) (own : List Nat) (c : DenT) (f : Den) : Den := fun ρ M => (G ρ M).bind fun items M1 => (lcL g own c f ρ items [] M1).bind fun ts M2 => .ok (.t (.lst ts)) M2
def eLc2 (G : DenI) (g : Tg) (own : List Nat) (c : DenT) (G1 : DenI) (g1 : Tg) (own1 : List Nat) (c1 : DenT) (f : Den) : Den := fun ρ M => (G ρ M).bind fun items M1 => (lcL2 g own c G1 g1 own1 c1 f ρ items [] M1).bind fun ts M2 => .ok (.t (.lst ts)) M2
abbrev W0 : WX := fun _ _ _ _ => False
def tYesD : DenT := fun _ M => .ok true M
theorem Out.bind_assoc {α β γ : Type} (o : Out α) (k : α → Mst → Out β) (l : β → Mst → Out γ) : (o.bind k).bind l = o.bind fun a M => (k a M).bind l := by cases o <;> rfl
section
variable {X : Cx} {W : WX} {σ : L2.St} {fs gs : List Addr} {w w2 : Wd} {H H2 : Hp} {M M2 : Mst} {α β : Type}
/-- the list so far, at L, and what is left to do -/
def LcS (X : Cx) (W : WX) (w0 : Wd) (H0 : Hp) (M0 : Mst) (σ : L2.St) (ρ : Ev) (F1 : Hp) (L : Addr) (C : Wd → Hp → Mst → R → Prop) (kont : Mst → Out R) (acc : List T) (H : Hp) : Prop :=
  ∃ w M vs fp, MR X.K X.mg w H M ∧ ER X.K X.mg w M σ ρ ∧ Same F1 w.F ∧ H L = some (.lst vs) ∧ w.F L = none ∧ (∀ k, k < M.length → L ∉ w.φ k) ∧ TRL X.K X.mg w.F H vs acc fp ∧ (L :: fp).Nodup ∧ (∀ a ∈ fp, ∀ k, k < M.length → a ∉ w.φ k) ∧ Ext [] w0 H0 M0 w H M ∧ (∀ a ∈ L :: fp, Pm [] w0 H0 M0 a) ∧ Post X W σ (L :: fp) w H M (kont M) C
theorem MR.put {a : Addr} {o : HO} (m : MR X.K X.mg w H M) (hF : w.F a = none) (hn : ∀ k, k < M.length → a ∉ w.φ k) : MR X.K X.mg w (upd H a o) M := by
  refine ⟨fun q u e => ?_, fun k t e => ?_, m.dis⟩
  · have hq : q ≠ a := fun z => by rw [z, hF] at e; cases e
    rw [upd_ne hq]; exact m.sub q u e
  · obtain ⟨h1, h2⟩ := m.obj k t e
    have hk : k < M.length := (List.getElem?_eq_some_iff.mp e).1
    exact ⟨h1.stay (Same.refl _) fun q hq => ⟨(h1.fp q hq).1, fun u hu => by
      have ne : q ≠ a := fun z => hn k hk (by rw [← z]; exact hq)
      rw [upd_ne ne]; exact hu⟩, h2⟩
theorem Ext.put {a : Addr} {o : HO} (h : a ∈ fs) : Ext fs w H M w (upd H a o) M where
  F := Same.refl _
  len := Nat.le_refl _
  al := fun _ _ => rfl
  keep := fun q u e n => by
    have ne : q ≠ a := fun z => n (.inr (.inr (by rw [z]; exact h)))
    rw [upd_ne ne]; exact e
  ph := fun k hk q hq => .inr (.inl ⟨k, hk, hq⟩)
  gr := fun _ h => .inl h
  there := fun q e => by
    by_cases z : q = a
    · rw [z, upd_same] at e; cases e
    · rw [upd_ne z] at e; exact e
/-- a held list stays -/
theorem held {L : Addr} {vs : List V} {acc : List T} {fp : List Addr} {w' : Wd} {H' : Hp} {M' : Mst} (e : Ext [] w H M w' H' M') (hL : H L = some (.lst vs)) (hF : w.F L = none) (hn : ∀ k, k < M.length → L ∉ w.φ k) (q : TRL X.K X.mg w.F H vs acc fp) (dj : ∀ a ∈ fp, ∀ k, k < M.length → a ∉ w.φ k) :
    H' L = some (.lst vs) ∧ w'.F L = none ∧ (∀ k, k < M'.length → L ∉ w'.φ k) ∧ TRL X.K X.mg w'.F H' vs acc fp ∧ ∀ a ∈ fp, ∀ k, k < M'.length → a ∉ w'.φ k := by
  have np : ∀ a o, H a = some o → w.F a = none → (∀ k, k < M.length → a ∉ w.φ k) → ¬ Pm [] w H M a := fun a o h1 _ h2 z => by
    rcases z with z | ⟨j, hj, z⟩ | z
    · rw [h1] at z; cases z
    · exact h2 j hj z
    · cases z
  have nf : ∀ a o, H a = some o → w.F a = none → (∀ k, k < M.length → a ∉ w.φ k) → w'.F a = none := fun a o h1 h0 h2 => by
    cases z : w'.F a with
    | none => rfl
    | some u =>
      rcases e.gr a (by rw [z]; exact fun z => nomatch z) with z | z
      · exact absurd h0 z
      · exact absurd z (np a o h1 h0 h2)
  refine ⟨e.keep L _ hL (np L _ hL hF hn), nf L _ hL hF hn, fun k hk z => np L _ hL hF hn (e.ph k hk L z), q.stay e.F fun a ha => ?_, fun a ha k hk z => ?_⟩
  · obtain ⟨h1, o, h2⟩ := q.fp a ha
    exact ⟨nf a o h2 h1 (dj a ha), fun u hu => e.keep a u hu (np a u hu h1 (dj a ha))⟩
  · obtain ⟨h1, o, h2⟩ := q.fp a ha
    exact np a o h2 h1 (dj a ha) (e.ph k hk a z)
theorem Post.unX {o : Out α} {C : Wd → Hp → Mst → α → Prop} {σ' : L2.St} {W' : WX} (h : Post X W σ fs w H M (noX o) C) : Post X W' σ' fs w H M o C := by
  cases o with
  | ok a M' => exact h
  | exc x M' => exact h.elim
  | bad => exact h
theorem Post.sig {o : Out α} {C : Wd → Hp → Mst → α → Prop} {σ' : L2.St} {W' : WX} (h : Post X W σ fs w H M (noX o) C) : Post X W' σ' fs w H M (noX o) C := by
  cases o with
  | ok a M' => exact h
  | exc x M' => exact h.elim
  | bad => exact h
theorem trl_app : ∀ {vs ws : List V} {ts us : List T} {f1 f2 : List Addr} {F : Hp}, TRL X.K X.mg F H vs ts f1 → TRL X.K X.mg F H ws us f2 → TRL X.K X.mg F H (vs ++ ws) (ts ++ us) (f1 ++ f2)
  | _, _, _, _, _, _, _, .nil, s => s
  | _, _, _, _, _, _, _, .cons h r, s => by rw [List.append_assoc]; exact .cons h (trl_app r s)
theorem treeT_ok {v : V} {r : R} {fp : List Addr} (m : MR X.K X.mg w H M) (h : RR X.K X.mg w H M v r fp) : ∃ w', Ext [] w H M w' H (frzM M r) ∧ MR X.K X.mg w' H (frzM M r) ∧ TR X.K X.mg w'.F H v (treeT M r) fp ∧ fp.Nodup ∧ ∀ a ∈ fp, ∀ k, k < (frzM M r).length → a ∉ w'.φ k := by
  cases r with
  | t x => exact ⟨w, Ext.refl m, m, h.1, h.2.1, h.2.2⟩
  | h k =>
    obtain ⟨w', e, m', d, _⟩ := settle m h
    obtain ⟨_, _, rfl⟩ := h
    exact ⟨w', e, m', .d d, List.nodup_nil, fun _ z => nomatch z⟩
theorem wipe_get (σ : L2.St) : ∀ (vs : List Nat) (i : Nat), (L2.wipe σ vs)[i]? = if i ∈ vs then (σ[i]?).map (fun _ => none) else σ[i]?
  | [], i => by simp [L2.wipe]
  | v :: vs, i => by
    unfold L2.wipe
    rw [List.getElem?_set, wipe_get σ vs i]
    have hl : (L2.wipe σ vs).length = σ.length := L2.wipe_length σ vs
    by_cases e : v = i
    · subst e
      rw [if_pos rfl, if_pos List.mem_cons_self, hl]
      by_cases h : v < σ.length
      · rw [if_pos h, List.getElem?_eq_getElem h]; rfl
      · rw [if_neg h, List.getElem?_eq_none (by omega)]; rfl
    · rw [if_neg e]
      by_cases h : i ∈ vs
      · rw [if_pos h, if_pos (List.mem_cons_of_mem _ h)]
      · rw [if_neg h, if_neg (fun z => (List.mem_cons.mp z).elim (fun q => e q.symm) h)]
theorem wipe_wipe (σ : L2.St) (vs : List Nat) : L2.wipe (L2.wipe σ vs) vs = L2.wipe σ vs := by
  apply List.ext_getElem?
  intro i
  rw [wipe_get, wipe_get]
  split
  · cases σ[i]? <;> rfl
  · rfl
/-- THE LOOP of a comprehension over an iterator -/
theorem lc_loop {J : It} {items : List D} {F1 : Hp} {L : Addr} {C : Wd → Hp → Mst → R → Prop} {g : Tg} {own : List Nat} {c : DenT} {f : Den} {ρ : Ev} {acc : List T} {w0 : Wd} {H0 Hs : Hp} {M0 : Mst} {kont : List T → Mst → Out R} (hsl : ∀ i ∈ g.slots, i ∈ own) (ok : ItOk X.K X.mg F1 J items)
    (st : LcS X W w0 H0 M0 σ ρ F1 L C (fun M => (lcL g own c f ρ items acc M).bind kont) acc Hs) {Fin : Hp → Prop} (hF : ∀ acc' H, LcS X W w0 H0 M0 σ ρ F1 L C (kont acc') acc' H → Fin H) :
    ∃ Wf : Nat → Nat → Hp → Prop, (∃ m, Wf 0 m Hs) ∧ ∀ i m H, Wf i m H → (J.stop i H ∧ Fin H) ∨ (J.go i H ∧ ∃ Nx : Hp → Prop, (∀ H', Nx H' → ∃ m', m' < m ∧ Wf (i + 1) m' H') ∧
      ∀ x H', J.yld i H x H' → tgR X.K g x (L2.wipe σ own) H' fun σ2 H2 => L2.wipe σ2 own = L2.wipe σ own ∧ rdT X W0 c σ2 H2 fun b H3 => if b = true then rdE X W0 f σ2 H3 fun y H4 => ∃ a, H4 L = some (.lst a) ∧ a.length < sizeLine ∧ Nx (upd H4 L (.lst (a ++ [y]))) else Nx H3) := by
  refine ⟨fun i m H => i ≤ items.length ∧ m = items.length - i ∧ ∃ acc, LcS X W w0 H0 M0 σ ρ F1 L C (fun M => (lcL g own c f ρ (items.drop i) acc M).bind kont) acc H, ⟨_, Nat.zero_le _, rfl, acc, st⟩, ?_⟩
  rintro i mm H ⟨hi, rfl, acc, w, M, vs, fp, m, er, sF, hL, hFL, hnL, q, nd, dj, e0, hp0, p⟩
  by_cases hl : i < items.length
  · obtain ⟨d, hd⟩ : ∃ d, items[i]? = some d := ⟨items[i], List.getElem?_eq_getElem hl⟩
    obtain ⟨g1, g2⟩ := ok.go i w H M d m sF hd
    have ed : items.drop i = d :: items.drop (i + 1) := by
      rw [List.drop_eq_getElem_cons hl]
      rw [List.getElem?_eq_getElem hl] at hd
      rw [Option.some.inj hd]
    rw [ed] at p
    refine .inr ⟨g1, _, fun H' q => q, fun x H' y => ?_⟩
    obtain ⟨w', e', m', hx⟩ := g2 x H' y
    obtain ⟨hL', hFL', hnL', q', dj'⟩ := held e' hL hFL hnL q dj
    unfold lcL at p
    cases z : setT g d (wipeE ρ own) with
    | none => rw [z] at p; exact p.elim
    | some ρ1 =>
      rw [z] at p
      refine tg_run m' ((er.stay e').wipe own) hx z fun σ2 er2 hw => ⟨(hw own hsl).trans (wipe_wipe σ own), w', ρ1, M, m', er2, ?_⟩
      have p : Post X W σ (L :: fp) w' H' M (((noX (c ρ1 M)).bind fun k M2 => if k = true then (noX (f ρ1 M2)).bind fun r M3 => if acc.length < 1000000 then lcL g own c f ρ (items.drop (i + 1)) (acc ++ [treeT M3 r]) (frzM M3 r) else .bad
        else lcL g own c f ρ (items.drop (i + 1)) acc M2).bind kont) C := Post.from p (e'.mono fun _ z => nomatch z) fun a ha => .inr (.inr ha)
      rw [Out.bind_assoc] at p
      refine Post.unX (p.bindF.imp fun w2 H2 M2 k _ _ z => ?_)
      obtain ⟨e2, m2, p2⟩ := z
      obtain ⟨hL2, hFL2, hnL2, q2, dj2⟩ := held e2 hL' hFL' hnL' q' dj'
      cases k with
      | false =>
        rw [if_neg Bool.false_ne_true]
        refine ⟨_, by omega, hl, rfl, acc, w2, M2, vs, fp, m2, (er.stay e').stay e2, (sF.trans e'.F).trans e2.F, hL2, hFL2, hnL2, q2, nd, dj2, (e0.trans0 e').trans0 e2, hp0, ?_⟩
        have := p2 (L :: fp) fun a ha => .inr (.inr ha)
        rw [if_neg Bool.false_ne_true] at this
        exact this
      | true =>
        rw [if_pos rfl]
        have p3 := p2 (L :: fp) fun a ha => .inr (.inr ha)
        rw [if_pos rfl, Out.bind_assoc] at p3
        refine ⟨w2, ρ1, M2, m2, er2.stay e2, Post.unX (p3.bindF.imp fun w3 H3 M3 r _ _ z => ?_)⟩
        obtain ⟨e3, m3, p4⟩ := z
        intro v f3 q3 hf3
        obtain ⟨hL3, hFL3, hnL3, q3', dj3⟩ := held e3 hL2 hFL2 hnL2 q2 dj2
        have dv : ∀ a ∈ f3, a ∉ L :: fp := fun a ha hb => by
          have : H2 a ≠ none ∧ ∀ k, k < M2.length → a ∉ w2.φ k := by
            rcases List.mem_cons.mp hb with rfl | hb
            · exact ⟨by rw [hL2]; exact (fun z => nomatch z), hnL2⟩
            · obtain ⟨_, o, h2⟩ := q2.fp a hb
              exact ⟨by rw [h2]; exact (fun z => nomatch z), dj2 a hb⟩
          rcases hf3 a ha with z | ⟨j, hj, z⟩ | z
          · exact this.1 z
          · exact this.2 j hj z
          · cases z
        have p5 := p4 (L :: (fp ++ f3)) fun a ha => by
          rcases List.mem_cons.mp ha with rfl | ha
          · exact .inr (.inr List.mem_cons_self)
          · rcases List.mem_append.mp ha with ha | ha
            · exact .inr (.inr (List.mem_cons_of_mem _ ha))
            · exact pm_nil (hf3 a ha) _
        split at p5
        · rename_i hacc
          have hlen := q3'.length
          refine ⟨vs, hL3, by rw [hlen]; exact Nat.lt_of_lt_of_le hacc cap_le, ?_⟩
          obtain ⟨w4, e4, m4, t4, nd4, dj4⟩ := treeT_ok m3 q3
          obtain ⟨hL4, hFL4, hnL4, q4, dj4'⟩ := held e4 hL3 hFL3 hnL3 q3' dj3
          have ndfp := (List.nodup_cons.mp nd)
          have hu : ∀ a ∈ fp ++ f3, a ≠ L := fun a ha z => by
            subst z
            rcases List.mem_append.mp ha with ha | ha
            · exact ndfp.1 ha
            · exact dv _ ha List.mem_cons_self
          have tall := trl_app q4 (.cons t4 .nil : TRL X.K X.mg w4.F H3 [v] [treeT M3 r] (f3 ++ []))
          rw [List.append_nil] at tall
          refine ⟨_, by omega, hl, rfl, acc ++ [treeT M3 r], w4, frzM M3 r, vs ++ [v], fp ++ f3, m4.put hFL4 hnL4, (((er.stay e').stay e2).stay e3).stay e4, (((sF.trans e'.F).trans e2.F).trans e3.F).trans e4.F, upd_same, hFL4, hnL4, ?_, ?_, ?_, ?_, ?_, ?_⟩
          · exact tall.stay (Same.refl _) fun a ha => ⟨(tall.fp a ha).1, fun o ho => by rw [upd_ne (hu a ha)]; exact ho⟩
          · refine List.nodup_cons.mpr ⟨fun z => hu L z rfl, List.nodup_append.mpr ⟨ndfp.2, nd4, fun a ha b hb z => ?_⟩⟩
            subst z
            exact dv a hb (List.mem_cons_of_mem _ ha)
          · intro a ha
            rcases List.mem_append.mp ha with ha | ha
            · exact dj4' a ha
            · exact dj4 a ha
          · exact ((((e0.trans0 e').trans0 e2).trans0 e3).trans0 e4).trans (Ext.put (fs := [L]) List.mem_cons_self) fun a ha => by rw [List.mem_singleton.mp ha]; exact hp0 L List.mem_cons_self
          · intro a ha
            rcases List.mem_cons.mp ha with rfl | ha
            · exact hp0 _ List.mem_cons_self
            · rcases List.mem_append.mp ha with ha | ha
              · exact hp0 a (List.mem_cons_of_mem _ ha)
              · exact ((e0.trans0 e').trans0 e2).pm (gs := []) (fun _ z => nomatch z) (hf3 a ha)
          · exact Post.from p5 ((e4.mono fun _ z => nomatch z).trans (Ext.put (fs := [L]) List.mem_cons_self) fun a ha => .inr (.inr (by rw [List.mem_singleton.mp ha]; exact List.mem_cons_self))) fun a ha => .inr (.inr ha)
        · exact p5.elim
  · have e : i = items.length := by omega
    subst e
    rw [List.drop_length] at p
    exact .inl ⟨ok.stop _ w H M m sF (Nat.le_refl _), hF acc H ⟨w, M, vs, fp, m, er, sF, hL, hFL, hnL, q, nd, dj, e0, hp0, p⟩⟩
/-- the start -/
theorem LcS.new {ρ : Ev} {L : Addr} {C : Wd → Hp → Mst → R → Prop} {kont : Mst → Out R} (m : MR X.K X.mg w H M) (er : ER X.K X.mg w M σ ρ) (hL : H L = none) (p : Post X W σ [] w H M (kont M) C) : LcS X W w H M σ ρ w.F L C kont [] (upd H L (.lst [])) := by
  have nf : w.F L = none := by
    cases z : w.F L with
    | none => rfl
    | some o => rw [m.sub L o z] at hL; cases hL
  refine ⟨w, M, [], [], m.new hL, er, Same.refl _, upd_same, nf, fun k hk z => ?_, .nil, by simp, (fun _ z => nomatch z), Ext.new m hL, fun a ha => .inl (by rw [List.mem_singleton.mp ha]; exact hL), Post.from p (Ext.new m hL) fun a ha => .inl (by rw [List.mem_singleton.mp ha]; exact hL)⟩
  obtain ⟨x, hx⟩ : ∃ x, M[k]? = some x := ⟨M[k], List.getElem?_eq_getElem hk⟩
  obtain ⟨_, o, e⟩ := (m.obj k x hx).1.fp _ z
  rw [e] at hL; cases hL
/-- the end -/
theorem LcS.done {ρ : Ev} {F1 : Hp} {L : Addr} {w0 w1 : Wd} {H0 H1 : Hp} {M0 M1 : Mst} {Q : VK} {acc : List T} (e1 : Ext [] w0 H0 M0 w1 H1 M1) (h : LcS X W w1 H1 M1 σ ρ F1 L (CE X [] w0 H0 M0 Q) (fun M => .ok (.t (.lst acc)) M) acc H) : Q (.ref L) H := by
  obtain ⟨w, M, vs, fp, m, er, sF, hL, hFL, hnL, q, nd, dj, e0, hp0, p⟩ := h
  refine (p.now m) (.ref L) (L :: fp) ⟨.lst hL hFL q, nd, fun a ha k hk => ?_⟩ fun a ha => e1.pm (gs := []) (fun _ z => nomatch z) (hp0 a ha)
  rcases List.mem_cons.mp ha with rfl | ha
  · exact hnL k hk
  · exact dj a ha k hk
variable {G G1 : DenI} {g g1 : Tg} {own own1 : List Nat} {c c1 : DenT} {f : Den}
theorem rd_lc {Q : VK} (hsl : ∀ i ∈ g.slots, i ∈ own) (h : rdE X W (eLc G g own c f) σ H Q) : tLc (rdI X W G) (tgR X.K g) (rdT X W0 c) (rdE X W0 f) own σ H Q := by
  obtain ⟨w, ρ, M, m, er, p⟩ := h
  refine ⟨w, ρ, M, m, er, p.bindF.imp fun w1 H1 M1 items _ _ z => ?_⟩
  obtain ⟨e1, m1, p1⟩ := z
  intro J ok L hL
  have p2 := p1 [] fun _ z => nomatch z
  have st := LcS.new (kont := fun M => (lcL g own c f ρ items [] M).bind fun ts M2 => .ok (.t (.lst ts)) M2) m1 (er.stay e1) hL p2
  exact lc_loop hsl ok st fun acc' H h => LcS.done e1 h
theorem Post.resig {o : Out α} {C : Wd → Hp → Mst → α → Prop} {σ' : L2.St} {W' : WX} (h : Post X W σ fs w H M o C) (hn : ∀ e M', o ≠ .exc e M') : Post X W' σ' fs w H M o C := by
  cases o with
  | ok a M' => exact h
  | exc x M' => exact absurd rfl (hn x M')
  | bad => exact h
theorem noX_noexc (o : Out α) : ∀ e M', noX o ≠ .exc e M' := fun e M' z => by cases o <;> cases z
theorem bind_noexc {o : Out α} {k : α → Mst → Out β} (h : ∀ e M', o ≠ .exc e M') (hk : ∀ a M e M', k a M ≠ .exc e M') : ∀ e M', o.bind k ≠ .exc e M' := fun e M' z => by
  cases o with
  | ok a M => exact hk a M e M' z
  | exc x M => exact h x M rfl
  | bad => cases z
theorem lcL_noexc {ρ : Ev} : ∀ (items : List D) (acc : List T) (M : Mst) (e : Exc) (M' : Mst), lcL g own c f ρ items acc M ≠ .exc e M'
  | [], acc, M, e, M' => fun z => by unfold lcL at z; cases z
  | d :: ds, acc, M, e, M' => by
    unfold lcL
    split
    · exact fun z => nomatch z
    · refine bind_noexc (noX_noexc _) (fun k M2 e M' => ?_) e M'
      split
      · refine bind_noexc (noX_noexc _) (fun r M3 e M' => ?_) e M'
        split
        · exact lcL_noexc ds _ _ e M'
        · exact fun z => nomatch z
      · exact lcL_noexc ds _ _ e M'
theorem lcL2_noexc' {ρ : Ev} : ∀ (items : List D) (acc : List T) (M : Mst) (e : Exc) (M' : Mst), lcL2 g own c G1 g1 own1 c1 f ρ items acc M ≠ .exc e M'
  | [], acc, M, e, M' => fun z => by unfold lcL2 at z; cases z
  | d :: ds, acc, M, e, M' => by
    unfold lcL2
    split
    · exact fun z => nomatch z
    · refine bind_noexc (noX_noexc _) (fun k M2 e M' => ?_) e M'
      split
      · refine bind_noexc (noX_noexc _) (fun r M3 e M' => ?_) e M'
        exact bind_noexc (lcL_noexc _ _ _) (fun acc' M4 e M' => lcL2_noexc' ds _ _ e M') e M'
      · exact lcL2_noexc' ds _ _ e M'
theorem lcL2_noexc {ρ : Ev} (items : List D) (acc : List T) (M : Mst) : ∀ (e : Exc) (M' : Mst), ((lcL2 g own c G1 g1 own1 c1 f ρ items acc M).bind fun ts M2 => Out.ok (R.t (.lst ts)) M2) ≠ .exc e M' :=
  bind_noexc (lcL2_noexc' items acc M) fun _ _ _ _ z => nomatch z
theorem rd_lc2 {Q : VK} (hsl : ∀ i ∈ g.slots, i ∈ own) (hsl1 : ∀ i ∈ g1.slots, i ∈ own1) (h : rdE X W (eLc2 G g own c G1 g1 own1 c1 f) σ H Q) :
    tLc2 (rdI X W G) (tgR X.K g) (rdT X W0 c) (rdI X W0 G1) (tgR X.K g1) (rdT X W0 c1) (rdE X W0 f) own own1 σ H Q := by
  obtain ⟨w, ρ, M, m, er, p⟩ := h
  refine ⟨w, ρ, M, m, er, p.bindF.imp fun w1 H1 M1 items _ _ z => ?_⟩
  obtain ⟨e1, m1, p1⟩ := z
  intro J ok L hL
  have er1 := er.stay e1
  have p2 := p1 [] fun _ z => nomatch z
  have st := LcS.new (kont := fun M => (lcL2 g own c G1 g1 own1 c1 f ρ items [] M).bind fun ts M2 => .ok (.t (.lst ts)) M2) m1 (er.stay e1) hL p2
  refine ⟨fun i m H => i ≤ items.length ∧ m = items.length - i ∧ ∃ acc, LcS X W w1 H1 M1 σ ρ w1.F L (CE X [] w _ M Q) (fun M => (lcL2 g own c G1 g1 own1 c1 f ρ (items.drop i) acc M).bind fun ts M2 => .ok (.t (.lst ts)) M2) acc H, ⟨_, Nat.zero_le _, rfl, [], st⟩, ?_⟩
  rintro i mm H ⟨hi, rfl, acc, w, M, vs, fp, m, er, sF, hL, hFL, hnL, q, nd, dj, e0, hp0, p⟩
  by_cases hl : i < items.length
  · obtain ⟨d, hd⟩ : ∃ d, items[i]? = some d := ⟨items[i], List.getElem?_eq_getElem hl⟩
    obtain ⟨go1, go2⟩ := ok.go i w H M d m sF hd
    have ed : items.drop i = d :: items.drop (i + 1) := by
      rw [List.drop_eq_getElem_cons hl]
      rw [List.getElem?_eq_getElem hl] at hd
      rw [Option.some.inj hd]
    rw [ed] at p
    refine .inr ⟨go1, _, fun H' q => q, fun x H' y => ?_⟩
    obtain ⟨w', e', m', hx⟩ := go2 x H' y
    obtain ⟨hL', hFL', hnL', q', dj'⟩ := held e' hL hFL hnL q dj
    unfold lcL2 at p
    cases z : setT g d (wipeE ρ own) with
    | none => rw [z] at p; exact p.elim
    | some ρ1 =>
      rw [z] at p
      refine tg_run m' ((er.stay e').wipe own) hx z fun σ2 er2 hw => ⟨(hw own hsl).trans (wipe_wipe σ own), w', ρ1, M, m', er2, ?_⟩
      have p : Post X W σ (L :: fp) w' H' M (((noX (c ρ1 M)).bind fun k M2 => if k = true then (noX (G1 ρ1 M2)).bind fun items1 M3 => (lcL g1 own1 c1 f ρ1 items1 acc M3).bind fun acc' M4 => lcL2 g own c G1 g1 own1 c1 f ρ (items.drop (i + 1)) acc' M4
        else lcL2 g own c G1 g1 own1 c1 f ρ (items.drop (i + 1)) acc M2).bind fun ts M2 => Out.ok (R.t (.lst ts)) M2) _ := Post.from p (e'.mono fun _ z => nomatch z) fun a ha => .inr (.inr ha)
      rw [Out.bind_assoc] at p
      refine Post.unX (p.bindF.imp fun w2 H2 M2 k _ _ z => ?_)
      obtain ⟨e2, m2, p2⟩ := z
      obtain ⟨hL2, hFL2, hnL2, q2, dj2⟩ := held e2 hL' hFL' hnL' q' dj'
      cases k with
      | false =>
        rw [if_neg Bool.false_ne_true]
        refine ⟨_, by omega, hl, rfl, acc, w2, M2, vs, fp, m2, (er.stay e').stay e2, (sF.trans e'.F).trans e2.F, hL2, hFL2, hnL2, q2, nd, dj2, (e0.trans0 e').trans0 e2, hp0, ?_⟩
        have := p2 (L :: fp) fun a ha => .inr (.inr ha)
        rw [if_neg Bool.false_ne_true] at this
        exact this
      | true =>
        rw [if_pos rfl]
        have p3 := p2 (L :: fp) fun a ha => .inr (.inr ha)
        rw [if_pos rfl, Out.bind_assoc] at p3
        refine ⟨w2, ρ1, M2, m2, er2.stay e2, Post.unX (p3.bindF.imp fun w3 H3 M3 items1 _ _ z => ?_)⟩
        obtain ⟨e3, m3, p4⟩ := z
        intro J1 ok1
        obtain ⟨hL3, hFL3, hnL3, q3', dj3⟩ := held e3 hL2 hFL2 hnL2 q2 dj2
        have p5 := p4 (L :: fp) fun a ha => .inr (.inr ha)
        rw [Out.bind_assoc] at p5
        have er3 : ER X.K X.mg w3 M3 σ2 ρ1 := (er2.stay e2).stay e3
        have e03 := ((e0.trans0 e').trans0 e2).trans0 e3
        refine lc_loop (W := W) (w0 := w1) (H0 := H1) (M0 := M1) (σ := σ2) (ρ := ρ1) (L := L) (acc := acc) (kont := fun acc' M4 => (lcL2 g own c G1 g1 own1 c1 f ρ (items.drop (i + 1)) acc' M4).bind fun ts M2 => .ok (.t (.lst ts)) M2) hsl1 ok1
          ⟨w3, M3, vs, fp, m3, er3, Same.refl _, hL3, hFL3, hnL3, q3', nd, dj3, e03, hp0, Post.resig p5 (bind_noexc (lcL_noexc _ _ _) fun a M => lcL2_noexc _ a M)⟩ fun acc' H h => ?_
        obtain ⟨w, M, vs, fp, m, er, sF, hL, hFL, hnL, q, nd, dj, e0, hp0, p⟩ := h
        exact ⟨_, by omega, hl, rfl, acc', w, M, vs, fp, m, er1.stay e0, e0.F, hL, hFL, hnL, q, nd, dj, e0, hp0, Post.resig p (lcL2_noexc _ _ _)⟩
  · have e : i = items.length := by omega
    subst e
    rw [List.drop_length] at p
    exact .inl ⟨ok.stop _ w H M m sF (Nat.le_refl _), LcS.done e1 ⟨w, M, vs, fp, m, er, sF, hL, hFL, hnL, q, nd, dj, e0, hp0, p⟩⟩
end
end DL

/-! DL9: the rules of comprehensions; what is walked -/
namespace DL
open PySem L2 PySem.Spec PyProof.Rows
open RZ (ItzT pi_zipA)
def DTs (X : Cx) (W : WX) (ifs : List Expr) (c : DenT) : Prop := PTs X ifs (rdT X W c)
theorem _root_.L2.PTs.mono {X : Cx} {e : List Expr} {t t' : TT} (h : PTs X e t) (k : ∀ σ H Q, t' σ H Q → t σ H Q) : PTs X e t' := ⟨fun pins s σ H Q I q => h.run pins s σ H Q I (k _ _ _ q)⟩
section
variable {X : Cx} {W : WX} {σ : L2.St} {fs gs : List Addr} {w w2 : Wd} {H H2 : Hp} {M M2 : Mst}
variable {elt tg iter tg1 iter1 e e2 : Expr} {ifs ifs1 : List Expr} {scope : Scope} {own : List (Str × Nat)} {pos p : Pos} {G G1 : DenI} {g g1 : Tg} {c c1 : DenT} {f F Fa Fb : Den} {own2 own1 : List Nat}
theorem dts_nil : DTs X W [] tYesD := pts_nil.mono fun σ H Q h => by
  obtain ⟨w, ρ, M, m, er, p⟩ := h
  exact p.now m
theorem dts_one {c : Expr} {T : DenT} (h : DT X W c T) : DTs X W [c] T := pts_one h
/-- a block's context -/
abbrev Blk (X : Cx) (scope : Scope) (s : Shared) (H : Hp) (C : Addr) (cl : List (Str × Addr)) (fp : List Addr) : Cx := X.blk s H scope (compEnvC scope cl C X.env) fp
theorem de_lc (hc : X.calm = true) (hN : X.N.Nodup) (hi : DI X W tg iter G) (ok : BlkOk X.N X.env.scope scope own)
    (hg : ∀ (s : Shared) (H : Hp) (C : Addr) (cl : List (Str × Addr)) (fp : List Addr), DTg (Blk X scope s H C cl fp) tg g) (ht : ∀ (s : Shared) (H : Hp) (C : Addr) (cl : List (Str × Addr)) (fp : List Addr), DTs (Blk X scope s H C cl fp) W0 ifs c)
    (he : ∀ (s : Shared) (H : Hp) (C : Addr) (cl : List (Str × Addr)) (fp : List Addr), DE (Blk X scope s H C cl fp) W0 elt f) (ho : own.map (·.2) = own2 := by rfl) (hsl : ∀ i ∈ g.slots, i ∈ own2 := by decide) (hs : ∀ x, foldedSetIterable iter X.env x = pure x := by intro _; rfl) :
    DE X W (.ListComp elt [⟨tg, iter, ifs, 0⟩] scope pos) (eLc G g own2 c f) := by
  subst ho
  exact (pe_lc (wi := rdI X W G) (g := tgR X.K g) (tt := rdT X W0 c) (te := rdE X W0 f) hc hN hi ok hg ht he hs).mono fun _ _ _ h => rd_lc hsl h
theorem de_lc2 (hc : X.calm = true) (hN : X.N.Nodup) (hi : DI X W tg iter G) (ok : BlkOk X.N X.env.scope scope own) (hv : ∀ i ∈ own1, i ∈ own.map (·.2))
    (hg : ∀ (s : Shared) (H : Hp) (C : Addr) (cl : List (Str × Addr)) (fp : List Addr), DTg (Blk X scope s H C cl fp) tg g) (ht : ∀ (s : Shared) (H : Hp) (C : Addr) (cl : List (Str × Addr)) (fp : List Addr), DTs (Blk X scope s H C cl fp) W0 ifs c)
    (hi1 : ∀ (s : Shared) (H : Hp) (C : Addr) (cl : List (Str × Addr)) (fp : List Addr), DI (Blk X scope s H C cl fp) W0 tg1 iter1 G1)
    (hg1 : ∀ (s : Shared) (H : Hp) (C : Addr) (cl : List (Str × Addr)) (fp : List Addr), DTg (Blk X scope s H C cl fp) tg1 g1) (ht1 : ∀ (s : Shared) (H : Hp) (C : Addr) (cl : List (Str × Addr)) (fp : List Addr), DTs (Blk X scope s H C cl fp) W0 ifs1 c1)
    (he : ∀ (s : Shared) (H : Hp) (C : Addr) (cl : List (Str × Addr)) (fp : List Addr), DE (Blk X scope s H C cl fp) W0 elt f) (ho : own.map (·.2) = own2 := by rfl) (hsl : ∀ i ∈ g.slots, i ∈ own2 := by decide) (hsl1 : ∀ i ∈ g1.slots, i ∈ own1 := by decide)
    (hs : ∀ x, foldedSetIterable iter X.env x = pure x := by intro _; rfl) (hs1 : ∀ env x, foldedSetIterable iter1 env x = pure x := by intro _ _; rfl) :
    DE X W (.ListComp elt [⟨tg, iter, ifs, 0⟩, ⟨tg1, iter1, ifs1, 0⟩] scope pos) (eLc2 G g own2 c G1 g1 own1 c1 f) := by
  subst ho
  exact (pe_lc2 (wi := rdI X W G) (g := tgR X.K g) (tt := rdT X W0 c) (wi1 := rdI X W0 G1) (g1 := tgR X.K g1) (tt1 := rdT X W0 c1) (te := rdE X W0 f) hc hN hi ok hv hg ht hi1 hg1 ht1 he hs hs1).mono fun _ _ _ h => rd_lc2 hsl hsl1 h
variable {i : Nat} {y : Str} {py spos : Pos}
theorem rd_asg2 {g : TG} {Gd : DenG} {Dn : Ends} {t : TE} {Fe : Den} (ht : ∀ σ H Q, rdE X W Fe σ H Q → t σ H Q) (hg : ∀ v σ H Q, rdG X W Gd v σ H Q → g v σ H Q) (h : rdS X W (sAsg Fe Gd) Dn σ H) : tAsg t g Dn σ H := ht _ _ _ (rd_asg hg h)
/-- y = [..] on one line; Gd: gSet, or gSetM where the list is changed later -/
theorem ds_lc {Gd : DenG} (hGd : ∀ v σ H Q, rdG X W Gd v σ H Q → gName i v σ H Q) (hc : X.calm = true) (hN : X.N.Nodup) (hy : X.N[i]? = some y) (hyl : X.env.scope.names.lookup y = some .local)
    (hsw : swapsWith (.ListComp elt [⟨tg, iter, ifs, 0⟩] scope pos) (some (.Name y py)) spos.line X.env = pure true) (hi : DI X W tg iter G) (ok : BlkOk X.N X.env.scope scope own)
    (hg : ∀ (s : Shared) (H : Hp) (C : Addr) (cl : List (Str × Addr)) (fp : List Addr), DTg (Blk X scope s H C cl fp) tg g) (ht : ∀ (s : Shared) (H : Hp) (C : Addr) (cl : List (Str × Addr)) (fp : List Addr), DTs (Blk X scope s H C cl fp) W0 ifs c)
    (he : ∀ (s : Shared) (H : Hp) (C : Addr) (cl : List (Str × Addr)) (fp : List Addr), DE (Blk X scope s H C cl fp) W0 elt f) (ho : own.map (·.2) = own2 := by rfl) (hsl : ∀ i ∈ g.slots, i ∈ own2 := by decide) (hs : ∀ x, foldedSetIterable iter X.env x = pure x := by intro _; rfl) :
    DS X W (.Assign [.Name y py] (.ListComp elt [⟨tg, iter, ifs, 0⟩] scope pos) spos) (sAsg (eLc G g own2 c f) Gd) := by
  subst ho
  exact (ps_setLc (wi := rdI X W G) (g := tgR X.K g) (tt := rdT X W0 c) (te := rdE X W0 f) hc hN hy hyl hsw hi ok hg ht he hs).mono fun _ _ _ h => rd_asg2 (fun _ _ _ h => rd_lc hsl h) hGd h
theorem ds_lc2 {Gd : DenG} (hGd : ∀ v σ H Q, rdG X W Gd v σ H Q → gName i v σ H Q) (hc : X.calm = true) (hN : X.N.Nodup) (hy : X.N[i]? = some y) (hyl : X.env.scope.names.lookup y = some .local)
    (hsw : swapsWith (.ListComp elt [⟨tg, iter, ifs, 0⟩, ⟨tg1, iter1, ifs1, 0⟩] scope pos) (some (.Name y py)) spos.line X.env = pure true) (hi : DI X W tg iter G) (ok : BlkOk X.N X.env.scope scope own) (hv : ∀ i ∈ own1, i ∈ own.map (·.2))
    (hg : ∀ (s : Shared) (H : Hp) (C : Addr) (cl : List (Str × Addr)) (fp : List Addr), DTg (Blk X scope s H C cl fp) tg g) (ht : ∀ (s : Shared) (H : Hp) (C : Addr) (cl : List (Str × Addr)) (fp : List Addr), DTs (Blk X scope s H C cl fp) W0 ifs c)
    (hi1 : ∀ (s : Shared) (H : Hp) (C : Addr) (cl : List (Str × Addr)) (fp : List Addr), DI (Blk X scope s H C cl fp) W0 tg1 iter1 G1)
    (hg1 : ∀ (s : Shared) (H : Hp) (C : Addr) (cl : List (Str × Addr)) (fp : List Addr), DTg (Blk X scope s H C cl fp) tg1 g1) (ht1 : ∀ (s : Shared) (H : Hp) (C : Addr) (cl : List (Str × Addr)) (fp : List Addr), DTs (Blk X scope s H C cl fp) W0 ifs1 c1)
    (he : ∀ (s : Shared) (H : Hp) (C : Addr) (cl : List (Str × Addr)) (fp : List Addr), DE (Blk X scope s H C cl fp) W0 elt f) (ho : own.map (·.2) = own2 := by rfl) (hsl : ∀ i ∈ g.slots, i ∈ own2 := by decide) (hsl1 : ∀ i ∈ g1.slots, i ∈ own1 := by decide)
    (hs : ∀ x, foldedSetIterable iter X.env x = pure x := by intro _; rfl) (hs1 : ∀ env x, foldedSetIterable iter1 env x = pure x := by intro _ _; rfl) :
    DS X W (.Assign [.Name y py] (.ListComp elt [⟨tg, iter, ifs, 0⟩, ⟨tg1, iter1, ifs1, 0⟩] scope pos) spos) (sAsg (eLc2 G g own2 c G1 g1 own1 c1 f) Gd) := by
  subst ho
  exact (ps_setLc2 (wi := rdI X W G) (g := tgR X.K g) (tt := rdT X W0 c) (wi1 := rdI X W0 G1) (g1 := tgR X.K g1) (tt1 := rdT X W0 c1) (te := rdE X W0 f) hc hN hy hyl hsw hi ok hv hg ht hi1 hg1 ht1 he hs hs1).mono fun _ _ _ h => rd_asg2 (fun _ _ _ h => rd_lc2 hsl hsl1 h) hGd h

/-! ### what is walked: data -/
def chars (x : Str) : List D := x.cps.toList.map fun c => .str ⟨#[c]⟩
def items : D → Option (List D)
  | .lst ds => some ds
  | .tupP _ ds => some ds
  | .ro ds => some ds
  | .str x => some (chars x)
  | _ => none
def iOf (F : Den) : DenI := fun ρ M => (F ρ M).bind fun r M1 => match items (frzR M1 r) with
  | some ds => .ok ds (frzM M1 r)
  | none => .bad
theorem ItOk.list {F1 : Hp} {a : Addr} {vs : List V} {ds : List D} (h : SqL X.K F1 a vs) (l : DpL X.K X.mg F1 vs ds) : ItOk X.K X.mg F1 (Itl X.K a) ds where
  go := fun i w H M d m sF hd => by
    obtain ⟨v, h1, h2⟩ := l.get hd
    have hq : SqL X.K H a vs := (sF.trans m.sub).seq h
    exact ⟨⟨vs, v, hq, h1⟩, fun x H' ⟨e, y⟩ => by
      subst e
      have := y vs hq
      rw [h1] at this
      cases this
      exact ⟨w, Ext.refl m, m, h2.mono sF⟩⟩
  stop := fun i w H M m sF hi => ⟨vs, (sF.trans m.sub).seq h, by rw [l.length]; exact hi⟩
theorem ItOk.tup {F1 : Hp} {a : Addr} {vs : List V} {ds : List D} (h : SqT X.K F1 a vs) (l : DpL X.K X.mg F1 vs ds) : ItOk X.K X.mg F1 (Itt X.K a) ds where
  go := fun i w H M d m sF hd => by
    obtain ⟨v, h1, h2⟩ := l.get hd
    have hq : SqT X.K H a vs := Same.seqT (sF.trans m.sub) h
    exact ⟨⟨vs, v, hq, h1⟩, fun x H' ⟨e, y⟩ => by
      subst e
      have := y vs hq
      rw [h1] at this
      cases this
      exact ⟨w, Ext.refl m, m, h2.mono sF⟩⟩
  stop := fun i w H M m sF hi => ⟨vs, Same.seqT (sF.trans m.sub) h, by rw [l.length]; exact hi⟩
theorem ItOk.text {F1 : Hp} {x : Str} : ItOk X.K X.mg F1 (Its x) (chars x) where
  go := fun i w H M d m sF hd => by
    unfold chars at hd
    rw [List.getElem?_map] at hd
    cases z : x.cps.toList[i]? with
    | none => rw [z] at hd; cases hd
    | some c =>
      rw [z] at hd
      cases hd
      have hi : x.cps[i]? = some c := by simpa using z
      have hl : i < x.cps.size := (Array.getElem?_eq_some_iff.mp hi).1
      exact ⟨hl, fun v H' ⟨e, c', hc', ev⟩ => by
        subst e ev
        rw [hi] at hc'
        cases hc'
        exact ⟨w, Ext.refl m, m, .str _⟩⟩
  stop := fun i w H M m sF hi => by
    show x.cps.size ≤ i
    simpa [chars] using hi
theorem di_data (h : DE X W e F) : DI X W tg e (iOf F) := (PI.or (pi_list h) (PI.or (pi_tup h) (pi_str h))).mono fun σ H Q hq => by
  obtain ⟨w, ρ, M, m, er, p⟩ := hq
  have p : Post X W σ [] w H M ((F ρ M).bind fun r M1 => match items (frzR M1 r) with
    | some ds => .ok ds (frzM M1 r)
    | none => .bad) _ := p
  have key : ∀ (Q' : V → Hp → Prop), (∀ w1 H1 M1 r v fp w2 ds, F ρ M = .ok r M1 → items (frzR M1 r) = some ds → MR X.K X.mg w2 H1 (frzM M1 r) → Dp X.K X.mg w2.F v (frzR M1 r) → (∀ J, ItOk X.K X.mg w2.F J ds → Q J H1) → Q' v H1) → rdE X W F σ H Q' := fun Q' k => by
    refine ⟨w, ρ, M, m, er, ?_⟩
    cases z : F ρ M with
    | bad => rw [z] at p; exact p
    | exc x M' => rw [z] at p; exact p
    | ok r M1 =>
      rw [z] at p
      intro w1 H1 e1 m1 v fp q hf
      obtain ⟨w2, e2, m2, d2, _⟩ := settle m1 q
      have p : Post X W σ [] w H M (match items (frzR M1 r) with
        | some ds => .ok ds (frzM M1 r)
        | none => .bad) (fun w' H' M' items => ∀ J, ItOk X.K X.mg w'.F J items → Q J H') := p
      cases z2 : items (frzR M1 r) with
      | none => rw [z2] at p; exact p.elim
      | some ds =>
        rw [z2] at p
        exact k w1 H1 M1 r v fp w2 ds z z2 m2 d2 fun J hJ => p w2 H1 (e1.trans e2 hf) m2 J hJ
  cases z : F ρ M with
  | bad => rw [z] at p; exact p.elim
  | exc x M' => exact .inl (key _ fun w1 H1 M1 r v fp w2 ds hz => by rw [z] at hz; cases hz)
  | ok r0 M0 =>
    have zz : ∀ {r M1}, F ρ M = .ok r M1 → r = r0 ∧ M1 = M0 := fun h => by rw [z] at h; cases h; exact ⟨rfl, rfl⟩
    cases z2 : frzR M0 r0 with
    | lst ds0 =>
      refine .inl (key _ fun w1 H1 M1 r v fp w2 ds hz hi m2 d2 k => ?_)
      obtain ⟨rfl, rfl⟩ := zz hz
      rw [z2] at d2 hi; cases hi
      cases d2 with
      | lst h l => exact ⟨_, rfl, ⟨_, SqL.of (m2.sub _ _ h)⟩, k _ (ItOk.list (SqL.of h) l)⟩
    | ro ds0 =>
      refine .inl (key _ fun w1 H1 M1 r v fp w2 ds hz hi m2 d2 k => ?_)
      obtain ⟨rfl, rfl⟩ := zz hz
      rw [z2] at d2 hi; cases hi
      cases d2 with
      | ro h l => exact ⟨_, rfl, ⟨_, m2.sub.seq h⟩, k _ (ItOk.list h l)⟩
    | tupP p0 ds0 =>
      refine .inr (.inl (key _ fun w1 H1 M1 r v fp w2 ds hz hi m2 d2 k => ?_))
      obtain ⟨rfl, rfl⟩ := zz hz
      rw [z2] at d2 hi; cases hi
      cases d2 with
      | tupP h l => exact ⟨_, rfl, ⟨_, Same.seqT m2.sub h.1⟩, k _ (ItOk.tup h.1 l)⟩
    | str x =>
      refine .inr (.inr (key _ fun w1 H1 M1 r v fp w2 ds hz hi m2 d2 k => ?_))
      obtain ⟨rfl, rfl⟩ := zz hz
      rw [z2] at d2 hi; cases hi
      cases d2
      exact ⟨x, rfl, k _ ItOk.text⟩
    | non => exact .inl (key _ fun w1 H1 M1 r v fp w2 ds hz hi => by obtain ⟨rfl, rfl⟩ := zz hz; rw [z2] at hi; cases hi)
    | bl _ => exact .inl (key _ fun w1 H1 M1 r v fp w2 ds hz hi => by obtain ⟨rfl, rfl⟩ := zz hz; rw [z2] at hi; cases hi)
    | int _ => exact .inl (key _ fun w1 H1 M1 r v fp w2 ds hz hi => by obtain ⟨rfl, rfl⟩ := zz hz; rw [z2] at hi; cases hi)
    | ins _ _ => exact .inl (key _ fun w1 H1 M1 r v fp w2 ds hz hi => by obtain ⟨rfl, rfl⟩ := zz hz; rw [z2] at hi; cases hi)
    | glo _ => exact .inl (key _ fun w1 H1 M1 r v fp w2 ds hz hi => by obtain ⟨rfl, rfl⟩ := zz hz; rw [z2] at hi; cases hi)
    | ty _ => exact .inl (key _ fun w1 H1 M1 r v fp w2 ds hz hi => by obtain ⟨rfl, rfl⟩ := zz hz; rw [z2] at hi; cases hi)
    | dic _ => exact .inl (key _ fun w1 H1 M1 r v fp w2 ds hz hi => by obtain ⟨rfl, rfl⟩ := zz hz; rw [z2] at hi; cases hi)
    | junk => exact .inl (key _ fun w1 H1 M1 r v fp w2 ds hz hi => by obtain ⟨rfl, rfl⟩ := zz hz; rw [z2] at hi; cases hi)
    | exn _ _ => exact .inl (key _ fun w1 H1 M1 r v fp w2 ds hz hi => by obtain ⟨rfl, rfl⟩ := zz hz; rw [z2] at hi; cases hi)

/-! ### ranges -/
def rangeD (lo : Int) (n : Nat) : List D := (List.range n).map fun i => .int (lo + (i : Nat))
theorem ItOk.range {F1 : Hp} {lo : Int} {n : Nat} : ItOk X.K X.mg F1 (Itr lo n) (rangeD lo n) where
  go := fun i w H M d m sF hd => by
    unfold rangeD at hd
    rw [List.getElem?_map] at hd
    by_cases hi : i < n
    · rw [List.getElem?_eq_getElem (by simpa using hi)] at hd
      simp at hd
      subst hd
      exact ⟨hi, fun x H' ⟨e, y⟩ => by subst e y; exact ⟨w, Ext.refl m, m, .int _⟩⟩
    · rw [List.getElem?_eq_none (by simpa using hi)] at hd; cases hd
  stop := fun i w H M m sF hi => by
    show n ≤ i
    simpa [rangeD] using hi
def iRange1 (A : DenA) : DenI := fun ρ M => (A ρ M).bind fun rs M1 => match rs.map (frzR M1) with
  | [.int j] => if j < 1000000000 ∧ -1000000000 < j then .ok (rangeD 0 j.toNat) M1 else .bad
  | _ => .bad
def iRange2 (A : DenA) : DenI := fun ρ M => (A ρ M).bind fun rs M1 => match rs.map (frzR M1) with
  | [.int i, .int j] => if (j < 1000000000 ∧ -1000000000 < j) ∧ (i < 1000000000 ∧ -1000000000 < i) then .ok (rangeD i (j - i).toNat) M1 else .bad
  | _ => .bad
theorem seenL {rs : List R} {vs : List V} {fp : List Addr} (m : MR X.K X.mg w H M) (h : RRL X.K X.mg w H M vs rs fp) : DpL X.K X.mg H vs (rs.map (frzR M)) := by
  induction h with
  | nil => exact .nil
  | cons h r _ ih => exact .cons (seen m h) ih
theorem di_range1 {A : DenA} (hg : Gl X "range") (hm : X.mg "range" = none) (ha : DA X W [e] A) (hs : starEach [e] X.env = [(false, eval e X.env)] := by rfl) : DI X W tg (.Call (.Name "range" p) [e] [] pos) (iRange1 A) :=
  (pi_range1 hg hm ha hs).mono fun σ H R h => by
    obtain ⟨w, ρ, M, m, er, p⟩ := h
    refine ⟨w, ρ, M, m, er, p.bindF.imp fun w1 H1 M1 rs _ _ z => ?_⟩
    obtain ⟨e1, m1, p1⟩ := z
    intro vs fp q hf
    replace p1 := p1 [] fun _ z => nomatch z
    have s := seenL m1 q
    split at p1
    · rename_i j hj
      split at p1
      · rename_i hb
        rw [hj] at s
        cases s with
        | cons s1 s2 => cases s1; cases s2; exact ⟨j, rfl, by omega, by omega, p1.now m1 _ ItOk.range⟩
      · exact p1.elim
    · exact p1.elim
theorem di_range2 {A : DenA} (hg : Gl X "range") (hm : X.mg "range" = none) (ha : DA X W [e, e2] A) (hs : starEach [e, e2] X.env = [(false, eval e X.env), (false, eval e2 X.env)] := by rfl) (hs2 : starEach [e2] X.env = [(false, eval e2 X.env)] := by rfl) : DI X W tg (.Call (.Name "range" p) [e, e2] [] pos) (iRange2 A) :=
  (pi_range2 hg hm ha hs hs2).mono fun σ H R h => by
    obtain ⟨w, ρ, M, m, er, p⟩ := h
    refine ⟨w, ρ, M, m, er, p.bindF.imp fun w1 H1 M1 rs _ _ z => ?_⟩
    obtain ⟨e1, m1, p1⟩ := z
    intro vs fp q hf
    replace p1 := p1 [] fun _ z => nomatch z
    have s := seenL m1 q
    split at p1
    · rename_i i j hj
      split at p1
      · rename_i hb
        rw [hj] at s
        cases s with
        | cons s1 s2 =>
          cases s2 with
          | cons s2 s3 => cases s1; cases s2; cases s3; exact ⟨i, j, rfl, by omega, p1.now m1 _ ItOk.range⟩
      · exact p1.elim
    · exact p1.elim
/-! ### pairs -/
/-- a new frozen tuple -/
theorem new_tup {tp : Addr} {vs : List V} {ds : List D} (m : MR X.K X.mg w H M) (hT : H tp = none) (h : DpL X.K X.mg w.F vs ds) : ∃ w', Ext [] w H M w' (upd H tp (.tup vs)) M ∧ MR X.K X.mg w' (upd H tp (.tup vs)) M ∧ Dp X.K X.mg w'.F (.ref tp) (.tup ds) := by
  have q := RR.newT (fp := []) m hT h.trees List.nodup_nil fun _ z => nomatch z
  obtain ⟨w', e', m', d, _⟩ := settle (m.new (o := .tup vs) hT) q
  refine ⟨w', (Ext.new m hT).trans e' fun a ha => .inl (by rw [List.mem_singleton.mp ha]; exact hT), m', ?_⟩
  have : frzR M (.t (.tup (ds.map T.d))) = .tup ds := by show D.tup (frzL (ds.map T.d)) = _; rw [frzL_d]
  rw [this] at d
  exact d
def enumD (ds : List D) : List D := (List.range ds.length).zipWith (fun i d => .tup [.int (i : Nat), d]) ds
def pairD (as bs : List D) : List D := as.zipWith (fun a b => .tup [a, b]) bs
theorem ItOk.enum {F1 : Hp} {a : Addr} {vs : List V} {ds : List D} (h : SqL X.K F1 a vs) (l : DpL X.K X.mg F1 vs ds) : ItOk X.K X.mg F1 (Ite X.K a) (enumD ds) where
  go := fun i w H M d m sF hd => by
    unfold enumD at hd
    rw [List.getElem?_zipWith] at hd
    cases z : ds[i]? with
    | none => rw [z] at hd; split at hd <;> simp_all
    | some d' =>
      have hi : i < ds.length := (List.getElem?_eq_some_iff.mp z).1
      rw [z, List.getElem?_eq_getElem (by simpa using hi)] at hd
      simp at hd
      subst hd
      obtain ⟨v, h1, h2⟩ := l.get z
      have hq : SqL X.K H a vs := (sF.trans m.sub).seq h
      exact ⟨⟨vs, v, hq, h1⟩, fun x H' ⟨T, y, ex, hT, eH, k⟩ => by
        subst ex eH
        have := k vs hq
        rw [h1] at this
        cases this
        exact new_tup m hT (.cons (.int _) (.cons (h2.mono sF) .nil))⟩
  stop := fun i w H M m sF hi => ⟨vs, (sF.trans m.sub).seq h, by rw [l.length]; simpa [enumD] using hi⟩
theorem ItOk.zip {F1 : Hp} {a b : Addr} {vs us : List V} {ds es : List D} (h : SqL X.K F1 a vs) (l : DpL X.K X.mg F1 vs ds) (h' : SqL X.K F1 b us) (l' : DpL X.K X.mg F1 us es) : ItOk X.K X.mg F1 (Itz X.K a b) (pairD ds es) where
  go := fun i w H M d m sF hd => by
    unfold pairD at hd
    rw [List.getElem?_zipWith] at hd
    split at hd
    · rename_i d1 d2 z1 z2
      cases hd
      obtain ⟨v, h1, h2⟩ := l.get z1
      obtain ⟨u, h3, h4⟩ := l'.get z2
      have hq : SqL X.K H a vs := (sF.trans m.sub).seq h
      have hq' : SqL X.K H b us := (sF.trans m.sub).seq h'
      exact ⟨⟨vs, us, v, u, hq, hq', h1, h3⟩, fun x H' ⟨T, y, y', ex, hT, eH, k, k'⟩ => by
        subst ex eH
        have e1 := k vs hq
        have e2 := k' us hq'
        rw [h1] at e1; rw [h3] at e2
        cases e1; cases e2
        exact new_tup m hT (.cons (h2.mono sF) (.cons (h4.mono sF) .nil))⟩
    · cases hd
  stop := fun i w H M m sF hi => ⟨vs, us, (sF.trans m.sub).seq h, (sF.trans m.sub).seq h', by rw [l.length, l'.length]; simp [pairD] at hi; omega⟩
theorem ItOk.zipT {F1 : Hp} {a b : Addr} {vs us : List V} {ds es : List D} (h : SqT X.K F1 a vs) (l : DpL X.K X.mg F1 vs ds) (h' : SqT X.K F1 b us) (l' : DpL X.K X.mg F1 us es) : ItOk X.K X.mg F1 (ItzT X.K a b) (pairD ds es) where
  go := fun i w H M d m sF hd => by
    unfold pairD at hd
    rw [List.getElem?_zipWith] at hd
    split at hd
    · rename_i d1 d2 z1 z2
      cases hd
      obtain ⟨v, h1, h2⟩ := l.get z1
      obtain ⟨u, h3, h4⟩ := l'.get z2
      have hq : SqT X.K H a vs := Same.seqT (sF.trans m.sub) h
      have hq' : SqT X.K H b us := Same.seqT (sF.trans m.sub) h'
      exact ⟨⟨vs, us, v, u, hq, hq', h1, h3⟩, fun x H' ⟨T, y, y', ex, hT, eH, k, k'⟩ => by
        subst ex eH
        have e1 := k vs hq
        have e2 := k' us hq'
        rw [h1] at e1; rw [h3] at e2
        cases e1; cases e2
        exact new_tup m hT (.cons (h2.mono sF) (.cons (h4.mono sF) .nil))⟩
    · cases hd
  stop := fun i w H M m sF hi => ⟨vs, us, Same.seqT (sF.trans m.sub) h, Same.seqT (sF.trans m.sub) h', by rw [l.length, l'.length]; simp [pairD] at hi; omega⟩
/-- all results become data -/
def frzMs : List R → Mst → Mst
  | [], M => M
  | r :: rs, M => frzMs rs (frzM M r)
def frzRs : List R → Mst → List D
  | [], _ => []
  | r :: rs, M => frzR M r :: frzRs rs (frzM M r)
theorem settleAll {rs : List R} : ∀ {vs : List V} {fp : List Addr} {w : Wd} {H : Hp} {M : Mst}, MR X.K X.mg w H M → RRL X.K X.mg w H M vs rs fp → ∃ w', Ext fp w H M w' H (frzMs rs M) ∧ MR X.K X.mg w' H (frzMs rs M) ∧ DpL X.K X.mg w'.F vs (frzRs rs M) := by
  induction rs with
  | nil => intro vs fp w H M m h; cases h; exact ⟨w, Ext.refl m, m, .nil⟩
  | cons r rs ih =>
    intro vs fp w H M m h
    cases h with
    | @cons v vs _ _ f1 f2 h1 h2 dj =>
      obtain ⟨w1, e1, m1, v1, _⟩ := settle m h1
      obtain ⟨w2, e2, m2, v2⟩ := ih m1 (h2.stay e1 fun a ha hb => dj a hb ha)
      exact ⟨w2, (e1.mono fun a ha => List.mem_append_left _ ha).trans e2 fun a ha => .inr (.inr (List.mem_append_right _ ha)), m2, .cons (v1.mono e2.F) v2⟩
def iEnumD (A : DenA) : DenI := fun ρ M => (A ρ M).bind fun rs M1 => match frzRs rs M1 with
  | [.lst ds] => .ok (enumD ds) (frzMs rs M1)
  | _ => .bad
def iZipD (A : DenA) : DenI := fun ρ M => (A ρ M).bind fun rs M1 => match frzRs rs M1 with
  | [.lst ds, .lst es] => .ok (pairD ds es) (frzMs rs M1)
  | [.tupP _ ds, .tupP _ es] => .ok (pairD ds es) (frzMs rs M1)
  | _ => .bad
theorem di_enum {elts : List Expr} {kk : Nat} {tpos : Pos} {A : DenA} (hg : Gl X "enumerate") (hm : X.mg "enumerate" = none) (ha : DA X W [e] A) (hs : starEach [e] X.env = [(false, eval e X.env)] := by rfl) :
    DI X W (.Tuple elts kk tpos) (.Call (.Name "enumerate" p) [e] [] pos) (iEnumD A) := (pi_enum hg hm ha hs).mono fun σ H R h => by
  obtain ⟨w, ρ, M, m, er, p⟩ := h
  refine ⟨w, ρ, M, m, er, p.bindF.imp fun w1 H1 M1 rs _ _ z => ?_⟩
  obtain ⟨e1, m1, p1⟩ := z
  intro vs fp q hf
  replace p1 := p1 fp hf
  obtain ⟨w2, e2, m2, d⟩ := settleAll m1 q
  split at p1
  · rename_i ds hd
    rw [hd] at d
    cases d with
    | cons d1 d2 =>
      cases d2
      cases d1 with
      | lst h l => exact ⟨_, _, rfl, SqL.of (m2.sub _ _ h), p1 w2 H1 e2 m2 _ (ItOk.enum (SqL.of h) l)⟩
  · exact p1.elim
theorem di_zip {elts : List Expr} {kk : Nat} {tpos : Pos} {A : DenA} (hg : Gl X "zip") (hm : X.mg "zip" = none) (ha : DA X W [e, e2] A)
    (hs : starEach [e, e2] X.env = (false, eval e X.env) :: starEach [e2] X.env := by rfl) (hpl : (backTo pos (starEach [e2] X.env)).any (·.1) = false := by rfl) :
    DI X W (.Tuple elts kk tpos) (.Call (.Name "zip" p) [e, e2] [] pos) (iZipD A) := (pi_zipA hg hm ha hs hpl).mono fun σ H R h => by
  obtain ⟨w, ρ, M, m, er, p⟩ := h
  refine ⟨w, ρ, M, m, er, p.bindF.imp fun w1 H1 M1 rs _ _ z => ?_⟩
  obtain ⟨e1, m1, p1⟩ := z
  intro vs fp q hf
  replace p1 := p1 fp hf
  obtain ⟨w2, e2, m2, d⟩ := settleAll m1 q
  split at p1
  · rename_i ds es hd
    rw [hd] at d
    cases d with
    | cons d1 d2 =>
      cases d2 with
      | cons d2 d3 =>
        cases d3
        cases d1 with
        | lst h l =>
          cases d2 with
          | lst h' l' => exact ⟨_, _, _, _, rfl, .inl ⟨SqL.of (m2.sub _ _ h), SqL.of (m2.sub _ _ h'), p1 w2 H1 e2 m2 _ (ItOk.zip (SqL.of h) l (SqL.of h') l')⟩⟩
  · rename_i ds es hd
    rw [hd] at d
    cases d with
    | cons d1 d2 =>
      cases d2 with
      | cons d2 d3 =>
        cases d3
        cases d1 with
        | tupP h l =>
          cases d2 with
          | tupP h' l' => exact ⟨_, _, _, _, rfl, .inr ⟨Same.seqT m2.sub h.1, Same.seqT m2.sub h'.1, p1 w2 H1 e2 m2 _ (ItOk.zipT h.1 l h'.1 l')⟩⟩
  · exact p1.elim
end
end DL

/-! DL10: sequences: copies, slices, items, sums; == and in -/
namespace DL
open PySem L2 PySem.Spec PyProof.Rows
/-- what a sequence is, by its items -/
inductive Sq where
  | l (ds : List D) | t (ds : List D) | ro (ds : List D) | s (x : Str)
def Sq.ds : Sq → List D
  | .l ds => ds
  | .t ds => ds
  | .ro ds => ds
  | .s x => chars x
def allD : List T → Option (List D)
  | [] => some []
  | .d x :: r => (allD r).map (x :: ·)
  | _ => none
theorem allD_map (ds : List D) : allD (ds.map T.d) = some ds := by
  induction ds with
  | nil => rfl
  | cons x r ih => simp [allD, ih]
def sqD : D → Option Sq
  | .lst ds => some (.l ds)
  | .tupP _ ds => some (.t ds)
  | .ro ds => some (.ro ds)
  | .str x => some (.s x)
  | _ => none
def peek (M : Mst) : R → Option (List D)
  | .h k => match M.getD k (.d .non) with
    | .lst ts => allD ts
    | _ => none
  | .t _ => none
def src (M : Mst) (r : R) : Option (Sq × Mst) := match peek M r with
  | some ds => some (.l ds, M)
  | none => match sqD (frzR M r) with
    | some q => some (q, frzM M r)
    | none => none
section
variable {X : Cx} {W : WX} {σ : L2.St} {fs gs : List Addr} {w w2 : Wd} {H H2 : Hp} {M M2 : Mst}
variable {e o a b c : Expr} {es : List Expr} {F Fa Fb Fc : Den} {A : DenA} {pos p apos cpos p2 : Pos} {x m : Str}
/-- how a sequence lies -/
def SqAt (X : Cx) (F H : Hp) (v : V) : Sq → Prop
  | .l ds => ∃ a vs, v = .ref a ∧ H a = some (.lst vs) ∧ DpL X.K X.mg F vs ds
  | .t ds => ∃ a vs, v = .ref a ∧ SqT X.K F a vs ∧ DpL X.K X.mg F vs ds
  | .ro ds => ∃ a vs, v = .ref a ∧ SqL X.K F a vs ∧ DpL X.K X.mg F vs ds
  | .s x => v = .str x
theorem allD_at {vs : List V} {ts : List T} {fp : List Addr} {ds : List D} (h : TRL X.K X.mg w.F H vs ts fp) (e : allD ts = some ds) : DpL X.K X.mg w.F vs ds := by
  induction ts generalizing vs fp ds with
  | nil => cases h; cases e; exact .nil
  | cons t r ih =>
    cases h with
    | cons h1 h2 =>
      cases t with
      | d x =>
        unfold allD at e
        cases z : allD r with
        | none => rw [z] at e; cases e
        | some ds' =>
          rw [z] at e
          cases e
          cases h1 with
          | d h1 => exact .cons h1 (ih h2 z)
      | lst _ => cases e
      | tup _ => cases e
      | ins _ _ => cases e
      | dic _ => cases e
      | tbl => cases e
theorem src_ok {v : V} {r : R} {fp : List Addr} {q : Sq} {M' : Mst} (m : MR X.K X.mg w H M) (h : RR X.K X.mg w H M v r fp) (e : src M r = some (q, M')) : ∃ w', Ext fp w H M w' H M' ∧ MR X.K X.mg w' H M' ∧ SqAt X w'.F H v q := by
  unfold src at e
  cases z : peek M r with
  | some ds =>
    rw [z] at e
    cases e
    refine ⟨w, Ext.refl m, m, ?_⟩
    cases r with
    | t x => cases z
    | h k =>
      obtain ⟨hk, rfl, rfl⟩ := h
      unfold peek at z
      obtain ⟨x, hx⟩ : ∃ x, M[k]? = some x := ⟨M[k], List.getElem?_eq_getElem hk⟩
      have q := (m.obj k x hx).1
      dsimp only at z
      rw [getD_of hx] at z
      cases x with
      | lst ts =>
        generalize w.φ k = fp at q
        generalize hv : V.ref (w.α k) = v at q
        cases q with
        | lst h1 h2 h3 => cases hv; exact ⟨_, _, rfl, h1, allD_at h3 z⟩
      | d _ => cases z
      | tup _ => cases z
      | ins _ _ => cases z
      | dic _ => cases z
      | tbl => cases z
  | none =>
    rw [z] at e
    obtain ⟨w', e', m', d, _⟩ := settle m h
    cases z2 : frzR M r with
    | lst ds => rw [z2] at e d; cases e; cases d with | lst hh l => exact ⟨w', e', m', _, _, rfl, m'.sub _ _ hh, l⟩
    | tupP p0 ds => rw [z2] at e d; cases e; cases d with | tupP hh l => exact ⟨w', e', m', _, _, rfl, hh.1, l⟩
    | ro ds => rw [z2] at e d; cases e; cases d with | ro hh l => exact ⟨w', e', m', _, _, rfl, hh, l⟩
    | str s => rw [z2] at e d; cases e; cases d; exact ⟨w', e', m', rfl⟩
    | non => rw [z2] at e; cases e
    | bl _ => rw [z2] at e; cases e
    | int _ => rw [z2] at e; cases e
    | ins _ _ => rw [z2] at e; cases e
    | glo _ => rw [z2] at e; cases e
    | ty _ => rw [z2] at e; cases e
    | dic _ => rw [z2] at e; cases e
    | junk => rw [z2] at e; cases e
    | exn _ _ => rw [z2] at e; cases e
/-- a new list of data -/
theorem new_lst {q : Addr} {vs : List V} {ds : List D} (m : MR X.K X.mg w H M) (hq : H q = none) (h : DpL X.K X.mg w.F vs ds) : RR X.K X.mg w (upd H q (.lst vs)) M (.ref q) (.t (.lst (ds.map T.d))) [q] := RR.newL m hq h.trees List.nodup_nil fun _ z => nomatch z
theorem new_tupT {q : Addr} {vs : List V} {ds : List D} (m : MR X.K X.mg w H M) (hq : H q = none) (h : DpL X.K X.mg w.F vs ds) : RR X.K X.mg w (upd H q (.tup vs)) M (.ref q) (.t (.tup (ds.map T.d))) [q] := RR.newT m hq h.trees List.nodup_nil fun _ z => nomatch z
/-- the wish at a new list -/
theorem CE.lst {w' : Wd} {M' : Mst} {Q : VK} {q : Addr} {vs : List V} {ds : List D} (p : Post X W σ fs w H M (.ok (.t (.lst (ds.map T.d))) M') (CE X fs w H M Q)) (e : Ext fs w H M w' H M') (m : MR X.K X.mg w' H M') (hq : H q = none) (h : DpL X.K X.mg w'.F vs ds) : Q (.ref q) (upd H q (.lst vs)) :=
  p w' _ (e.trans0 (Ext.new m hq)) (m.new hq) _ [q] (new_lst m hq h) fun a ha => .inl (by rw [List.mem_singleton.mp ha]; exact hq)
theorem CE.tup {w' : Wd} {M' : Mst} {Q : VK} {q : Addr} {vs : List V} {ds : List D} (p : Post X W σ fs w H M (.ok (.t (.tup (ds.map T.d))) M') (CE X fs w H M Q)) (e : Ext fs w H M w' H M') (m : MR X.K X.mg w' H M') (hq : H q = none) (h : DpL X.K X.mg w'.F vs ds) : Q (.ref q) (upd H q (.tup vs)) :=
  p w' _ (e.trans0 (Ext.new m hq)) (m.new hq) _ [q] (new_tupT m hq h) fun a ha => .inl (by rw [List.mem_singleton.mp ha]; exact hq)
theorem CE.dat {w' : Wd} {M' : Mst} {Q : VK} {v : V} {d : D} (p : Post X W σ fs w H M (.ok (.t (.d d)) M') (CE X fs w H M Q)) (e : Ext fs w H M w' H M') (m : MR X.K X.mg w' H M') (h : Dp X.K X.mg w'.F v d) : Q v H :=
  p w' _ e m v [] (rr_d h) fun _ z => nomatch z

/-! ### a + b, a * k -/
def catR : R → R → Mst → Out R := fun r1 r2 M => match src M r1 with
  | none => .bad
  | some (q1, M1) => match src M1 r2 with
    | none => .bad
    | some (q2, M2) => match q1, q2 with
      | .l ds, .l es => if ds.length + es.length ≤ 1000000 then .ok (.t (.lst ((ds ++ es).map T.d))) M2 else .bad
      | .t ds, .t es => if ds.length + es.length ≤ 1000000 then (if ds.isEmpty then .ok (.t (.d (.tup es))) M2 else if es.isEmpty then .ok (.t (.d (.tup ds))) M2 else .ok (.t (.tup ((ds ++ es).map T.d))) M2) else .bad
      | .s x, .s y => if x.length + y.length ≤ strCap then .ok (.t (.d (.str (x ++ y)))) M2 else .bad
      | _, _ => .bad
def isSq : D → Bool
  | .int _ => false
  | _ => true
def addR : R → R → Mst → Out R := case2 (fun a _ => isSq a) catR (sc2 (iOp (fun _ _ => true) (· + ·)))
def rAdd (X : Cx) : R2 := fun x y H Q => (rCat x y H Q ∨ rCatA X.K x y H Q ∨ ∃ i j, x = .str i ∧ y = .str j ∧ i.length + j.length ≤ sizeLine ∧ Q (.str (i ++ j)) H) ∨ rI0 (fun i j => .int (i + j)) x y H Q
theorem or_add : OpR X (binaryOp .Add) (rAdd X) := OpR.or (OpR.or op_cat (OpR.or op_catA op_add_str)) op_add
theorem SqAt.stay {w' : Wd} {H' : Hp} {M' : Mst} {v : V} {q : Sq} (h : SqAt X w.F H v q) (hF : Same w.F w'.F) : SqAt X w'.F H v q := by
  cases q with
  | l ds => obtain ⟨a, vs, h1, h2, h3⟩ := h; exact ⟨a, vs, h1, h2, h3.mono hF⟩
  | t ds => obtain ⟨a, vs, h1, h2, h3⟩ := h; exact ⟨a, vs, h1, Same.seqT hF h2, h3.mono hF⟩
  | ro ds => obtain ⟨a, vs, h1, h2, h3⟩ := h; exact ⟨a, vs, h1, hF.seq h2, h3.mono hF⟩
  | s x => exact h
theorem DpL.nil_iff {F : Hp} {vs : List V} {ds : List D} (h : DpL X.K X.mg F vs ds) : vs = [] ↔ ds = [] := by cases h <;> simp
theorem op2_cat : Op2 X catR (fun x y H Q => rCat x y H Q ∨ rCatA X.K x y H Q ∨ ∃ i j, x = .str i ∧ y = .str j ∧ i.length + j.length ≤ sizeLine ∧ Q (.str (i ++ j)) H) := by
  intro W σ w H M x y r1 r2 f1 f2 Q m q1 q2 dj p
  unfold catR at p
  cases z1 : src M r1 with
  | none => rw [z1] at p; exact p.elim
  | some s1 =>
    obtain ⟨s1, M1⟩ := s1
    obtain ⟨w1, e1, m1, a1⟩ := src_ok m q1 z1
    have q2' := q2.stay e1 fun a ha hb => dj a hb ha
    rw [z1] at p
    dsimp only at p
    cases z2 : src M1 r2 with
    | none => rw [z2] at p; exact p.elim
    | some s2 =>
      obtain ⟨s2, M2⟩ := s2
      obtain ⟨w2, e2, m2, a2⟩ := src_ok m1 q2' z2
      rw [z2] at p
      have e12 : Ext (f1 ++ f2) w H M w2 H M2 := (e1.mono fun a ha => List.mem_append_left _ ha).trans e2 fun a ha => .inr (.inr (List.mem_append_right _ ha))
      have a1 := a1.stay (H' := H) (M' := M2) e2.F
      cases s1 with
      | ro ds => cases s2 <;> exact p.elim
      | l ds =>
        cases s2 with
        | l es =>
          dsimp only at p
          split at p
          · rename_i hl
            obtain ⟨a, vs, rfl, h1, h2⟩ := a1
            obtain ⟨b, us, rfl, h3, h4⟩ := a2
            exact .inl ⟨a, b, vs, us, rfl, rfl, h1, h3, by rw [h2.length, h4.length]; exact big_le hl, fun q hq => CE.lst p e12 m2 hq (h2.append h4)⟩
          · exact p.elim
        | t _ => exact p.elim
        | ro _ => exact p.elim
        | s _ => exact p.elim
      | t ds =>
        cases s2 with
        | t es =>
          dsimp only at p
          obtain ⟨a, vs, rfl, h1, h2⟩ := a1
          obtain ⟨b, us, rfl, h3, h4⟩ := a2
          have h1' := Same.seqT m2.sub h1
          have h3' := Same.seqT m2.sub h3
          split at p
          · rename_i hl
            refine .inr (.inl ⟨a, b, vs, us, rfl, rfl, h1', h3', by rw [h2.length, h4.length]; exact big_le hl, fun z => ?_, fun z1 z2 => ?_, fun z1 z2 q hq => ?_⟩)
            · have hd := (h2.nil_iff).mp z
              rw [if_pos (by rw [hd]; rfl)] at p
              exact CE.dat p e12 m2 (.tup h3 h4)
            · have hd := (h4.nil_iff).mp z2
              have hd1 : ds ≠ [] := fun q => z1 ((h2.nil_iff).mpr q)
              rw [if_neg (by simpa using hd1), if_pos (by rw [hd]; rfl)] at p
              exact CE.dat p e12 m2 (.tup h1 h2)
            · have hd1 : ds ≠ [] := fun q => z1 ((h2.nil_iff).mpr q)
              have hd2 : es ≠ [] := fun q => z2 ((h4.nil_iff).mpr q)
              rw [if_neg (by simpa using hd1), if_neg (by simpa using hd2)] at p
              exact CE.tup p e12 m2 hq (h2.append h4)
          · exact p.elim
        | l _ => exact p.elim
        | ro _ => exact p.elim
        | s _ => exact p.elim
      | s x' =>
        cases s2 with
        | s y' =>
          dsimp only at p
          split at p
          · rename_i hl
            cases a1; cases a2
            exact .inr (.inr ⟨x', y', rfl, rfl, Nat.le_trans hl cap_le, CE.dat p e12 m2 (.str _)⟩)
          · exact p.elim
        | l _ => exact p.elim
        | ro _ => exact p.elim
        | t _ => exact p.elim
theorem op2_add : Op2 X addR (rAdd X) := Op2.case op2_cat op2_i0

/-! ### slices -/
def cutD (xs : List D) (lo hi : Option Int) : List D := (xs.drop (HT.sIx xs.length 0 lo)).take (HT.sIx xs.length xs.length hi - HT.sIx xs.length 0 lo)
theorem DpL.cut {F : Hp} {vs : List V} {ds : List D} (h : DpL X.K X.mg F vs ds) (lo hi : Option Int) : DpL X.K X.mg F (cutV vs lo hi) (cutD ds lo hi) := by
  unfold cutV cutD
  rw [h.length]
  exact (h.drop _).take _
def slR (lo hi : Option Int) : R → Mst → Out R := fun r M => match src M r with
  | some (.l ds, M1) => .ok (.t (.lst ((cutD ds lo hi).map T.d))) M1
  | some (.ro ds, M1) => .ok (.t (.lst ((cutD ds lo hi).map T.d))) M1
  | some (.t ds, M1) => if HT.sIx ds.length 0 lo = 0 ∧ HT.sIx ds.length ds.length hi = ds.length then .ok (.t (.d (.tup ds))) M1 else .ok (.t (.tup ((cutD ds lo hi).map T.d))) M1
  | some (.s x, M1) => if x.length ≤ strCap then .ok (.t (.d (.str (cutS x lo hi)))) M1 else .bad
  | none => .bad
abbrev DenO := Ev → Mst → Out (Option Int)
def oNone : DenO := fun _ M => .ok none M
def oSome (F : Den) : DenO := fun ρ M => (F ρ M).bind fun r M1 => match frzR M1 r with
  | .int i => .ok (some i) M1
  | _ => .bad
def rdO (X : Cx) (W : WX) (F : DenO) : TO := fun σ H Q => ∃ w ρ M, MR X.K X.mg w H M ∧ ER X.K X.mg w M σ ρ ∧ Post X W σ [] w H M (F ρ M) (fun _ H' _ b => Q b H')
def DO (X : Cx) (W : WX) (e : Option Expr) (F : DenO) : Prop := PO X e (rdO X W F)
theorem _root_.L2.PO.mono {e : Option Expr} {t t' : TO} (h : PO X e t) (k : ∀ σ H Q, t' σ H Q → t σ H Q) : PO X e t' := ⟨fun pins s σ H Q I q => h.run pins s σ H Q I (k _ _ _ q)⟩
theorem do_none : DO X W none oNone := po_none.mono fun σ H Q h => by
  obtain ⟨w, ρ, M, m, er, p⟩ := h
  exact p.now m
theorem do_some (h : DE X W e F) : DO X W (some e) (oSome F) := (po_some h).mono fun σ H Q h => by
  obtain ⟨w, ρ, M, m, er, p⟩ := h
  refine ⟨w, ρ, M, m, er, p.bindF.imp fun w1 H1 M1 r _ _ z => ?_⟩
  obtain ⟨e1, m1, p1⟩ := z
  intro v fp q hf
  replace p1 := p1 [] fun _ z => nomatch z
  have s := seen m1 q
  split at p1
  · rename_i i hi
    rw [hi] at s
    cases s
    exact ⟨i, rfl, p1.now m1⟩
  · exact p1.elim
def eSl (F : Den) (L U : DenO) : Den := fun ρ M => (F ρ M).bind fun r M1 => (L ρ M1).bind fun lo M2 => (U ρ M2).bind fun hi M3 => slR lo hi r M3
theorem de_slice {lo hi : Option Expr} {L U : DenO} (he : DE X W e F) (hl : DO X W lo L) (hu : DO X W hi U) : DE X W (.Subscript e (.Slice lo hi none p2) pos) (eSl F L U) :=
  (pe_slice (SlR.or sl_list (SlR.or sl_tupA sl_str)) he hl hu).mono fun σ H Q h => by
    obtain ⟨w, ρ, M, m, er, p⟩ := h
    refine ⟨w, ρ, M, m, er, p.bindF.imp fun w1 H1 M1 r _ _ z => ?_⟩
    obtain ⟨e1, m1, p1⟩ := z
    intro v fp q hf
    refine ⟨w1, ρ, M1, m1, er.stay e1, (p1 fp hf).bindF.imp fun w2 H2 M2 lo _ _ z => ?_⟩
    obtain ⟨e2, m2, p2⟩ := z
    refine ⟨w2, ρ, M2, m2, (er.stay e1).stay e2, (p2 fp fun a ha => .inr (.inr ha)).bindF.imp fun w3 H3 M3 hi _ _ z => ?_⟩
    obtain ⟨e3, m3, p3⟩ := z
    have q3 := (q.stay e2 fun _ _ z => nomatch z).stay e3 fun _ _ z => nomatch z
    have e13 : Ext [] w H M w3 H3 M3 := (e1.trans0 e2).trans0 e3
    have p4 : Post X W σ fp w3 H3 M3 (slR lo hi r M3) (CE X fp w3 H3 M3 Q) := (p3 fp fun a ha => .inr (.inr ha)).imp fun _ _ _ _ _ _ q => q.from e13 hf
    unfold slR at p4
    cases z : src M3 r with
    | none => rw [z] at p4; exact p4.elim
    | some s =>
      obtain ⟨s, M4⟩ := s
      obtain ⟨w4, e4, m4, a4⟩ := src_ok m3 q3 z
      rw [z] at p4
      cases s with
      | l ds =>
        obtain ⟨a, vs, rfl, h1, h2⟩ := a4
        exact .inl ⟨a, vs, rfl, SqL.of h1, fun q hq => CE.lst p4 e4 m4 hq (h2.cut lo hi)⟩
      | ro ds =>
        obtain ⟨a, vs, rfl, h1, h2⟩ := a4
        exact .inl ⟨a, vs, rfl, m4.sub.seq h1, fun q hq => CE.lst p4 e4 m4 hq (h2.cut lo hi)⟩
      | t ds =>
        obtain ⟨a, vs, rfl, h1, h2⟩ := a4
        dsimp only at p4
        refine .inr (.inl ⟨a, vs, rfl, Same.seqT m4.sub h1, fun z => ?_, fun z q hq => ?_⟩)
        · rw [h2.length] at z
          rw [if_pos z] at p4
          exact CE.dat p4 e4 m4 (.tup h1 h2)
        · rw [h2.length] at z
          rw [if_neg z] at p4
          exact CE.tup p4 e4 m4 hq (h2.cut lo hi)
      | s x =>
        dsimp only at p4
        split at p4
        · rename_i hl
          cases a4
          exact .inr (.inr ⟨x, rfl, Nat.le_trans hl cap_le, CE.dat p4 e4 m4 (.str _)⟩)
        · exact p4.elim

/-! ### items -/
def elems (M : Mst) : R → Option (List T)
  | .t (.lst ts) => some ts
  | .t (.tup ts) => some ts
  | .t (.d (.lst ds)) => some (ds.map T.d)
  | .t (.d (.tupP _ ds)) => some (ds.map T.d)
  | .t _ => none
  | .h k => match M.getD k (.d .non) with
    | .lst ts => (allD ts).map fun ds => ds.map T.d
    | .d (.lst ds) => some (ds.map T.d)
    | .d (.tupP _ ds) => some (ds.map T.d)
    | _ => none
theorem elems_ok {v : V} {r : R} {fp : List Addr} {ts : List T} (m : MR X.K X.mg w H M) (h : RR X.K X.mg w H M v r fp) (e : elems M r = some ts) :
    ∃ a vs f, v = .ref a ∧ (SqL X.K H a vs ∨ SqT X.K H a vs) ∧ TRL X.K X.mg w.F H vs ts f ∧ f.Nodup ∧ (∀ b ∈ f, b ∈ fp) ∧ ∀ b ∈ f, ∀ k, k < M.length → b ∉ w.φ k := by
  cases r with
  | t x =>
    obtain ⟨h1, h2, h3⟩ := h
    cases x with
    | lst ts' =>
      cases e
      cases h1 with
      | lst q1 q2 q3 => exact ⟨_, _, _, rfl, .inl (SqL.of q1), q3, (List.nodup_cons.mp h2).2, fun b hb => List.mem_cons_of_mem _ hb, fun b hb => h3 b (List.mem_cons_of_mem _ hb)⟩
    | tup ts' =>
      cases e
      cases h1 with
      | tup q1 q2 q3 => exact ⟨_, _, _, rfl, .inr (SqT.of q1), q3, (List.nodup_cons.mp h2).2, fun b hb => List.mem_cons_of_mem _ hb, fun b hb => h3 b (List.mem_cons_of_mem _ hb)⟩
    | ins c fs => cases e
    | dic _ => cases e
    | tbl => cases e
    | d d =>
      cases h1 with
      | d h1 =>
        cases d with
        | lst ds => cases e; cases h1 with | lst q1 q2 => exact ⟨_, _, [], rfl, .inl (SqL.of (m.sub _ _ q1)), q2.trees, List.nodup_nil, (fun _ z => nomatch z), fun _ z => nomatch z⟩
        | tupP p0 ds => cases e; cases h1 with | tupP q1 q2 => exact ⟨_, _, [], rfl, .inr (Same.seqT m.sub q1.1), q2.trees, List.nodup_nil, (fun _ z => nomatch z), fun _ z => nomatch z⟩
        | non => cases e
        | bl _ => cases e
        | int _ => cases e
        | str _ => cases e
        | ins _ _ => cases e
        | glo _ => cases e
        | ty _ => cases e
        | dic _ => cases e
        | junk => cases e
        | exn _ _ => cases e
        | ro _ => cases e
  | h k =>
    obtain ⟨hk, rfl, rfl⟩ := h
    obtain ⟨x, hx⟩ : ∃ x, M[k]? = some x := ⟨M[k], List.getElem?_eq_getElem hk⟩
    have q := (m.obj k x hx).1
    unfold elems at e
    dsimp only at e
    rw [getD_of hx] at e
    generalize w.φ k = fp at q
    generalize hv : V.ref (w.α k) = v at q
    cases q with
    | lst h1 h2 h3 =>
      dsimp only at e
      rename_i ts0 _
      cases z : allD ts0 with
      | none => rw [z] at e; cases e
      | some ds =>
        rw [z] at e
        cases e
        cases hv
        exact ⟨_, _, [], rfl, .inl (SqL.of h1), (allD_at h3 z).trees, List.nodup_nil, (fun _ z => nomatch z), fun _ z => nomatch z⟩
    | d h1 =>
      cases h1 with
      | lst q1 q2 => cases e; cases hv; exact ⟨_, _, [], rfl, .inl (SqL.of (m.sub _ _ q1)), q2.trees, List.nodup_nil, (fun _ z => nomatch z), fun _ z => nomatch z⟩
      | tupP q1 q2 => cases e; cases hv; exact ⟨_, _, [], rfl, .inr (Same.seqT m.sub q1.1), q2.trees, List.nodup_nil, (fun _ z => nomatch z), fun _ z => nomatch z⟩
      | non => cases e
      | bl _ => cases e
      | int _ => cases e
      | str _ => cases e
      | ro _ _ => cases e
      | ins _ _ _ => cases e
      | glo _ => cases e
      | ty _ => cases e
      | dic _ _ => cases e
      | junk _ => cases e
      | exn _ _ _ _ => cases e
    | tup h1 h2 h3 => cases e
    | ins h1 h2 h3 h4 => cases e
    | dic _ _ _ => cases e
    | tbl => cases e
theorem trl_get : ∀ {vs : List V} {ts : List T} {f : List Addr} {i : Nat} {t : T}, TRL X.K X.mg w.F H vs ts f → f.Nodup → ts[i]? = some t → ∃ v f', vs[i]? = some v ∧ TR X.K X.mg w.F H v t f' ∧ f'.Nodup ∧ ∀ b ∈ f', b ∈ f
  | _, _, _, _, _, .nil, _, e => by simp at e
  | _, _, _, 0, _, .cons h _, nd, e => by simp at e; subst e; exact ⟨_, _, rfl, h, (List.nodup_append.mp nd).1, fun b hb => List.mem_append_left _ hb⟩
  | _, _, _, i + 1, _, .cons _ r, nd, e => by
    obtain ⟨v, f', h1, h2, h3, h4⟩ := trl_get (i := i) r (List.nodup_append.mp nd).2.1 (by simpa using e)
    exact ⟨v, f', by simpa using h1, h2, h3, fun b hb => List.mem_append_right _ (h4 b hb)⟩
def getR : R → R → Mst → Out R := fun r1 r2 M => match frzR M r2 with
  | .int i => (match elems M r1 with
    | some ts => (match atI ts i with
      | some t => .ok (.t t) M
      | none => .bad)
    | none => (match frzR M r1 with
      | .str x => (match atI x.cps.toList i with
        | some c => if x.length ≤ strCap then .ok (.t (.d (.str ⟨#[c]⟩))) M else .bad
        | none => .bad)
      | _ => .bad))
  | _ => .bad
theorem op2_get : Op2 X getR (rIx X.K) := by
  intro W σ w H M x y r1 r2 f1 f2 Q m q1 q2 dj p
  unfold getR at p
  have s2 := seen m q2
  split at p
  · rename_i i hi
    rw [hi] at s2
    cases s2
    split at p
    · rename_i ts hts
      obtain ⟨a, vs, f, rfl, hs, q, nd, hf, hφ⟩ := elems_ok m q1 hts
      split at p
      · rename_i t ht
        have hl := q.length
        unfold atI at ht
        cases z : ixN ts.length i with
        | none => rw [z] at ht; cases ht
        | some j =>
          rw [z] at ht
          obtain ⟨v, f', h1, h2, h3, h4⟩ := trl_get q nd (show ts[j]? = some t from ht)
          have ev : atI vs i = some v := by unfold atI; rw [hl, z]; exact h1
          have fin : Q v H := (p.now m) v f' ⟨h2, h3, fun b hb => hφ b (h4 b hb)⟩ fun b hb => .inr (.inr (List.mem_append_left _ (hf b (h4 b hb))))
          rcases hs with hs | hs
          · exact .inl ⟨a, vs, i, v, rfl, rfl, hs, ev, fin⟩
          · exact .inr (.inl ⟨a, vs, i, v, rfl, rfl, hs, ev, fin⟩)
      · exact p.elim
    · have s1 := seen m q1
      split at p
      · rename_i z hz
        rw [hz] at s1
        cases s1
        split at p
        · rename_i c hc
          split at p
          · rename_i hl
            exact .inr (.inr ⟨z, i, c, rfl, rfl, Nat.le_trans hl cap_le, hc, (p.now m).val (C := fun _ => r1) (.str _)⟩)
          · exact p.elim
        · exact p.elim
      · exact p.elim
  · exact p.elim
theorem de_get (ha : DE X W a Fa) (hb : DE X W b Fb) (hs : PlainIx b := by exact fun _ _ => rfl) : DE X W (.Subscript a b pos) (eSeq2 getR Fa Fb) := (pe_ix ix_seq ha hb hs).mono fun _ _ _ h => rd_op op2_get h
end
end DL

/-! DL11: ==, in, isinstance, built-in functions -/
namespace DL
open PySem L2 PySem.Spec PyProof.Rows
/-! ### data as the library has it -/
mutual
def pyd : D → PyData
  | .non => .none
  | .bl b => .bool b
  | .int i => .int i
  | .str x => .str x
  | .lst ds => .list (pydL ds)
  | .tupP _ ds => .tuple (pydL ds)
  | .ins _ _ => .dict []
  | .glo _ => .dict []
  | .ty _ => .dict []
  | .ro _ => .dict []
  | .dic _ => .dict []
  | .junk => .dict []
  | .exn _ _ => .dict []
def pydL : List D → List PyData
  | [] => []
  | d :: r => pyd d :: pydL r
end
def okD : Nat → D → Bool
  | _, .non => true
  | _, .bl _ => true
  | _, .int _ => true
  | _, .str x => PyData.strOk x
  | 0, _ => false
  | n + 1, .lst ds => ds.all (okD n)
  | n + 1, .tupP _ ds => ds.all (okD n)
  | _ + 1, _ => false
section
variable {K : PySem.W.Frag} {mg : Mg} {H : Hp}
mutual
theorem Dp.py : ∀ (n : Nat) {v : V} {d : D}, Dp K mg H v d → okD n d = true → L2.Dp K H v (pyd d)
  | _, _, _, .non, _ => by unfold pyd; exact .non
  | _, _, _, .bl b, _ => by unfold pyd; exact .bl b
  | _, _, _, .int i, _ => by unfold pyd; exact .int i
  | _, _, _, .str x, _ => by unfold pyd; exact .str x
  | n + 1, _, _, .lst h l, o => by unfold pyd; exact .lst (SqL.of h) (DpL.py n l (by simpa [okD] using o))
  | n + 1, _, _, .tupP h l, o => by unfold pyd; exact .tup h.1 (DpL.py n l (by simpa [okD] using o))
  | 0, _, _, .lst h l, o => by simp [okD] at o
  | 0, _, _, .tupP h l, o => by simp [okD] at o
  | n, _, _, .ro h l, o => by cases n <;> simp [okD] at o
  | n, _, _, .ins h l _, o => by cases n <;> simp [okD] at o
  | n, _, _, .glo h, o => by cases n <;> simp [okD] at o
  | n, _, _, .ty _, o => by cases n <;> simp [okD] at o
  | n, _, _, .dic _ _, o => by cases n <;> simp [okD] at o
  | n, _, _, .junk _, o => by cases n <;> simp [okD] at o
  | n, _, _, .exn _ _ _ _, o => by cases n <;> simp [okD] at o
theorem DpL.py : ∀ (n : Nat) {v : List V} {d : List D}, DpL K mg H v d → (∀ x ∈ d, okD n x = true) → L2.DpAll K H v (pydL d)
  | _, _, _, .nil, _ => by unfold pydL; exact .nil
  | n, _, _, .cons h r, o => by unfold pydL; exact .cons (Dp.py n h (o _ List.mem_cons_self)) (DpL.py n r fun x hx => o x (List.mem_cons_of_mem _ hx))
end
theorem pydL_map (ds : List D) : pydL ds = ds.map pyd := by
  induction ds with
  | nil => rfl
  | cons x r ih => simp [pydL, ih]
theorem lay_all {ds : List PyData} (h : ∀ x ∈ ds, x.canLay0 = true) : PyData.canLayAll0 ds = true := by
  induction ds with
  | nil => rfl
  | cons x r ih => simp only [PyData.canLayAll0, Bool.and_eq_true]; exact ⟨h x List.mem_cons_self, ih fun y hy => h y (List.mem_cons_of_mem _ hy)⟩
theorem depth_all {ds : List PyData} {n : Nat} (h : ∀ x ∈ ds, x.depth ≤ n) : PyData.depthAll ds ≤ n := by
  induction ds with
  | nil => exact Nat.zero_le _
  | cons x r ih => simp only [PyData.depthAll]; exact Nat.max_le.mpr ⟨h x List.mem_cons_self, ih fun y hy => h y (List.mem_cons_of_mem _ hy)⟩
theorem okD_shape : ∀ (n : Nat) (d : D), okD n d = true → (pyd d).canLay0 = true ∧ (pyd d).depth ≤ n
  | n, .non, _ => ⟨by simp [pyd, PyData.canLay0], by simp [pyd, PyData.depth]⟩
  | n, .bl _, _ => ⟨by simp [pyd, PyData.canLay0], by simp [pyd, PyData.depth]⟩
  | n, .int _, _ => ⟨by simp [pyd, PyData.canLay0], by simp [pyd, PyData.depth]⟩
  | n, .str x, h => ⟨by cases n <;> simpa [pyd, PyData.canLay0, okD] using h, by simp [pyd, PyData.depth]⟩
  | n + 1, .lst ds, h => by
    have o : ∀ x ∈ ds, okD n x = true := by simpa [okD] using h
    simp only [pyd, PyData.canLay0, PyData.depth, pydL_map]
    refine ⟨lay_all fun x hx => ?_, Nat.succ_le_succ (depth_all fun x hx => ?_)⟩
    · obtain ⟨d, hd, rfl⟩ := List.mem_map.mp hx
      exact (okD_shape n d (o d hd)).1
    · obtain ⟨d, hd, rfl⟩ := List.mem_map.mp hx
      exact (okD_shape n d (o d hd)).2
  | n + 1, .tupP _ ds, h => by
    have o : ∀ x ∈ ds, okD n x = true := by simpa [okD] using h
    simp only [pyd, PyData.canLay0, PyData.depth, pydL_map]
    refine ⟨lay_all fun x hx => ?_, Nat.succ_le_succ (depth_all fun x hx => ?_)⟩
    · obtain ⟨d, hd, rfl⟩ := List.mem_map.mp hx
      exact (okD_shape n d (o d hd)).1
    · obtain ⟨d, hd, rfl⟩ := List.mem_map.mp hx
      exact (okD_shape n d (o d hd)).2
  | 0, .lst _, h => by simp [okD] at h
  | 0, .tupP _ _, h => by simp [okD] at h
  | n, .ro _, h => by cases n <;> simp [okD] at h
  | n, .ins _ _, h => by cases n <;> simp [okD] at h
  | n, .glo _, h => by cases n <;> simp [okD] at h
  | n, .ty _, h => by cases n <;> simp [okD] at h
  | n, .dic _, h => by cases n <;> simp [okD] at h
  | n, .junk, h => by cases n <;> simp [okD] at h
  | n, .exn _ _, h => by cases n <;> simp [okD] at h
theorem okD_shaped {n : Nat} {d : D} (hn : n ≤ 64) (h : okD n d = true) : SeqAt.shaped (pyd d) = true := by
  obtain ⟨h1, h2⟩ := okD_shape n d h
  unfold SeqAt.shaped
  rw [h1, Bool.true_and, decide_eq_true (Nat.le_trans h2 hn)]
end
def eqv (a b : D) : Bool := PyData.eqv (pyd a) (pyd b)
def eqOp (a b : D) : Option D := if okD 12 a = true ∧ okD 12 b = true then some (.bl (eqv a b)) else none
def neOp (a b : D) : Option D := if okD 12 a = true ∧ okD 12 b = true then some (.bl (!eqv a b)) else none
def strEq : D → D → Option D
  | .str x, .str y => some (.bl (decide (x = y)))
  | _, _ => none
def strNe : D → D → Option D
  | .str x, .str y => some (.bl (!decide (x = y)))
  | _, _ => none
def isStr : D → Bool
  | .str _ => true
  | _ => false
def eqR : R → R → Mst → Out R := case2 (fun a b => isStr a && isStr b) (sc2 strEq) (sc2 eqOp)
def neR : R → R → Mst → Out R := case2 (fun a b => isStr a && isStr b) (sc2 strNe) (sc2 neOp)
def flatD : D → Bool
  | .non => true
  | .bl _ => true
  | .int _ => true
  | .str _ => true
  | _ => false
def memD (x : D) (ds : List D) : Bool := ds.any fun y => eqv y x
def inOp (neg : Bool) (x c : D) : Option D := match c with
  | .lst ds => if (flatD x = true ∧ ds.all flatD = true) ∨ (okD 12 x = true ∧ okD 12 (.lst ds) = true) then some (.bl (if neg then !memD x ds else memD x ds)) else none
  | .tupP _ ds => if flatD x = true ∧ ds.all flatD = true then some (.bl (if neg then !memD x ds else memD x ds)) else none
  | .str z => (match x with
    | .str y => (match y.cps.toList with
      | [a] => some (.bl (if neg then !decide (a ∈ z.cps.toList) else decide (a ∈ z.cps.toList)))
      | _ => none)
    | _ => none)
  | _ => none
section
variable {X : Cx} {W : WX} {σ : L2.St} {fs gs : List Addr} {w w2 : Wd} {H H2 : Hp} {M M2 : Mst}
variable {e o a b c : Expr} {es : List Expr} {F Fa Fb Fc : Den} {A : DenA} {pos p apos cpos p2 : Pos} {x m : Str}
theorem or_eq (hu : X.A.units + 64 < cLine) : OpR X (compareOp .Eq) (fun x y H Q => rEq x y H Q ∨ rEqD X.K x y H Q) := OpR.or op_eq (op_eqD hu)
theorem or_ne (hu : X.A.units + 64 < cLine) : OpR X (compareOp .NotEq) (fun x y H Q => rNe x y H Q ∨ rNeD X.K x y H Q) := OpR.or op_ne (op_neD hu)
theorem dec_strV (x y : Str) : decide (V.str x = V.str y) = decide (x = y) := by
  by_cases h : x = y
  · rw [h]; simp
  · rw [decide_eq_false h, decide_eq_false fun z => h (V.str.inj z)]
theorem op2_eq : Op2 X eqR (fun x y H Q => rEq x y H Q ∨ rEqD X.K x y H Q) := Op2.case (op2_sc fun F H x y d1 d2 d Q h1 h2 hd q => by
    unfold strEq at hd
    split at hd
    · cases h1; cases h2; cases hd
      exact ⟨rfl, by rw [dec_strV]; exact q _ (.bl _)⟩
    · cases hd) (op2_sc fun F H x y d1 d2 d Q h1 h2 hd q => by
    unfold eqOp at hd
    split at hd
    · rename_i hk
      cases hd
      exact ⟨_, _, Dp.py 12 h1 hk.1, Dp.py 12 h2 hk.2, okD_shaped (by decide) hk.1, okD_shaped (by decide) hk.2, q _ (.bl _)⟩
    · cases hd)
theorem op2_ne : Op2 X neR (fun x y H Q => rNe x y H Q ∨ rNeD X.K x y H Q) := Op2.case (op2_sc fun F H x y d1 d2 d Q h1 h2 hd q => by
    unfold strNe at hd
    split at hd
    · cases h1; cases h2; cases hd
      exact ⟨rfl, by rw [dec_strV]; exact q _ (.bl _)⟩
    · cases hd) (op2_sc fun F H x y d1 d2 d Q h1 h2 hd q => by
    unfold neOp at hd
    split at hd
    · rename_i hk
      cases hd
      exact ⟨_, _, Dp.py 12 h1 hk.1, Dp.py 12 h2 hk.2, okD_shaped (by decide) hk.1, okD_shaped (by decide) hk.2, q _ (.bl _)⟩
    · cases hd)
theorem flat_V {K : PySem.W.Frag} {mg : Mg} {F : Hp} {v : V} {d : D} (h : Dp K mg F v d) (f : flatD d = true) : flatV v = true := by cases h <;> first | rfl | cases f
theorem flat_eqv {K : PySem.W.Frag} {mg : Mg} {F : Hp} {v u : V} {d e : D} (h : Dp K mg F v d) (f : flatD d = true) (h' : Dp K mg F u e) (f' : flatD e = true) : eqV v u = eqv d e := by
  cases h <;> first | (cases f) | skip
  all_goals (cases h' <;> first | (simp [eqV, eqv, pyd, PyData.eqv]; done) | (cases f'))
theorem flat_mem {K : PySem.W.Frag} {mg : Mg} {F : Hp} {v : V} {d : D} (h : Dp K mg F v d) (f : flatD d = true) : ∀ {vs : List V} {ds : List D}, DpL K mg F vs ds → ds.all flatD = true → vs.all flatV = true ∧ inV v vs = memD d ds
  | _, _, .nil, _ => ⟨rfl, rfl⟩
  | _, _, .cons h' r, g => by
    rw [List.all_cons, Bool.and_eq_true] at g
    obtain ⟨i1, i2⟩ := flat_mem h f r g.2
    refine ⟨by rw [List.all_cons, flat_V h' g.1, i1]; rfl, ?_⟩
    unfold inV memD at i2 ⊢
    rw [List.any_cons, List.any_cons, i2, flat_eqv h' g.1 h f]
def rInA (X : Cx) (neg : Bool) : R2 := fun x y H Q => (rIn X.K neg x y H Q ∨ (if neg then rNotInD X.K else rInD X.K) x y H Q) ∨ ∃ (c : Nat) (z : Str), x = .str ⟨#[c]⟩ ∧ y = .str z ∧ Q (.bl (if neg then !decide (c ∈ z.cps.toList) else decide (c ∈ z.cps.toList))) H
theorem or_in (hu : X.A.units + 65 < cLine) : OpR X (compareOp .In) (rInA X false) := OpR.or (OpR.or op_in_seq (op_inD hu)) op_in_sign
theorem or_notIn (hu : X.A.units + 65 < cLine) : OpR X (compareOp .NotIn) (rInA X true) := OpR.or (OpR.or op_notIn_seq (op_notInD hu)) op_notIn_sign
theorem mem_py {d : D} : ∀ {ds : List D}, ((pydL ds).any fun z => PyData.eqv z (pyd d)) = memD d ds
  | [] => rfl
  | x :: r => by
    unfold memD pydL
    rw [List.any_cons, List.any_cons, mem_py]
    rfl
theorem op2_in (neg : Bool) : Op2 X (sc2 (inOp neg)) (rInA X neg) := op2_sc fun F H x y d1 d2 d Q h1 h2 hd q => by
  unfold inOp at hd
  split at hd
  · split at hd
    · rename_i ds hk
      cases hd
      rcases hk with hk | hk
      · cases h2 with
        | lst h l =>
          obtain ⟨g1, g2⟩ := flat_mem h1 hk.1 l hk.2
          exact .inl (.inl ⟨_, _, rfl, .inl (SqL.of h), flat_V h1 hk.1, g1, by rw [g2]; exact q _ (.bl _)⟩)
      · have h2' := Dp.py 12 h2 hk.2
        refine .inl (.inr ?_)
        have s1 := okD_shaped (by decide) hk.1
        have s2 := okD_shaped (by decide) hk.2
        unfold pyd at h2' s2
        cases neg with
        | true => exact ⟨_, _, Dp.py 12 h1 hk.1, h2', s1, s2, by rw [mem_py]; exact q _ (.bl _)⟩
        | false => exact ⟨_, _, Dp.py 12 h1 hk.1, h2', s1, s2, by rw [mem_py]; exact q _ (.bl _)⟩
    · cases hd
  · split at hd
    · rename_i ds hk
      cases hd
      cases h2 with
      | tupP h l =>
        obtain ⟨g1, g2⟩ := flat_mem h1 hk.1 l hk.2
        exact .inl (.inl ⟨_, _, rfl, .inr h.1, flat_V h1 hk.1, g1, by rw [g2]; exact q _ (.bl _)⟩)
    · cases hd
  · split at hd
    · rename_i z _ y
      split at hd
      · rename_i c hc
        cases hd
        cases h1; cases h2
        have ey : y = ⟨#[c]⟩ := by
          cases y with
          | mk cps =>
            have : cps = #[c] := by
              apply Array.toList_inj.mp
              rw [hc]
            rw [this]
        exact .inr ⟨c, _, by rw [ey], rfl, q _ (.bl _)⟩
      · cases hd
    · cases hd
  · cases hd
/-! ### is None -/
def isNonD : D → Bool
  | .non => true
  | _ => false
def isN (neg : Bool) (a b : D) : Option D := if isNonD b = true then some (.bl (if neg then !isNonD a else isNonD a)) else none
theorem non_dec {K : PySem.W.Frag} {mg : Mg} {F : Hp} {v : V} {d : D} (h : Dp K mg F v d) : decide (v = .non) = isNonD d := by cases h <;> simp [isNonD]
theorem op2_isN : Op2 X (sc2 (isN false)) (fun x y H Q => y = .non ∧ Q (.bl (decide (x = .non))) H) := op2_sc fun F H x y d1 d2 d Q h1 h2 hd q => by
  unfold isN at hd
  split at hd
  · rename_i hk
    cases hd
    cases h2 <;> first | (cases hk) | skip
    exact ⟨rfl, by rw [non_dec h1]; exact q _ (.bl _)⟩
  · cases hd
theorem op2_notN : Op2 X (sc2 (isN true)) (fun x y H Q => y = .non ∧ Q (.bl (!decide (x = .non))) H) := op2_sc fun F H x y d1 d2 d Q h1 h2 hd q => by
  unfold isN at hd
  split at hd
  · rename_i hk
    cases hd
    cases h2 <;> first | (cases hk) | skip
    exact ⟨rfl, by rw [non_dec h1]; exact q _ (.bl _)⟩
  · cases hd

/-! ### a * b, // % ** -/
def mulC (i j : Int) : Bool := (decide (-(2 ^ 64) < i) && decide (i < 2 ^ 64)) || (decide (-(2 ^ 64) < j) && decide (j < 2 ^ 64))
def repR : R → R → Mst → Out R := fun r1 r2 M => match src M r1 with
  | some (.l ds, M1) => (match frzR M1 r2 with
    | .int k => if k < 1000000 ∧ -1000000 < k ∧ ds.length * k.toNat ≤ 1000000 then .ok (.t (.lst ((List.replicate k.toNat ds).flatten.map T.d))) M1 else .bad
    | _ => .bad)
  | _ => .bad
def mulR : R → R → Mst → Out R := case2 (fun a _ => isSq a) repR (sc2 (iOp mulC (· * ·)))
theorem DpL.flat {F : Hp} {vs : List V} {ds : List D} (h : DpL X.K X.mg F vs ds) : ∀ n : Nat, DpL X.K X.mg F (List.replicate n vs).flatten (List.replicate n ds).flatten
  | 0 => .nil
  | n + 1 => by
    rw [List.replicate_succ, List.replicate_succ, List.flatten_cons, List.flatten_cons]
    exact h.append (DpL.flat h n)
theorem or_mul : OpR X (binaryOp .Mult) (fun x y H Q => rRep x y H Q ∨ rI CMul (fun i j => .int (i * j)) x y H Q) := OpR.or op_rep op_mul
theorem op2_mul : Op2 X mulR (fun x y H Q => rRep x y H Q ∨ rI CMul (fun i j => .int (i * j)) x y H Q) := by
  refine Op2.case ?_ (op2_i fun i j h => ?_)
  · intro W σ w H M x y r1 r2 f1 f2 Q m q1 q2 dj p
    unfold repR at p
    split at p
    · rename_i ds M1 z
      obtain ⟨w1, e1, m1, a1⟩ := src_ok m q1 z
      have q2' := q2.stay e1 fun a ha hb => dj a hb ha
      have s2 := seen m1 q2'
      split at p
      · rename_i k hk
        rw [hk] at s2
        cases s2
        split at p
        · rename_i hb
          obtain ⟨a, vs, rfl, h1, h2⟩ := a1
          exact ⟨a, k, vs, rfl, rfl, h1, by omega, by omega, by rw [h2.length]; exact big_le hb.2.2, fun q hq => CE.lst p (e1.mono fun a ha => List.mem_append_left _ ha) m1 hq (h2.flat _)⟩
        · exact p.elim
      · exact p.elim
    · exact p.elim
  · unfold mulC at h
    unfold CMul
    simpa using h
def divC (_ j : Int) : Bool := decide (0 < j) && decide (j < 10 ^ 60)
theorem op2_div : Op2 X (sc2 (iOp divC (· / ·))) (rI CDivW fun i j => .int (i / j)) := op2_i fun i j h => by
  unfold divC at h
  simp only [Bool.and_eq_true, decide_eq_true_eq] at h
  exact wide_div (b := 200) h.1 (by have : (10 : Int) ^ 60 < 2 ^ 200 := by decide
                                    omega) (by decide) (by decide)
def modC (_ j : Int) : Bool := decide (0 < j)
theorem op2_mod : Op2 X (sc2 (iOp modC (· % ·))) (rI (fun _ j => 0 < j) fun i j => .int (i % j)) := op2_i fun i j h => by simpa [modC] using h
def powC (i j : Int) : Bool := decide (0 ≤ j) && decide (j ≤ 1000) && decide (i.natAbs < 2 ^ 64)
theorem op2_pow : Op2 X (sc2 (iOp powC fun i j => i ^ j.toNat)) (rI CPow fun i j => .int (i ^ j.toNat)) := op2_i fun i j h => by
  unfold powC at h
  simp only [Bool.and_eq_true, decide_eq_true_eq] at h
  exact ⟨h.1.1, by omega, h.2⟩

/-! ### built-in functions -/
def OpL (X : Cx) (g : List R → Mst → Out R) (r : List V → Hp → VK → Prop) : Prop := ∀ (W : WX) (σ : L2.St) (w : Wd) (H : Hp) (M : Mst) (xs : List V) (rs : List R) (fp : List Addr) (Q : VK), MR X.K X.mg w H M →
  RRL X.K X.mg w H M xs rs fp → Post X W σ fp w H M (g rs M) (CE X fp w H M Q) → r xs H Q
def eB (g : List R → Mst → Out R) (A : DenA) : Den := fun ρ M => (A ρ M).bind g
theorem rd_b {g : List R → Mst → Out R} {r : List V → Hp → VK → Prop} (hg : OpL X g r) {Q : VK} (h : rdE X W (eB g A) σ H Q) : rdA X W A σ H (fun vs H1 => r vs H1 Q) := by
  obtain ⟨w, ρ, M, m, er, p⟩ := h
  refine ⟨w, ρ, M, m, er, p.bindF.imp fun w1 H1 M1 rs _ _ z => ?_⟩
  obtain ⟨e1, m1, p1⟩ := z
  intro vs fp q hf
  exact hg W σ w1 H1 M1 vs rs fp Q m1 q ((p1 fp hf).imp fun _ _ _ _ _ _ q => q.from e1 hf)
theorem de_callB {id : String} {r : List V → Hp → VK → Prop} {g : List R → Mst → Out R} (hc : CallR X (.builtin id) r) (hr : OpL X g r) (hg : Gl X x) (hm : X.mg x = none) (hv : bootBuiltins x = some (.builtin id)) (ha : DA X W (e :: es) A) (hn : x ≠ "__name__" := by decide) (hdb : (x == ("__debug__" : Str)) = false := by decide)
    (he : starEach (e :: es) X.env = (false, eval e X.env) :: starEach es X.env := by rfl) (hpl : (backTo pos (starEach es X.env)).any (·.1) = false := by rfl) : DE X W (.Call (.Name x p) (e :: es) [] pos) (eB g A) :=
  (pe_callB hc hg hm hv ha hn hdb he hpl).mono fun _ _ _ h => rd_b hr h
theorem de_callTy {T : String} {r : List V → Hp → VK → Prop} {g : List R → Mst → Out R} (hc : CallR X (.type T) r) (hr : OpL X g r) (hg : Gl X x) (hm : X.mg x = none) (hv : bootBuiltins x = some (.type T)) (ha : DA X W (e :: es) A) (hn : x ≠ "__name__" := by decide) (hdb : (x == ("__debug__" : Str)) = false := by decide)
    (he : starEach (e :: es) X.env = (false, eval e X.env) :: starEach es X.env := by rfl) (hpl : (backTo pos (starEach es X.env)).any (·.1) = false := by rfl) : DE X W (.Call (.Name x p) (e :: es) [] pos) (eB g A) :=
  (pe_callTy hc hg hm hv ha hn hdb he hpl).mono fun _ _ _ h => rd_b hr h
/-- a scalar of what the arguments are worth now -/
def scL (h : List D → Option D) : List R → Mst → Out R := fun rs M => match h (rs.map (frzR M)) with
  | some x => .ok (.t (.d x)) M
  | none => .bad
theorem opL_sc {h : List D → Option D} {r : List V → Hp → VK → Prop} (hh : ∀ (F : Hp) (H : Hp) (xs : List V) (ds : List D) (d : D) (Q : VK), DpL X.K X.mg H xs ds → h ds = some d → (∀ v, Dp X.K X.mg F v d → Q v H) → r xs H Q) : OpL X (scL h) r := by
  intro W σ w H M xs rs fp Q m q p
  unfold scL at p
  split at p
  · rename_i d hd
    exact hh w.F H xs _ d Q (seenL m q) hd fun v hv => (p.now m).val (C := fun _ => .t (.d d)) hv
  · exact p.elim
def lenD : List D → Option D
  | [.lst ds] => some (.int (ds.length : Nat))
  | [.tupP _ ds] => some (.int (ds.length : Nat))
  | [.ro ds] => some (.int (ds.length : Nat))
  | [.str x] => if x.length ≤ strCap then some (.int (x.length : Nat)) else none
  | _ => none
theorem opL_len : OpL X (scL lenD) (fun xs H Q => ∃ x n, xs = [x] ∧ LenV X.K x H n ∧ Q (.int n) H) := opL_sc fun F H xs ds d Q h hd q => by
  unfold lenD at hd
  split at hd
  · cases hd
    cases h with
    | cons h1 h2 => cases h2; cases h1 with | lst h l => exact ⟨_, _, rfl, .inl ⟨_, SqL.of h, l.length.symm⟩, q _ (.int _)⟩
  · cases hd
    cases h with
    | cons h1 h2 => cases h2; cases h1 with | tupP h l => exact ⟨_, _, rfl, .inr ⟨_, h.1, l.length.symm⟩, q _ (.int _)⟩
  · cases hd
    cases h with
    | cons h1 h2 => cases h2; cases h1 with | ro h l => exact ⟨_, _, rfl, .inl ⟨_, h, l.length.symm⟩, q _ (.int _)⟩
  · split at hd
    · rename_i hl
      cases hd
      cases h with
      | cons h1 h2 => cases h2; cases h1; exact ⟨_, _, rfl, ⟨Nat.le_trans hl cap_le, rfl⟩, q _ (.int _)⟩
    · cases hd
  · cases hd
def boolsD : List D → Option (List Bool)
  | [] => some []
  | .bl b :: r => (boolsD r).map (b :: ·)
  | _ => none
theorem bools_at {F : Hp} : ∀ {vs : List V} {ds : List D} {bs : List Bool}, DpL X.K X.mg F vs ds → boolsD ds = some bs → vs = bs.map V.bl := by
  intro vs ds
  induction ds generalizing vs with
  | nil => intro bs h e; cases h; cases e; rfl
  | cons x r ih =>
    intro bs h e
    cases h with
    | cons h1 h2 =>
      cases x with
      | bl b =>
        unfold boolsD at e
        cases z : boolsD r with
        | none => rw [z] at e; cases e
        | some bs' => rw [z] at e; cases e; cases h1; rw [List.map_cons, ih h2 z]
      | non => cases e
      | int _ => cases e
      | str _ => cases e
      | lst _ => cases e
      | tupP _ _ => cases e
      | ins _ _ => cases e
      | glo _ => cases e
      | ty _ => cases e
      | dic _ => cases e
      | junk => cases e
      | exn _ _ => cases e
      | ro _ => cases e
def allDD : List D → Option D
  | [.lst ds] => (boolsD ds).map fun bs => .bl (bs.all id)
  | _ => none
def anyDD : List D → Option D
  | [.lst ds] => (boolsD ds).map fun bs => .bl (bs.any id)
  | _ => none
theorem opL_all : OpL X (scL allDD) (rAll X.K) := opL_sc fun F H xs ds d Q h hd q => by
  unfold allDD at hd
  split at hd
  · rename_i ds
    cases z : boolsD ds with
    | none => rw [z] at hd; cases hd
    | some bs =>
      rw [z] at hd; cases hd
      cases h with
      | cons h1 h2 => cases h2; cases h1 with | lst h l => exact ⟨_, bs, rfl, by rw [← bools_at l z]; exact SqL.of h, q _ (.bl _)⟩
  · cases hd
theorem opL_any : OpL X (scL anyDD) (rAny X.K) := opL_sc fun F H xs ds d Q h hd q => by
  unfold anyDD at hd
  split at hd
  · rename_i ds
    cases z : boolsD ds with
    | none => rw [z] at hd; cases hd
    | some bs =>
      rw [z] at hd; cases hd
      cases h with
      | cons h1 h2 => cases h2; cases h1 with | lst h l => exact ⟨_, bs, rfl, by rw [← bools_at l z]; exact SqL.of h, q _ (.bl _)⟩
  · cases hd
def intD : List D → Option D
  | [.int i] => some (.int i)
  | [.bl b] => some (.int (if b then 1 else 0))
  | _ => none
theorem opL_int : OpL X (scL intD) (fun xs H Q => (∃ i, xs = [.int i] ∧ Q (.int i) H) ∨ ∃ k, xs = [.bl k] ∧ Q (.int (if k then 1 else 0)) H) := opL_sc fun F H xs ds d Q h hd q => by
  unfold intD at hd
  split at hd
  · cases hd
    cases h with
    | cons h1 h2 => cases h2; cases h1; exact .inl ⟨_, rfl, q _ (.int _)⟩
  · cases hd
    cases h with
    | cons h1 h2 => cases h2; cases h1; exact .inr ⟨_, rfl, q _ (.int _)⟩
  · cases hd
end
end DL

/-! DL12: list(), tuple(), str(), sum, max, min, sorted, isinstance; methods of texts; lists changed -/
namespace DL
open PySem L2 PySem.Spec PyProof.Rows
section
variable {X : Cx} {W : WX} {σ : L2.St} {fs gs : List Addr} {w w2 : Wd} {H H2 : Hp} {M M2 : Mst}
variable {e o a b c : Expr} {es : List Expr} {F Fa Fb Fc Fo : Den} {A : DenA} {pos p apos cpos p2 : Pos} {x m : Str}
def listR : List R → Mst → Out R
  | [r], M => (match src M r with
    | some (.l ds, M1) => .ok (.t (.lst (ds.map T.d))) M1
    | some (.t ds, M1) => .ok (.t (.lst (ds.map T.d))) M1
    | some (.ro ds, M1) => .ok (.t (.lst (ds.map T.d))) M1
    | _ => .bad)
  | _, _ => .bad
theorem RRL.one {K : PySem.W.Frag} {mg : Mg} {vs : List V} {r : R} {fp : List Addr} (h : RRL K mg w H M vs [r] fp) : ∃ v, vs = [v] ∧ RR K mg w H M v r fp := by
  cases h with
  | cons h1 h2 _ => cases h2; exact ⟨_, rfl, by rw [List.append_nil]; exact h1⟩
theorem opL_list : OpL X listR (fun xs H Q => ∃ p ys, xs = [.ref p] ∧ (SqL X.K H p ys ∨ SqT X.K H p ys) ∧ ∀ l, H l = none → Q (.ref l) (upd H l (.lst ys))) := by
  intro W σ w H M xs rs fp Q m q p
  unfold listR at p
  split at p
  · rename_i r
    obtain ⟨v, hv, q1⟩ := q.one
    subst hv
    cases z : src M r with
    | none => rw [z] at p; exact p.elim
    | some s =>
      obtain ⟨s, M4⟩ := s
      obtain ⟨w4, e4, m4, a4⟩ := src_ok m q1 z
      rw [z] at p
      cases s with
      | l ds => obtain ⟨a, vs, rfl, h1, h2⟩ := a4; exact ⟨a, vs, rfl, .inl (SqL.of h1), fun l hl => CE.lst p e4 m4 hl h2⟩
      | t ds => obtain ⟨a, vs, rfl, h1, h2⟩ := a4; exact ⟨a, vs, rfl, .inr (Same.seqT m4.sub h1), fun l hl => CE.lst p e4 m4 hl h2⟩
      | ro ds => obtain ⟨a, vs, rfl, h1, h2⟩ := a4; exact ⟨a, vs, rfl, .inl (m4.sub.seq h1), fun l hl => CE.lst p e4 m4 hl h2⟩
      | s _ => exact p.elim
  · exact p.elim
def tupleR : List R → Mst → Out R
  | [r], M => (match src M r with
    | some (.l ds, M1) => .ok (.t (.tup (ds.map T.d))) M1
    | some (.t ds, M1) => .ok (.t (.d (.tup ds))) M1
    | _ => .bad)
  | _, _ => .bad
theorem opL_tuple : OpL X tupleR (fun xs H Q => ∃ p ys, xs = [.ref p] ∧ ((SqL X.K H p ys ∧ ∀ l, H l = none → Q (.ref l) (upd H l (.tup ys))) ∨ (SqT X.K H p ys ∧ Q (.ref p) H))) := by
  intro W σ w H M xs rs fp Q m q p
  unfold tupleR at p
  split at p
  · rename_i r
    obtain ⟨v, hv, q1⟩ := q.one
    subst hv
    cases z : src M r with
    | none => rw [z] at p; exact p.elim
    | some s =>
      obtain ⟨s, M4⟩ := s
      obtain ⟨w4, e4, m4, a4⟩ := src_ok m q1 z
      rw [z] at p
      cases s with
      | l ds => obtain ⟨a, vs, rfl, h1, h2⟩ := a4; exact ⟨a, vs, rfl, .inl ⟨SqL.of h1, fun l hl => CE.tup p e4 m4 hl h2⟩⟩
      | t ds => obtain ⟨a, vs, rfl, h1, h2⟩ := a4; exact ⟨a, vs, rfl, .inr ⟨Same.seqT m4.sub h1, CE.dat p e4 m4 (.tup h1 h2)⟩⟩
      | ro ds => exact p.elim
      | s _ => exact p.elim
  · exact p.elim
def strD : List D → Option D
  | [.int i] => if i.natAbs < 10 ^ 60 then some (.str (Str.ofString (toString i))) else none
  | _ => none
theorem opL_str : OpL X (scL strD) (fun xs H Q => ∃ i, xs = [.int i] ∧ i.natAbs.log2 < 1920 ∧ Q (.str (toString i)) H) := opL_sc fun F H xs ds d Q h hd q => by
  unfold strD at hd
  split at hd
  · split at hd
    · rename_i i hl
      cases hd
      cases h with
      | cons h1 h2 =>
        cases h2; cases h1
        refine ⟨i, rfl, ?_, q _ (.str _)⟩
        have : (10 : Nat) ^ 60 < 2 ^ 200 := by decide
        exact Nat.lt_of_lt_of_le (PySem.Flt.log2_lt_of (by decide) (show i.natAbs < 2 ^ 200 by omega)) (by decide)
    · cases hd
  · cases hd
def intsD : List D → Option (List Int)
  | [] => some []
  | .int b :: r => (intsD r).map (b :: ·)
  | _ => none
theorem ints_at {F : Hp} : ∀ {vs : List V} {ds : List D} {bs : List Int}, DpL X.K X.mg F vs ds → intsD ds = some bs → vs = bs.map V.int := by
  intro vs ds
  induction ds generalizing vs with
  | nil => intro bs h e; cases h; cases e; rfl
  | cons x r ih =>
    intro bs h e
    cases h with
    | cons h1 h2 =>
      cases x with
      | int b =>
        unfold intsD at e
        cases z : intsD r with
        | none => rw [z] at e; cases e
        | some bs' => rw [z] at e; cases e; cases h1; rw [List.map_cons, ih h2 z]
      | non => cases e
      | bl _ => cases e
      | str _ => cases e
      | lst _ => cases e
      | tupP _ _ => cases e
      | ins _ _ => cases e
      | glo _ => cases e
      | ty _ => cases e
      | dic _ => cases e
      | junk => cases e
      | exn _ _ => cases e
      | ro _ => cases e
theorem intsD_map (is : List Int) : intsD (is.map D.int) = some is := by
  induction is with
  | nil => rfl
  | cons x r ih => simp [intsD, ih]
def sumD : List D → Option D
  | [.lst ds] => (intsD ds).map fun is => .int is.sum
  | _ => none
def maxL : List Int → Int
  | [] => 0
  | x :: r => r.foldl max x
def minL : List Int → Int
  | [] => 0
  | x :: r => r.foldl min x
def maxD : List D → Option D
  | [.lst ds] => (match intsD ds with
    | some (x :: r) => some (.int (maxL (x :: r)))
    | _ => none)
  | _ => none
def minD : List D → Option D
  | [.lst ds] => (match intsD ds with
    | some (x :: r) => some (.int (minL (x :: r)))
    | _ => none)
  | _ => none
theorem foldl_max : ∀ (r : List Int) (x : Int), (r.foldl max x = x ∨ r.foldl max x ∈ r) ∧ x ≤ r.foldl max x ∧ ∀ y ∈ r, y ≤ r.foldl max x
  | [], x => ⟨.inl rfl, Int.le_refl _, fun _ z => nomatch z⟩
  | y :: r, x => by
    obtain ⟨h1, h2, h3⟩ := foldl_max r (max x y)
    rw [List.foldl_cons]
    refine ⟨?_, by omega, fun z hz => ?_⟩
    · rcases h1 with h1 | h1
      · rw [h1]
        by_cases e : x ≤ y
        · right; rw [Int.max_eq_right e]; exact List.mem_cons_self
        · left; omega
      · exact .inr (List.mem_cons_of_mem _ h1)
    · rcases List.mem_cons.mp hz with rfl | hz
      · omega
      · exact h3 z hz
theorem foldl_min : ∀ (r : List Int) (x : Int), (r.foldl min x = x ∨ r.foldl min x ∈ r) ∧ r.foldl min x ≤ x ∧ ∀ y ∈ r, r.foldl min x ≤ y
  | [], x => ⟨.inl rfl, Int.le_refl _, fun _ z => nomatch z⟩
  | y :: r, x => by
    obtain ⟨h1, h2, h3⟩ := foldl_min r (min x y)
    rw [List.foldl_cons]
    refine ⟨?_, by omega, fun z hz => ?_⟩
    · rcases h1 with h1 | h1
      · rw [h1]
        by_cases e : x ≤ y
        · left; omega
        · right; rw [Int.min_eq_right (by omega)]; exact List.mem_cons_self
      · exact .inr (List.mem_cons_of_mem _ h1)
    · rcases List.mem_cons.mp hz with rfl | hz
      · omega
      · exact h3 z hz
theorem maxL_mem (x : Int) (r : List Int) : maxL (x :: r) ∈ x :: r ∧ ∀ y ∈ x :: r, y ≤ maxL (x :: r) := by
  obtain ⟨h1, h2, h3⟩ := foldl_max r x
  refine ⟨h1.elim (fun h => ?_) fun h => List.mem_cons_of_mem _ h, fun y hy => ?_⟩
  · show r.foldl max x ∈ _; rw [h]; exact List.mem_cons_self
  · rcases List.mem_cons.mp hy with rfl | hy
    · exact h2
    · exact h3 y hy
theorem minL_mem (x : Int) (r : List Int) : minL (x :: r) ∈ x :: r ∧ ∀ y ∈ x :: r, minL (x :: r) ≤ y := by
  obtain ⟨h1, h2, h3⟩ := foldl_min r x
  refine ⟨h1.elim (fun h => ?_) fun h => List.mem_cons_of_mem _ h, fun y hy => ?_⟩
  · show r.foldl min x ∈ _; rw [h]; exact List.mem_cons_self
  · rcases List.mem_cons.mp hy with rfl | hy
    · exact h2
    · exact h3 y hy
theorem opL_sum : OpL X (scL sumD) (rSum X.K) := opL_sc fun F H xs ds d Q h hd q => by
  unfold sumD at hd
  split at hd
  · rename_i ds
    cases z : intsD ds with
    | none => rw [z] at hd; cases hd
    | some is =>
      rw [z] at hd; cases hd
      cases h with
      | cons h1 h2 => cases h2; cases h1 with | lst h l => exact ⟨_, is, rfl, by rw [← ints_at l z]; exact SqL.of h, q _ (.int _)⟩
  · cases hd
theorem opL_max : OpL X (scL maxD) (rMax X.K) := opL_sc fun F H xs ds d Q h hd q => by
  unfold maxD at hd
  split at hd
  · split at hd
    · rename_i ds x r z
      cases hd
      cases h with
      | cons h1 h2 =>
        cases h2
        cases h1 with
        | lst h l =>
          refine ⟨_, x :: r, rfl, by rw [← ints_at l z]; exact SqL.of h, Nat.succ_pos _, fun k h1 h2 => ?_⟩
          obtain ⟨g1, g2⟩ := maxL_mem x r
          rw [Int.le_antisymm (g2 k h1) (h2 _ g1)]
          exact q _ (.int _)
    · cases hd
  · cases hd
theorem opL_min : OpL X (scL minD) (rMin X.K) := opL_sc fun F H xs ds d Q h hd q => by
  unfold minD at hd
  split at hd
  · split at hd
    · rename_i ds x r z
      cases hd
      cases h with
      | cons h1 h2 =>
        cases h2
        cases h1 with
        | lst h l =>
          refine ⟨_, x :: r, rfl, by rw [← ints_at l z]; exact SqL.of h, Nat.succ_pos _, fun k h1 h2 => ?_⟩
          obtain ⟨g1, g2⟩ := minL_mem x r
          rw [Int.le_antisymm (h2 _ g1) (g2 k h1)]
          exact q _ (.int _)
    · cases hd
  · cases hd
theorem ints_dp {F : Hp} (is : List Int) : DpL X.K X.mg F (is.map V.int) (is.map D.int) := by
  induction is with
  | nil => exact .nil
  | cons x r ih => exact .cons (.int x) ih
theorem strs_dp {F : Hp} (is : List Str) : DpL X.K X.mg F (is.map V.str) (is.map D.str) := by
  induction is with
  | nil => exact .nil
  | cons x r ih => exact .cons (.str x) ih
def sortI (is : List Int) : List Int := is.mergeSort (fun a b => decide (a ≤ b))
theorem sortI_perm (is : List Int) : (sortI is).Perm is := List.mergeSort_perm _ _
theorem sortI_pw (is : List Int) : (sortI is).Pairwise (· ≤ ·) := by
  have := List.pairwise_mergeSort (le := fun a b : Int => decide (a ≤ b)) (fun a b c h1 h2 => by simp at *; omega) (fun a b => by simp; omega) is
  exact this.imp fun h => by simpa using h
def sortedR : List R → Mst → Out R
  | [r], M => (match src M r with
    | some (.l ds, M1) => (match intsD ds with
      | some is => if is.length < 64 then .ok (.t (.lst (((sortI is).map D.int).map T.d))) M1 else .bad
      | none => .bad)
    | _ => .bad)
  | _, _ => .bad
theorem opL_sorted : OpL X sortedR (rSorted X.K) := by
  intro W σ w H M xs rs fp Q m q p
  unfold sortedR at p
  split at p
  · rename_i r
    obtain ⟨v, hv, q1⟩ := q.one
    subst hv
    cases z : src M r with
    | none => rw [z] at p; exact p.elim
    | some s =>
      obtain ⟨s, M4⟩ := s
      obtain ⟨w4, e4, m4, a4⟩ := src_ok m q1 z
      rw [z] at p
      cases s with
      | l ds =>
        obtain ⟨a, vs, rfl, h1, h2⟩ := a4
        dsimp only at p
        split at p
        · rename_i is hz
          split at p
          · rename_i hl
            refine ⟨a, is, rfl, by rw [← ints_at h2 hz]; exact SqL.of h1, hl, fun ns l hp hs hl => ?_⟩
            have : ns = sortI is := PySem.W.ksm_same (hp.trans (sortI_perm is).symm) hs (sortI_pw is)
            subst this
            exact CE.lst p e4 m4 hl (ints_dp _)
          · exact p.elim
        · exact p.elim
      | t ds => exact p.elim
      | ro ds => exact p.elim
      | s _ => exact p.elim
  · exact p.elim

/-! ### isinstance -/
def tyName : D → Option String
  | .non => some "NoneType"
  | .bl _ => some "bool"
  | .int _ => some "int"
  | .str _ => some "str"
  | .lst _ => some "list"
  | .tupP _ _ => some "tuple"
  | _ => none
def isI (t n : String) : Bool := t == n || (t == "bool" && n == "int")
theorem kitB_all : ∀ t ∈ ["NoneType", "bool", "int", "str", "list", "tuple"], ∀ n ∈ ["bool", "int", "str", "list", "tuple"], kitB t n = some (isI t n) := by decide +kernel
def tysD : List D → Option (List String)
  | [] => some []
  | .ty n :: r => (tysD r).map (n :: ·)
  | _ => none
def okTy (n : String) : Bool := ["bool", "int", "str", "list", "tuple"].contains n
def tysT : List T → Option (List String)
  | [] => some []
  | .d (.ty n) :: r => (tysT r).map (n :: ·)
  | _ => none
def isiR : List R → Mst → Out R
  | [r, .t (.d (.ty n))], M => (match tyName (frzR M r) with
    | some t => if okTy n = true then .ok (.t (.d (.bl (isI t n)))) M else .bad
    | none => .bad)
  | [r, .t (.tup ts)], M => (match tyName (frzR M r), tysT ts with
    | some t, some ns => if ns.all okTy = true then .ok (.t (.d (.bl (ns.any (isI t))))) M else .bad
    | _, _ => .bad)
  | _, _ => .bad
theorem tyX_of {v : V} {d : D} {t : String} (h : Dp X.K X.mg H v d) (ht : tyName d = some t) : TyX X.K H v (.type t) ∧ t ∈ ["NoneType", "bool", "int", "str", "list", "tuple"] := by
  cases h with
  | non => cases ht; exact ⟨.base .non, by decide⟩
  | bl b => cases ht; exact ⟨.base (.bl b), by decide⟩
  | int i => cases ht; exact ⟨.base (.int i), by decide⟩
  | str x => cases ht; exact ⟨.base (.str x), by decide⟩
  | lst h l => cases ht; exact ⟨.base (.lst h), by decide⟩
  | tupP h l =>
    cases ht
    refine ⟨?_, by decide⟩
    rcases h.1 with (h | ⟨o, h⟩) | ⟨o, its, n, h1, h2, _⟩
    · exact .base (.tup h)
    · exact .fTuple h
    · exact .kTuple h1 h2
  | ro h l => cases ht
  | ins _ _ _ => cases ht
  | glo _ => cases ht
  | ty _ => cases ht
  | dic _ _ => cases ht
  | junk _ => cases ht
  | exn _ _ _ _ => cases ht
theorem tys_at {F : Hp} : ∀ {vs : List V} {ts : List T} {ns : List String} {fp : List Addr}, TRL X.K X.mg F H vs ts fp → tysT ts = some ns → Paired ClsV vs (ns.map Value.type) := by
  intro vs ts
  induction ts generalizing vs with
  | nil => intro bs fp h e; cases h; cases e; exact .nil
  | cons x r ih =>
    intro bs fp h e
    cases h with
    | cons h1 h2 =>
      cases x with
      | d d =>
        cases d with
        | ty b =>
          unfold tysT at e
          cases z : tysT r with
          | none => rw [z] at e; cases e
          | some bs' =>
            rw [z] at e; cases e
            cases h1 with
            | d h1 => cases h1; exact .cons (.ty _) (ih h2 z)
        | non => cases e
        | bl _ => cases e
        | str _ => cases e
        | lst _ => cases e
        | tupP _ _ => cases e
        | ins _ _ => cases e
        | dic _ => cases e
        | glo _ => cases e
        | int _ => cases e
        | ro _ => cases e
        | junk => cases e
        | exn _ _ => cases e
      | lst _ => cases e
      | tup _ => cases e
      | ins _ _ => cases e
      | dic _ => cases e
      | tbl => cases e
theorem RRL.two {K : PySem.W.Frag} {mg : Mg} {vs : List V} {r r' : R} {fp : List Addr} (h : RRL K mg w H M vs [r, r'] fp) : ∃ v v' f f', vs = [v, v'] ∧ RR K mg w H M v r f ∧ RR K mg w H M v' r' f' ∧ fp = f ++ f' ∧ ∀ a ∈ f, a ∉ f' := by
  cases h with
  | cons h1 h2 d =>
    obtain ⟨v', hv, h3⟩ := h2.one
    subst hv
    exact ⟨_, _, _, _, rfl, h1, h3, rfl, d⟩
theorem kitAny_tys {K : PySem.W.Frag} {t : String} (ht : t ∈ ["NoneType", "bool", "int", "str", "list", "tuple"]) : ∀ {ns : List String}, ns.all okTy = true → PySem.W.kitAny K (.type t) (ns.map Value.type) = some (ns.any (isI t))
  | [], _ => rfl
  | n :: ns, h => by
    rw [List.all_cons, Bool.and_eq_true] at h
    have hn : n ∈ ["bool", "int", "str", "list", "tuple"] := by
      have := h.1
      unfold okTy at this
      simpa using this
    have k := kit_ty (K := K) (kitB_all t ht n hn)
    rw [List.map_cons, List.any_cons]
    refine kitAny_cons k (fun e => ?_) fun e => by rw [e]; rfl
    rw [e, Bool.false_or]
    exact kitAny_tys ht h.2
theorem or_isi : CallR X (.builtin "isinstance") (fun xs H Q => rIsi X.K xs H Q ∨ rIsiT X.K xs H Q ∨ rIsiK X.K xs H Q) := CallR.or call_isi (CallR.or call_isiT call_isiK)
theorem opL_isi : OpL X isiR (fun xs H Q => rIsi X.K xs H Q ∨ rIsiT X.K xs H Q ∨ rIsiK X.K xs H Q) := by
  intro W σ w H M xs rs fp Q m q p
  unfold isiR at p
  split at p
  · rename_i r n
    obtain ⟨v, v', f, f', rfl, q1, q2, _, _⟩ := q.two
    split at p
    · rename_i t z
      split at p
      · rename_i hk
        obtain ⟨k1, k2⟩ := tyX_of (seen m q1) z
        obtain ⟨q2, _⟩ := rr_dat q2
        cases q2
        have hn : n ∈ ["bool", "int", "str", "list", "tuple"] := by unfold okTy at hk; simpa using hk
        exact .inl ⟨_, _, _, _, _, rfl, .ty n, k1, kit_ty (kitB_all t k2 n hn), (p.now m).val (C := fun _ => r) (.bl _)⟩
      · exact p.elim
    · exact p.elim
  · rename_i r ts
    obtain ⟨v, v', f, f', rfl, q1, q2, _, _⟩ := q.two
    split at p
    · rename_i t ns z z2
      split at p
      · rename_i hk
        obtain ⟨k1, k2⟩ := tyX_of (seen m q1) z
        obtain ⟨q2, _⟩ := q2
        cases q2 with
        | tup h _ l => exact .inr (.inl ⟨_, _, _, _, _, _, rfl, h, tys_at l z2, k1, kitAny_tys k2 hk, (p.now m).val (C := fun _ => r) (.bl _)⟩)
      · exact p.elim
    · exact p.elim
  · exact p.elim
end
end DL

/-! DL13: lists changed in place; texts' methods; f-strings -/
namespace DL
open PySem L2 PySem.Spec PyProof.Rows
section
variable {X : Cx} {W : WX} {σ : L2.St} {fs gs : List Addr} {w w2 : Wd} {H H2 : Hp} {M M2 : Mst}
variable {e o i a b c : Expr} {es : List Expr} {F Fa Fb Fc Fo Fi Fe : Den} {A : DenA} {pos p apos cpos p2 : Pos} {x m : Str}

/-- a mutable list gets other items -/
theorem put_lst {k : Nat} {ts ts' : List T} {vs' : List V} {fp' : List Addr} (m : MR X.K X.mg w H M) (hk : M[k]? = some (.lst ts)) (h' : TRL X.K X.mg w.F H vs' ts' fp') (nd : (w.α k :: fp').Nodup)
    (dj : ∀ a ∈ fp', ∀ j, j < M.length → j ≠ k → a ∉ w.φ j) (pm : ∀ a ∈ fp', Pm fs w H M a) : ∃ w', Ext fs w H M w' (upd H (w.α k) (.lst vs')) (M.set k (.lst ts')) ∧ MR X.K X.mg w' (upd H (w.α k) (.lst vs')) (M.set k (.lst ts')) ∧ w'.F = w.F ∧ w'.α = w.α := by
  have hkl : k < M.length := (List.getElem?_eq_some_iff.mp hk).1
  obtain ⟨q, qn⟩ := m.obj k _ hk
  obtain ⟨vs, fk, hl, hF, hfk⟩ : ∃ vs fk, H (w.α k) = some (.lst vs) ∧ w.F (w.α k) = none ∧ w.φ k = w.α k :: fk := by
    generalize hφ : w.φ k = f at q
    cases q with
    | lst h1 h2 h3 => exact ⟨_, _, h1, h2, rfl⟩
  have hin : w.α k ∈ w.φ k := by rw [hfk]; exact List.mem_cons_self
  have hne : ∀ j, j < M.length → j ≠ k → w.α k ∉ w.φ j := fun j hj hjk z => hjk (m.dis j k _ hj hkl z hin)
  have hnl := (List.nodup_cons.mp nd).1
  refine ⟨⟨w.F, w.α, fun j => if j = k then w.α k :: fp' else w.φ j⟩, ⟨Same.refl _, by simp, fun _ _ => rfl, fun a o e n => ?_, fun j hj a ha => ?_, fun _ h => .inl h, fun a e => ?_⟩, ⟨fun a o e => ?_, fun j t e => ?_, fun i j a hi hj h1 h2 => ?_⟩, rfl, rfl⟩
  · have ne : a ≠ w.α k := fun z => n (.inr (.inl ⟨k, hkl, by rw [z]; exact hin⟩))
    rw [upd_ne ne]; exact e
  · rw [List.length_set] at hj
    have ha : a ∈ (if j = k then w.α k :: fp' else w.φ j) := ha
    split at ha
    · rcases List.mem_cons.mp ha with rfl | ha
      · exact .inr (.inl ⟨k, hkl, hin⟩)
      · exact pm a ha
    · exact .inr (.inl ⟨j, hj, ha⟩)
  · by_cases z : a = w.α k
    · rw [z, upd_same] at e; cases e
    · rw [upd_ne z] at e; exact e
  · have ne : a ≠ w.α k := fun z => by rw [z, show w.F (w.α k) = none from hF] at e; cases e
    rw [upd_ne ne]; exact m.sub a o e
  · by_cases hjk : k = j
    · subst hjk
      rw [List.getElem?_set_self hkl] at e
      cases e
      show TR X.K X.mg w.F _ _ _ (if k = k then w.α k :: fp' else w.φ k) ∧ (if k = k then w.α k :: fp' else w.φ k).Nodup
      rw [if_pos rfl]
      refine ⟨.lst upd_same hF (h'.stay (Same.refl _) fun a ha => ⟨(h'.fp a ha).1, fun o ho => ?_⟩), nd⟩
      have ne : a ≠ w.α k := fun z => hnl (z ▸ ha)
      rw [upd_ne ne]; exact ho
    · rw [List.getElem?_set_ne hjk] at e
      obtain ⟨z1, z2⟩ := m.obj j t e
      have hj : j < M.length := (List.getElem?_eq_some_iff.mp e).1
      show TR X.K X.mg w.F _ _ _ (if j = k then w.α k :: fp' else w.φ j) ∧ (if j = k then w.α k :: fp' else w.φ j).Nodup
      rw [if_neg (Ne.symm hjk)]
      refine ⟨z1.stay (Same.refl _) fun a ha => ⟨(z1.fp a ha).1, fun o ho => ?_⟩, z2⟩
      have ne : a ≠ w.α k := fun z => hne j hj (Ne.symm hjk) (z ▸ ha)
      rw [upd_ne ne]; exact ho
  · rw [List.length_set] at hi hj
    have h1 : a ∈ (if i = k then w.α k :: fp' else w.φ i) := h1
    have h2 : a ∈ (if j = k then w.α k :: fp' else w.φ j) := h2
    split at h1
    · rename_i ei
      split at h2
      · rename_i ej; rw [ei, ej]
      · rename_i ej
        rcases List.mem_cons.mp h1 with rfl | h1
        · exact absurd h2 (hne j hj ej)
        · exact absurd h2 (dj a h1 j hj ej)
    · rename_i ei
      split at h2
      · rename_i ej
        rcases List.mem_cons.mp h2 with rfl | h2
        · exact absurd h1 (hne i hi ei)
        · exact absurd h1 (dj a h2 i hi ei)
      · exact m.dis i j a hi hj h1 h2
theorem trl_set : ∀ {vs : List V} {ts : List T} {f : List Addr} {j : Nat} {v : V} {t : T} {g : List Addr}, TRL X.K X.mg w.F H vs ts f → TR X.K X.mg w.F H v t g → f.Nodup → g.Nodup → (∀ a ∈ g, a ∉ f) →
    ∃ f', TRL X.K X.mg w.F H (vs.set j v) (ts.set j t) f' ∧ f'.Nodup ∧ ∀ a ∈ f', a ∈ f ∨ a ∈ g
  | _, _, _, _, _, _, _, .nil, _, _, _, _ => ⟨[], .nil, List.nodup_nil, fun _ z => nomatch z⟩
  | _, _, _, 0, _, _, g, .cons (f1 := f1) (f2 := f2) h r, q, nd, ng, dj => by
    obtain ⟨n1, n2, n3⟩ := List.nodup_append.mp nd
    refine ⟨g ++ f2, .cons q r, List.nodup_append.mpr ⟨ng, n2, fun a ha b hb z => dj a ha (List.mem_append_right _ (z ▸ hb))⟩, fun a ha => ?_⟩
    rcases List.mem_append.mp ha with ha | ha
    · exact .inr ha
    · exact .inl (List.mem_append_right _ ha)
  | _, _, _, j + 1, v, t, g, .cons (f1 := f1) (f2 := f2) h r, q, nd, ng, dj => by
    obtain ⟨n1, n2, n3⟩ := List.nodup_append.mp nd
    obtain ⟨f', i1, i2, i3⟩ := trl_set (j := j) r q n2 ng fun a ha hb => dj a ha (List.mem_append_right _ hb)
    refine ⟨f1 ++ f', .cons h i1, List.nodup_append.mpr ⟨n1, i2, fun a ha b hb z => ?_⟩, fun a ha => ?_⟩
    · rcases i3 b hb with q | q
      · exact n3 a ha b q z
      · exact dj b q (List.mem_append_left _ (z ▸ ha))
    · rcases List.mem_append.mp ha with ha | ha
      · exact .inl (List.mem_append_left _ ha)
      · exact (i3 a ha).imp (fun z => List.mem_append_right _ z) id
/-- a mutable list, opened -/
theorem open_lst {k : Nat} {ts : List T} (m : MR X.K X.mg w H M) (hk : M[k]? = some (.lst ts)) : ∃ vs fk, H (w.α k) = some (.lst vs) ∧ w.F (w.α k) = none ∧ w.φ k = w.α k :: fk ∧ TRL X.K X.mg w.F H vs ts fk ∧ (w.α k :: fk).Nodup ∧ (∀ a ∈ w.α k :: fk, ∀ j, j < M.length → j ≠ k → a ∉ w.φ j) := by
  have hkl : k < M.length := (List.getElem?_eq_some_iff.mp hk).1
  obtain ⟨q, qn⟩ := m.obj k _ hk
  have hd : ∀ a ∈ w.φ k, ∀ j, j < M.length → j ≠ k → a ∉ w.φ j := fun a ha j hj hjk z => hjk (m.dis j k a hj hkl z ha)
  generalize hφ : w.φ k = f at q qn hd
  cases q with
  | lst h1 h2 h3 => exact ⟨_, _, h1, h2, rfl, h3, qn, hd⟩
/-- x[i] = r -/
def setR (ro ri r : R) (M : Mst) : Option Mst := match ro, frzR M ri with
  | .h k, .int i => (match (frzM M r)[k]? with
    | some (.lst ts) => (match ixN ts.length i with
      | some j => some ((frzM M r).set k (.lst (ts.set j (treeT M r))))
      | none => none)
    | _ => none)
  | _, _ => none
def gItem (Fo Fi : Den) : DenG := fun r ρ M => match Fo ρ M with
  | .ok ro M1 => (match Fi ρ M1 with
    | .ok ri M2 => (match setR ro ri r M2 with
      | some M3 => some (ρ, M3)
      | none => none)
    | _ => none)
  | _ => none
theorem dg_item (ho : DE X W o Fo) (hi : DE X W i Fi) (ha : ∀ v, assign (.Subscript o i pos) X.env v = (do
      let ov ← holding [v] (eval o X.env)
      let iv ← holding [v, ov] (eval i X.env)
      standAt pos
      holding [v, ov, iv] (setItem ov iv v)
      release [v, ov, iv] []) := by intro _; rfl) : DG X W (.Subscript o i pos) (gItem Fo Fi) := (pg_sub ho hi set_list ha).mono fun v σ H Q h => by
  obtain ⟨w, ρ, M, r, fp, m, er, q, p⟩ := h
  unfold gItem at p
  refine ⟨w, ρ, M, m, er, ?_⟩
  cases z1 : Fo ρ M with
  | bad => rw [z1] at p; exact p.elim
  | exc e M' => rw [z1] at p; exact p.elim
  | ok ro M1 =>
    rw [z1] at p
    dsimp only at p
    intro w1 H1 e1 m1 v1 f1 q1 hf1
    refine ⟨w1, ρ, M1, m1, er.stay e1, ?_⟩
    cases z2 : Fi ρ M1 with
    | bad => rw [z2] at p; exact p.elim
    | exc e M' => rw [z2] at p; exact p.elim
    | ok ri M2 =>
      rw [z2] at p
      dsimp only at p
      intro w2 H2 e2 m2 v2 f2 q2 hf2
      have e12 : Ext [] w H M w2 H2 M2 := e1.trans0 e2
      have q0 := q.stay e12 fun _ _ z => nomatch z
      cases z3 : setR ro ri r M2 with
      | none => rw [z3] at p; exact p.elim
      | some M3 =>
        rw [z3] at p
        unfold setR at z3
        split at z3
        · rename_i k i hi'
          have s2 := seen m2 q2
          rw [hi'] at s2
          cases s2
          obtain ⟨w3, e3, m3, t3, nd3, dj3⟩ := treeT_ok m2 q0
          have q1' := (q1.stay e2 fun _ _ z => nomatch z).stay e3 fun _ _ z => nomatch z
          obtain ⟨hk, rfl, _⟩ := q1'
          split at z3
          · rename_i ts hts
            split at z3
            · rename_i j hj
              cases z3
              obtain ⟨vs, fk, g1, g2, g3, g4, g5, g6⟩ := open_lst m3 hts
              obtain ⟨g5a, g5b⟩ := List.nodup_cons.mp g5
              have djk : ∀ a ∈ fp, a ∉ w3.α k :: fk := fun a ha hb => dj3 a ha k hk (by rw [g3]; exact hb)
              obtain ⟨f', i1, i2, i3⟩ := trl_set (j := j) g4 t3 g5b nd3 fun a ha hb => djk a ha (List.mem_cons_of_mem _ hb)
              have e13 : Ext [] w H M w3 H2 (frzM M2 r) := e12.trans0 e3
              obtain ⟨w4, e4, m4, _, _⟩ := put_lst (fs := fp) m3 hts i1 (List.nodup_cons.mpr ⟨fun z => (i3 _ z).elim g5a fun z => djk _ z List.mem_cons_self, i2⟩)
                (fun a ha j hj hjk => (i3 a ha).elim (fun z => g6 a (List.mem_cons_of_mem _ z) j hj hjk) fun z => dj3 a z j hj)
                fun a ha => (i3 a ha).elim (fun z => .inr (.inl ⟨k, hk, by rw [g3]; exact List.mem_cons_of_mem _ z⟩)) fun z => .inr (.inr z)
              refine ⟨w3.α k, vs, i, j, rfl, rfl, g1, by rw [g4.length]; exact hj, ?_⟩
              exact p w4 _ σ ((e13.mono fun _ z => nomatch z).trans e4 fun a ha => .inr (.inr ha)) m4 ((er.stay e13).stay e4)
            · cases z3
          · cases z3
        · cases z3

/-! ### methods of texts -/
def eM0 (g : Str → Mst → Out R) (Fo : Den) : Den := fun ρ M => (Fo ρ M).bind fun r M1 => match r with
  | .t (.d (.str a)) => g a M1
  | _ => .bad
def eM1 (g : Str → R → Mst → Out R) (Fo Fe : Den) : Den := fun ρ M => (Fo ρ M).bind fun r M1 => match r with
  | .t (.d (.str a)) => (Fe ρ M1).bind fun r2 M2 => g a r2 M2
  | _ => .bad
def OpM1 (X : Cx) (g : Str → R → Mst → Out R) (r : V → List V → Hp → VK → Prop) : Prop := ∀ (W : WX) (σ : L2.St) (w : Wd) (H : Hp) (M : Mst) (a : Str) (v : V) (r1 : R) (fp : List Addr) (Q : VK), MR X.K X.mg w H M →
  RR X.K X.mg w H M v r1 fp → Post X W σ fp w H M (g a r1 M) (CE X fp w H M Q) → r (.str a) [v] H Q
theorem rd_m1 {g : Str → R → Mst → Out R} {r : V → List V → Hp → VK → Prop} (hg : OpM1 X g r) {Q : VK} (h : rdE X W (eM1 g Fo Fe) σ H Q) : tM1 r (rdE X W Fo) (rdE X W Fe) σ H Q := by
  obtain ⟨w, ρ, M, m, er, p⟩ := h
  refine ⟨w, ρ, M, m, er, p.bindF.imp fun w1 H1 M1 x _ _ z => ?_⟩
  obtain ⟨e1, m1, p1⟩ := z
  intro v1 f1 q1 hf1
  replace p1 := p1 [] fun _ z => nomatch z
  split at p1
  · rename_i a
    obtain ⟨q1, _⟩ := rr_dat q1
    cases q1
    refine ⟨⟨a, rfl⟩, w1, ρ, M1, m1, er.stay e1, (Post.bindF p1).imp fun w2 H2 M2 y _ _ z => ?_⟩
    obtain ⟨e2, m2, p2⟩ := z
    intro v2 f2 q2 hf2
    exact hg W σ w2 H2 M2 a v2 y f2 Q m2 q2 ((p2 f2 hf2).imp fun _ _ _ _ _ _ q => q.from (e1.trans0 e2) fun a ha => e1.pm (gs := []) (fun _ z => nomatch z) (hf2 a ha))
  · exact p1.elim
theorem de_m1 {id : String} {name : Str} {r : V → List V → Hp → VK → Prop} {g : Str → R → Mst → Out R} (slot : Slot "str" name id) (ty : typeOf (.builtin id) = pure (.type "method_descriptor")) (rule : MtR X id r) (hg : OpM1 X g r) (ho : DE X W o Fo) (he : DE X W e Fe)
    (hs : starEach [e] X.env = [(false, eval e X.env)] := by rfl) (hbase : attributeBase o name X.env (eval o X.env) = eval o X.env := by rfl) (hline : (apos.endLine == pos.line) = true := by rfl) :
    DE X W (.Call (.Attribute o name apos) [e] [] pos) (eM1 g Fo Fe) := (pe_m1 slot ty rule ho he hs hbase hline).mono fun _ _ _ h => rd_m1 hg h
def strsD : List D → Option (List Str)
  | [] => some []
  | .str b :: r => (strsD r).map (b :: ·)
  | _ => none
theorem strsD_map (is : List Str) : strsD (is.map D.str) = some is := by
  induction is with
  | nil => rfl
  | cons x r ih => simp [strsD, ih]
theorem strs_at {F : Hp} : ∀ {vs : List V} {ds : List D} {bs : List Str}, DpL X.K X.mg F vs ds → strsD ds = some bs → vs = bs.map V.str := by
  intro vs ds
  induction ds generalizing vs with
  | nil => intro bs h e; cases h; cases e; rfl
  | cons x r ih =>
    intro bs h e
    cases h with
    | cons h1 h2 =>
      cases x with
      | str b =>
        unfold strsD at e
        cases z : strsD r with
        | none => rw [z] at e; cases e
        | some bs' => rw [z] at e; cases e; cases h1; rw [List.map_cons, ih h2 z]
      | non => cases e
      | bl _ => cases e
      | int _ => cases e
      | lst _ => cases e
      | tupP _ _ => cases e
      | ins _ _ => cases e
      | glo _ => cases e
      | ty _ => cases e
      | dic _ => cases e
      | junk => cases e
      | exn _ _ => cases e
      | ro _ => cases e
def joinR (a : Str) (r : R) (M : Mst) : Out R := match src M r with
  | some (q, M1) => (match q, strsD q.ds with
    | .l _, some ys => if (ys.map (·.length)).sum + ys.length * a.length ≤ 1000000 then .ok (.t (.d (.str (Txt.join a ys)))) M1 else .bad
    | .t _, some ys => if (ys.map (·.length)).sum + ys.length * a.length ≤ 1000000 then .ok (.t (.d (.str (Txt.join a ys)))) M1 else .bad
    | _, _ => .bad)
  | none => .bad
theorem opM1_join : OpM1 X joinR (fun x xs H Q => ∃ a p, ∃ ys : List Str, x = .str a ∧ xs = [.ref p] ∧ (SqL X.K H p (ys.map V.str) ∨ SqT X.K H p (ys.map V.str)) ∧ (ys.map (·.length)).sum + ys.length * a.length ≤ 16777216 ∧ Q (.str (Txt.join a ys)) H) := by
  intro W σ w H M a v r1 fp Q m q p
  unfold joinR at p
  cases z : src M r1 with
  | none => rw [z] at p; exact p.elim
  | some s =>
    obtain ⟨s, M4⟩ := s
    obtain ⟨w4, e4, m4, a4⟩ := src_ok m q z
    rw [z] at p
    dsimp only at p
    split at p
    · rename_i ds ys hy
      obtain ⟨b, vs, rfl, h1, h2⟩ := a4
      split at p
      · rename_i hl
        exact ⟨a, b, ys, rfl, rfl, .inl (by rw [← strs_at h2 hy]; exact SqL.of h1), by omega, CE.dat p e4 m4 (.str _)⟩
      · exact p.elim
    · rename_i ds ys hy
      obtain ⟨b, vs, rfl, h1, h2⟩ := a4
      split at p
      · rename_i hl
        exact ⟨a, b, ys, rfl, rfl, .inr (by rw [← strs_at h2 hy]; exact Same.seqT m4.sub h1), by omega, CE.dat p e4 m4 (.str _)⟩
      · exact p.elim
    · exact p.elim
def splitR (a : Str) (r : R) (M : Mst) : Out R := match r with
  | .t (.d (.str b)) => if (b.length == 0) = false ∧ a.length ≤ 1000000 then .ok (.t (.lst (((Txt.split a b).map D.str).map T.d))) M else .bad
  | _ => .bad
theorem opM1_split : OpM1 X splitR (fun x xs H Q => ∃ a b, x = .str a ∧ xs = [.str b] ∧ (b.length == 0) = false ∧ a.length + 2 ≤ sizeLine ∧ rNewStrs (Txt.split a b) H Q) := by
  intro W σ w H M a v r1 fp Q m q p
  unfold splitR at p
  split at p
  · rename_i b
    split at p
    · rename_i hl
      obtain ⟨q, _⟩ := rr_dat q
      cases q
      exact ⟨a, b, rfl, rfl, hl.1, by rw [sizeLine_eq]; omega, fun l hl => CE.lst p (Ext.refl m) m hl (strs_dp _)⟩
    · exact p.elim
  · exact p.elim
def startsR (a : Str) (r : R) (M : Mst) : Out R := match r with
  | .t (.d (.str b)) => .ok (.t (.d (.bl (Txt.startswith a b)))) M
  | _ => .bad
theorem opM1_starts : OpM1 X startsR (fun x xs H Q => ∃ a b, x = .str a ∧ xs = [.str b] ∧ Q (.bl (Txt.startswith a b)) H) := by
  intro W σ w H M a v r1 fp Q m q p
  unfold startsR at p
  split at p
  · rename_i b
    obtain ⟨q, _⟩ := rr_dat q
    cases q
    exact ⟨a, b, rfl, rfl, (p.now m).val (C := fun _ => .t (.d (.str b))) (.bl _)⟩
  · exact p.elim
end
end DL

/-! DL14: a, b = x, y; f-strings; methods of lists -/
namespace DL
open PySem L2 PySem.Spec PyProof.Rows
section
variable {X : Cx} {W : WX} {σ : L2.St} {fs gs : List Addr} {w w2 : Wd} {H H2 : Hp} {M M2 : Mst} {Dn : Ends}
variable {e o i a b c : Expr} {es : List Expr} {F Fa Fb Fc Fo Fi Fe : Den} {A : DenA} {pos p apos cpos p2 : Pos} {x y z m : Str}
/-- a target that is a name, with what it does -/
structure GN (X : Cx) (W : WX) (i : Nat) (G : DenG) : Prop where
  rd : ∀ v σ H Q, rdG X W G v σ H Q → gName i v σ H Q
theorem gn_set (i : Nat) : GN X W i (gSet i) := ⟨fun _ _ _ _ => rd_set⟩
theorem gn_setM (i : Nat) : GN X W i (gSetM i) := ⟨fun _ _ _ _ => rd_setM⟩
def sPar2 (G1 G2 : DenG) (A : DenA) : DenS := fun ρ M => bindS (A ρ M) ρ fun rs M1 => match rs with
  | [r1, r2] => (match G1 r1 ρ M1 with
    | some (ρ1, M2) => (match G2 r2 ρ1 M2 with
      | some (ρ2, M3) => some (.nx ρ2, M3)
      | none => none)
    | none => none)
  | _ => none
def sPar3 (G1 G2 G3 : DenG) (A : DenA) : DenS := fun ρ M => bindS (A ρ M) ρ fun rs M1 => match rs with
  | [r1, r2, r3] => (match G1 r1 ρ M1 with
    | some (ρ1, M2) => (match G2 r2 ρ1 M2 with
      | some (ρ2, M3) => (match G3 r3 ρ2 M3 with
        | some (ρ3, M4) => some (.nx ρ3, M4)
        | none => none)
      | none => none)
    | none => none)
  | _ => none
theorem ds_par2 {G1 G2 : DenG} {i j : Nat} {px py pt : Pos} {kt k2 : Nat} {pt2 : Pos} (g1 : GN X W i G1) (g2 : GN X W j G2) (hc : X.calm = true) (hN : X.N.Nodup) (hi : X.N[i]? = some x) (hj : X.N[j]? = some y) (hij : i ≠ j)
    (hx : X.env.scope.names.lookup x = some .local) (hy : X.env.scope.names.lookup y = some .local) (ha : DA X W [a, b] A)
    (hw : swappedStores [.Tuple [.Name x px, .Name y py] kt pt] (.Tuple [a, b] k2 pt2) X.env = pure (some [x, y]))
    (hs : swapsWithSole [.Tuple [.Name x px, .Name y py] kt pt] (.Tuple [a, b] k2 pt2) pos.line X.env = pure false := by rfl) :
    DS X W (.Assign [.Tuple [.Name x px, .Name y py] kt pt] (.Tuple [a, b] k2 pt2) pos) (sPar2 G1 G2 A) := (ps_par hc hN hi hj hij hx hy ha hw hs).mono fun Dn σ H h => by
  obtain ⟨w, ρ, M, m, er, p⟩ := h
  refine ⟨w, ρ, M, m, er, (p.bindF er).imp fun w1 H1 M1 rs _ _ z => ?_⟩
  obtain ⟨e1, m1, p1⟩ := z
  intro vs fp q hf
  replace p1 := p1 fp hf
  split at p1
  · rename_i r1 r2
    obtain ⟨v, v', f, f', hv, q1, q2, hfp, dj⟩ := q.two
    subst hv hfp
    refine ⟨v, v', rfl, ?_⟩
    refine g1.rd v σ H1 (fun σ1 H2 => Dn.nx (σ1.set j (some v')) H2) ⟨w1, ρ, M1, r1, f, m1, er.stay e1, q1, ?_⟩
    cases z1 : G1 r1 ρ M1 with
    | none => rw [z1] at p1; exact p1
    | some s =>
      obtain ⟨ρ1, M2⟩ := s
      rw [z1] at p1
      intro w2 H2 σ2 e2 m2 er2
      refine g2.rd v' σ2 H2 Dn.nx ⟨w2, ρ1, M2, r2, f', m2, er2, q2.stay e2 fun a ha hb => dj a hb ha, ?_⟩
      dsimp only at p1
      cases z2 : G2 r2 ρ1 M2 with
      | none => rw [z2] at p1; exact p1
      | some s =>
        obtain ⟨ρ2, M3⟩ := s
        rw [z2] at p1
        exact fun w3 H3 σ3 e3 m3 er3 => p1 w3 H3 σ3 ((e2.mono fun a ha => List.mem_append_left _ ha).trans e3 fun a ha => .inr (.inr (List.mem_append_right _ ha))) m3 er3
  · exact p1.elim
end
end DL

/-! DL15: short forms for a program's text; calls with keywords; the law's end -/
namespace DL
open PySem L2 PySem.Spec PyProof.Rows
abbrev subR : R → R → Mst → Out R := sc2 (iOp (fun _ _ => true) (· - ·))
abbrev divR : R → R → Mst → Out R := sc2 (iOp divC (· / ·))
abbrev modR : R → R → Mst → Out R := sc2 (iOp modC (· % ·))
abbrev powR : R → R → Mst → Out R := sc2 (iOp powC fun i j => i ^ j.toNat)
abbrev ltR : R → R → Mst → Out R := sc2 (iRel fun i j => decide (i < j))
abbrev leR : R → R → Mst → Out R := sc2 (iRel fun i j => decide (i ≤ j))
abbrev gtR : R → R → Mst → Out R := sc2 (iRel fun i j => decide (j < i))
abbrev geR : R → R → Mst → Out R := sc2 (iRel fun i j => decide (j ≤ i))
theorem units65 {k : Nat} {A : Around} (r : Room k A) : A.units + 65 < cLine := by have := r.un; omega
section
variable {X : Cx} {W : WX} {σ : L2.St} {fs gs : List Addr} {w w2 : Wd} {H H2 : Hp} {M M2 : Mst} {Dn : Ends}
variable {e o a b c : Expr} {es : List Expr} {F Fa Fb Fc Fo Fi Fe : Den} {A A1 A2 : DenA} {pos p apos cpos p2 : Pos} {x y z m : Str}
/-! ### names of the module -/
theorem de_gint {i : Int} (h : ∃ t, X.mg x = some (.int i t)) (hg : Gl X x) (hd : (x == ("__debug__" : Str)) = false := by decide) : DE X W (.Name x pos) (eC (.int i)) :=
  let ⟨t, h⟩ := h; de_const (v := .int i) (pe_glob hg h ⟨t, rfl⟩ hd) fun _ => .int _
theorem de_gstr {i : Str} (h : ∃ t, X.mg x = some (.str i t)) (hg : Gl X x) (hd : (x == ("__debug__" : Str)) = false := by decide) : DE X W (.Name x pos) (eC (.str i)) :=
  let ⟨t, h⟩ := h; de_const (v := .str i) (pe_glob hg h ⟨t, rfl⟩ hd) fun _ => .str _
theorem de_ty {y : String} (h : X.mg x = none) (hg : Gl X x) (hv : bootBuiltins x = some (.type y)) (hn : x ≠ "__name__" := by decide) (hd : (x == ("__debug__" : Str)) = false := by decide) : DE X W (.Name x pos) (eC (.ty y)) := de_const (v := .ty y) (pe_bltn hg h hv rfl hn hd) fun _ => .ty _
/-- a written tuple of texts -/
def TupS (K : PySem.W.Frag) (a : Addr) (xs : List Str) : Prop := ∃ (o : Obj) (its : Array Value) (n : Nat), K.lookup a = some o ∧ o.cls = .type "tuple" ∧ o.data = .seq its n ∧ its.size ≤ sizeLine ∧ Vals (xs.map V.str) its.toList
theorem de_gtup {xs : List Str} (h : ∃ a, X.mg x = some (.ref a) ∧ TupS X.K a xs) (hg : Gl X x) (hd : (x == ("__debug__" : Str)) = false := by decide) : DE X W (.Name x pos) (eC (.tup (xs.map D.str))) :=
  let ⟨a, h, t⟩ := h; de_const (v := .ref a) (pe_glob hg h rfl hd) fun F => .tup (xs := xs.map V.str) (.inr t) (strs_dp xs)
/-! ### targets -/
theorem pgn (i : Nat) (hN : X.N.Nodup) (hi : X.N[i]? = some x := by rfl) (hx : Loc X.env.scope x := by first | exact Or.inl rfl | exact Or.inr rfl) (hf : X.fn x = true ∨ X.env.scope.names.lookup x = some .local := by first | exact .inl rfl | exact .inr rfl) : PG X (.Name x pos) (gName i) := pg_name hN hi hx hf
theorem dtg_one (i : Nat) (hN : X.N.Nodup) (hi : X.N[i]? = some x := by rfl) (hx : Loc X.env.scope x := by first | exact Or.inl rfl | exact Or.inr rfl) (hf : X.fn x = true ∨ X.env.scope.names.lookup x = some .local := by first | exact .inl rfl | exact .inr rfl) : DTg X (.Name x pos) (.one i) := pg_name hN hi hx hf
def PGN (X : Cx) (es : List Expr) (is : List Nat) : Prop := PGs X es (gNames is)
theorem pgn_nil : PGN X [] [] := pgs_nil
theorem pgn_cons {is : List Nat} (i : Nat) (hN : X.N.Nodup) (h : PGN X es is) (hi : X.N[i]? = some x := by rfl) (hx : Loc X.env.scope x := by first | exact Or.inl rfl | exact Or.inr rfl) (hf : X.fn x = true ∨ X.env.scope.names.lookup x = some .local := by first | exact .inl rfl | exact .inr rfl)
    (hs : (assignEach (.Name x pos :: es) X.env).map (·.2) = assign (.Name x pos) X.env :: (assignEach es X.env).map (·.2) := by rfl) : PGN X (.Name x pos :: es) (i :: is) := pgs_cons (pg_name hN hi hx hf) h hs
theorem dtg_many {is : List Nat} {k : Nat} (hc : X.calm = true) (h : PGN X es is) (hn : (assignEach es X.env).length = is.length := by rfl) (hst : (assignEach es X.env).findIdx? (·.1) = none := by rfl) : DTg X (.Tuple es k pos) (.many is) := pg_tup hc h hn hst
theorem dgn (i : Nat) (hN : X.N.Nodup) (hi : X.N[i]? = some x := by rfl) (hx : Loc X.env.scope x := by first | exact Or.inl rfl | exact Or.inr rfl) (hf : X.fn x = true ∨ X.env.scope.names.lookup x = some .local := by first | exact .inl rfl | exact .inr rfl) : DG X W (.Name x pos) (gSet i) := dg_name i (pg_name hN hi hx hf)
theorem dgnM (i : Nat) (hN : X.N.Nodup) (hi : X.N[i]? = some x := by rfl) (hx : Loc X.env.scope x := by first | exact Or.inl rfl | exact Or.inr rfl) (hf : X.fn x = true ∨ X.env.scope.names.lookup x = some .local := by first | exact .inl rfl | exact .inr rfl) : DG X W (.Name x pos) (gSetM i) := dg_nameM i (pg_name hN hi hx hf)
theorem dset (i : Nat) {pos' : Pos} (hN : X.N.Nodup) (he : DE X W e Fe) (hi : X.N[i]? = some x := by rfl) (hx : Loc X.env.scope x := by first | exact Or.inl rfl | exact Or.inr rfl) (hs : swapsWith e (some (.Name x pos')) pos.line X.env = pure false := by rfl) (hf : X.fn x = true ∨ X.env.scope.names.lookup x = some .local := by first | exact .inl rfl | exact .inr rfl) :
    DS X W (.Assign [.Name x pos'] e pos) (sAsg Fe (gSet i)) := ds_set hN hi hx he hs hf
theorem dsetM (i : Nat) {pos' : Pos} (hN : X.N.Nodup) (he : DE X W e Fe) (hi : X.N[i]? = some x := by rfl) (hx : Loc X.env.scope x := by first | exact Or.inl rfl | exact Or.inr rfl) (hs : swapsWith e (some (.Name x pos')) pos.line X.env = pure false := by rfl) (hf : X.fn x = true ∨ X.env.scope.names.lookup x = some .local := by first | exact .inl rfl | exact .inr rfl) :
    DS X W (.Assign [.Name x pos'] e pos) (sAsg Fe (gSetM i)) := ds_setM hN hi hx he hs hf

/-! ### keywords -/
def DK (X : Cx) (W : WX) (kws : List Keyword) (A : DenA) : Prop := PK X kws (rdA X W A)
theorem _root_.L2.PK.mono {kws : List Keyword} {t t' : TA} (h : PK X kws t) (k : ∀ σ H Q, t' σ H Q → t σ H Q) : PK X kws t' := ⟨fun pos pins s σ H Q I q => h.run pos pins s σ H Q I (k _ _ _ q)⟩
theorem dk_nil : DK X W [] eNil := pk_nil.mono fun σ H Q h => by
  obtain ⟨w, ρ, M, m, er, p⟩ := h
  exact p.now m [] [] .nil fun _ z => nomatch z
theorem dk_cons {kws : List Keyword} {nm : Option Str} {kpos : Pos} (ha : DE X W e Fe) (hr : DK X W kws A) : DK X W (⟨nm, e, kpos⟩ :: kws) (eCons Fe A) := (pk_cons ha hr).mono fun _ _ _ h => rd_cons h
/-- all arguments, as the parameters stand: the i-th parameter is the (π i)-th written argument -/
def permL {α : Type} (π : List Nat) (d : α) (xs : List α) : List α := π.map fun i => xs.getD i d
/-- f called with n positional arguments and the keywords ks -/
def FOkK (P : Program) (w : World) (K : PySem.W.Frag) (mg : Mg) (base : Heap) (k : Nat) (f : Addr) (ks : List Str) (π : List Nat) (G : Fn) : Prop :=
  ∃ fd ps, ps.length = π.length ∧ FnOk P w K mg base (L2.CX P w) k f fd ps (spD K mg ps.length G) ∧ ∀ (s : Shared) (us ws : List Value), us.length + ks.length = π.length → ws.length = ks.length → BindsTo s fd ⟨us, ks.zip ws⟩ (ps.zip (permL π .none (us ++ ws)))
theorem perm_vals {xs : List V} {us : List Value} (r : Vals xs us) (π : List Nat) : Vals (permL π .non xs) (permL π .none us) := by
  unfold permL
  induction π with
  | nil => exact .nil
  | cons i r' ih =>
    rw [List.map_cons, List.map_cons]
    refine .cons ?_ ih
    rw [List.getD_eq_getElem?_getD, List.getD_eq_getElem?_getD]
    cases z : xs[i]? with
    | none => rw [r.none_of z]; rfl
    | some v => obtain ⟨u, h1, h2⟩ := r.get z; rw [h1]; exact h2
theorem perm_sv {K : PySem.W.Frag} {mg : Mg} {vs : List V} {xs : List SV} (r : VRL K mg w M vs xs) (π : List Nat) : VRL K mg w M (permL π .non vs) (permL π (.d .non) xs) := by
  unfold permL
  induction π with
  | nil => exact .nil
  | cons i r' ih =>
    rw [List.map_cons, List.map_cons]
    refine .cons ?_ ih
    rw [List.getD_eq_getElem?_getD, List.getD_eq_getElem?_getD]
    cases z : xs[i]? with
    | none =>
      have : vs[i]? = none := by
        rw [List.getElem?_eq_none_iff] at z ⊢
        rw [r.length]; exact z
      rw [this]; exact Dp.non
    | some x => obtain ⟨u, h1, h2⟩ := r.get z; rw [h1]; exact h2
theorem run_K {k : Nat} {f : Addr} {ks : List Str} {π : List Nat} {G : Fn} (F : FOkK X.prog X.w X.K X.mg X.base k f ks π G) (hr : Room k X.A) (tk : Takes X W) {pins : List (Addr × Obj)} {s : Shared} {Q : VK} {us ws : List Value} {vs zs : List V}
    (I : Inv X pins σ H s) (r : Vals vs us) (rz : Vals zs ws) (h1 : us.length + ks.length = π.length) (h2 : ws.length = ks.length) (h : spD X.K X.mg π.length G (permL π .non (vs ++ zs)) H Q (WE W σ)) : wpAny (model X.prog X.w) X.A (call (.ref f) us (ks.zip ws)) (EP X pins σ Q) X.xe s := by
  obtain ⟨fd, ps, hps, F, hb⟩ := F
  rw [← hps] at h
  refine wpAny_call (codeAny_mono (F.run X.A X.stack s H ⟨us, ks.zip ws⟩ (permL π .none (us ++ ws)) (permL π .non (vs ++ zs)) Q (WE W σ) hr I.env0 (hb s us ws h1 h2) (perm_vals (r.append rz) π) h) fun r s' hq => ?_)
  cases r with
  | error e => exact (passAt tk σ) pins H s e s' I hq
  | ok fl =>
    cases fl with
    | ret u => exact I.after hq
    | next => exact False.elim hq
    | brk => exact False.elim hq
    | cont => exact False.elim hq
def eCallK (G : Fn) (π : List Nat) (A : DenA) : Den := fun ρ M => (A ρ M).bind fun rs M1 => if rs.length = π.length then G (permL π (.d .non) (rs.map svR)) M1 else .bad
/-- f(k = e, ..) -/
theorem de_callK0 {kws : List Keyword} {k : Nat} {f : Addr} {ks : List Str} {π : List Nat} {G : Fn} (F : FOkK X.prog X.w X.K X.mg X.base k f ks π G) (hr : Room k X.A) (tk : Takes X W) (hg : Gl X x) (hm : X.mg x = some (.ref f)) (hk : PySem.W.keepIn X.K (.ref f) = true) (hkw : DK X W kws A)
    (hl : ks.length = π.length := by rfl) (hall : (backToKw pos (keywordEach kws X.env)).all (·.1.isSome) = true := by rfl) (hks : (backToKw pos (keywordEach kws X.env)).filterMap (·.1) = ks := by rfl)
    (hdb : (x == ("__debug__" : Str)) = false := by decide) (hpl : ((backTo pos (starEach [] X.env)).any (·.1) || (backToKw pos (keywordEach kws X.env)).any (·.1.isNone)) = false := by rfl) :
    DE X W (.Call (.Name x p) [] kws pos) (eCallK G π A) := by
  refine ⟨fun pins s σ H Q I h => ?_⟩
  obtain ⟨w, ρ, M, m, er, q⟩ := h
  refine wpAny_Call_Name_kw (ld_glob I hg hm ?_ hdb)
  refine PySem.W.callWith_KW0 (h₀ := X.base) I.ok.mod.kin hk hall ?_ hpl
  refine thn (hkw.run pos pins s σ H (fun vs H1 => vs.length = π.length ∧ spD X.K X.mg π.length G (permL π .non vs) H1 Q (WE W σ)) I ⟨w, ρ, M, m, er, q.bindF.imp fun w1 H1 M1 rs _ _ z => ?_⟩) fun ws s2 hh => ?_
  · obtain ⟨e1, m1, p1⟩ := z
    intro vs fp q hf
    replace p1 := p1 fp hf
    split at p1
    · rename_i hn
      obtain ⟨w2, e2, m2, v2⟩ := settleL m1 q
      exact ⟨by rw [q.length]; exact hn, w2, _, M1, m2, perm_sv v2 π, by simp [permL], PostC.of p1 e1 hf e2⟩
    · exact p1.elim
  · obtain ⟨zs, H2, I2, rz, hn, q2⟩ := hh
    refine ⟨I2.kIn, ?_⟩
    rw [hks]
    exact run_K F hr tk I2 .nil rz (by simpa using hl) (by rw [← rz.length]; omega) q2

theorem FOkK.of {P : Program} {w : World} {K : PySem.W.Frag} {mg : Mg} {base : Heap} {k : Nat} {f : Addr} {fd : FuncData} {ps ks : List Str} {π : List Nat} {G : Fn} (F : FnOk P w K mg base (L2.CX P w) k f fd ps (spD K mg ps.length G)) (hp : ps.length = π.length)
    (hb : ∀ (s : Shared) (us ws : List Value), us.length + ks.length = π.length → ws.length = ks.length → BindsTo s fd ⟨us, ks.zip ws⟩ (ps.zip (permL π .none (us ++ ws)))) : FOkK P w K mg base k f ks π G := ⟨fd, ps, hp, F, hb⟩
theorem fn_okE {P : Program} {w : World} {K : PySem.W.Frag} {mg : Mg} {base : Heap} {x qual : Str} {st : Stmt} {f : Addr} {fd : FuncData} {N ps : List Str} {k : Nat} {G : Fn} {b' : DenS} (F : Fun K x qual st f fd) (S : FnScope N ps (defScope st))
    (h : ∀ (cdv : Value) (A : Around) (outer : List Env) (s : Shared) (H : Hp) (E : XK), Room k (A.deeper (envOfC qual (defScope st) s.heap.objs.size f cdv)) → Takes (cxOf (L2.CX P w) P w K mg base N qual (defScope st) f cdv A outer s H E) (fun cls d _ H => E cls d H) →
      PassesOwn (model P w) (A.deeper (envOfC qual (defScope st) s.heap.objs.size f cdv)) (cxOf (L2.CX P w) P w K mg base N qual (defScope st) f cdv A outer s H E).env (cxOf (L2.CX P w) P w K mg base N qual (defScope st) f cdv A outer s H E).xe →
      DB (cxOf (L2.CX P w) P w K mg base N qual (defScope st) f cdv A outer s H E) (fun cls d _ H => E cls d H) (defBody st) b') (e : G = body N.length b') : FnOk P w K mg base (L2.CX P w) (k + 1) f fd ps (spD K mg ps.length G) := by
  subst e
  exact fn_okF F S h
/-- depth 0 of a recursion -/
theorem bad_okF {P : Program} {w : World} {K : PySem.W.Frag} {mg : Mg} {base : Heap} {x qual : Str} {st : Stmt} {f : Addr} {fd : FuncData} {N ps : List Str} {k : Nat} (F : Fun K x qual st f fd) (S : FnScope N ps (defScope st)) : FnOk P w K mg base (L2.CX P w) (k + 1) f fd ps (spD K mg ps.length fun _ _ => .bad) :=
  (fn_okF F S fun _ _ _ _ _ _ _ _ _ => db_never).imp fun vs H Q E h => by
    obtain ⟨_, _, _, _, _, _, z⟩ := h
    exact z.elim
/-! ### the law's end -/
theorem ints_dpK {K : PySem.W.Frag} {mg : Mg} {F : Hp} : ∀ is : List Int, DpL K mg F (is.map V.int) (is.map D.int)
  | [] => .nil
  | i :: is => .cons (Dp.int i) (ints_dpK is)
def spLaw (K : PySem.W.Frag) : Sp := fun vs H Q _ => ∃ (a : Addr) (ns : List Int), vs = [.ref a] ∧ SqL K H a (ns.map V.int) ∧ ns.length ≤ 63 ∧ ∀ H', Q (.bl true) H'
theorem FOk.law {P : Program} {w : World} {K : PySem.W.Frag} {mg : Mg} {base : Heap} {k : Nat} {f : Addr} {x : Str} {G : Fn} (F : FOk P w K mg base k f [x] G)
    (h : ∀ ns : List Int, ns.length ≤ 63 → ∃ M, G [.d (.ro (ns.map D.int))] [] = .ok (.t (.d (.bl true))) M) : ∃ fd, FnOk P w K mg base (L2.CX P w) k f fd [x] (spLaw K) ∧ Binds K fd [x] [] := by
  obtain ⟨fd, F, hb⟩ := F
  refine ⟨fd, F.imp fun vs H Q E ⟨a, ns, hv, hs, hl, hq⟩ => ?_, hb⟩
  subst hv
  obtain ⟨M', hM⟩ := h ns hl
  refine ⟨⟨H, fun _ => 0, fun _ => []⟩, [.d (.ro (ns.map D.int))], [], ⟨Same.refl _, (fun k t e => by simp at e), fun j k a hj => by simp at hj⟩, .cons (Dp.ro hs (ints_dpK ns)) .nil, rfl, ?_⟩
  rw [hM]
  intro w' H' v fp e m q _
  rw [rr_bl q]
  exact hq H'
theorem fn_law {P : Program} {w : World} {K : PySem.W.Frag} {mg : Mg} {base : Heap} {k : Nat} {f : Addr} {fd : FuncData} {x : Str} {G : Fn} (F : FnOk P w K mg base (L2.CX P w) k f fd [x] (spD K mg ([x] : List Str).length G))
    (h : ∀ ns : List Int, ns.length ≤ 63 → ∃ M, G [.d (.ro (ns.map D.int))] [] = .ok (.t (.d (.bl true))) M) : FnOk P w K mg base (L2.CX P w) k f fd [x] (spLaw K) := F.imp fun vs H Q E ⟨a, ns, hv, hs, hl, hq⟩ => by
  subst hv
  obtain ⟨M', hM⟩ := h ns hl
  refine ⟨⟨H, fun _ => 0, fun _ => []⟩, [.d (.ro (ns.map D.int))], [], ⟨Same.refl _, (fun k t e => by simp at e), fun j k a hj => by simp at hj⟩, .cons (Dp.ro hs (ints_dpK ns)) .nil, rfl, ?_⟩
  rw [hM]
  intro w' H' v fp e m q _
  rw [rr_bl q]
  exact hq H'
theorem cx_no {P : Program} {w : World} (H : Hp) (s : Shared) (e : Value) (s' : Shared) (h : L2.CX P w [] H s (fun _ _ _ => False) e s') : False := by
  obtain ⟨_, _, _, _, _, _, _, _, _, _, _, _, z⟩ := h
  exact z
end
end DL

/-! DL16: instances: their fields, methods, properties, classes called -/
namespace DL
open PySem L2 PySem.Spec PyProof.Rows
section
variable {K : PySem.W.Frag} {mg : Mg} {w w' : Wd} {F H H' : Hp} {M M' : Mst} {fs fp : List Addr}
theorem TRF.get : ∀ {vs : List (Str × V)} {ts : List (Str × T)} {fp : List Addr} {f : Str} {t : T}, TRF K mg F H vs ts fp → ts.lookup f = some t → ∃ v f', vs.lookup f = some v ∧ TR K mg F H v t f' ∧ ∀ a ∈ f', a ∈ fp
  | _, _, _, _, _, .nil, e => by simp at e
  | _, _, _, f, t, .cons (f := g) (f1 := f1) h r, e => by
    simp only [List.lookup_cons] at e ⊢
    split at e
    · cases e; exact ⟨_, f1, rfl, h, fun a ha => List.mem_append_left _ ha⟩
    · obtain ⟨v, f', h1, h2, h3⟩ := TRF.get r e
      exact ⟨v, f', h1, h2, fun a ha => List.mem_append_right _ (h3 a ha)⟩
theorem TRF.keys : ∀ {vs : List (Str × V)} {ts : List (Str × T)} {fp : List Addr}, TRF K mg F H vs ts fp → vs.map (·.1) = ts.map (·.1)
  | _, _, _, .nil => rfl
  | _, _, _, .cons h r => by simp [TRF.keys r]
theorem DpF.keys : ∀ {vs : List (Str × V)} {ts : List (Str × D)}, DpF K mg F vs ts → vs.map (·.1) = ts.map (·.1)
  | _, _, .nil => rfl
  | _, _, .cons h r => by simp [DpF.keys r]
theorem no_key {f : Str} : ∀ {fs : List (Str × V)}, f ∉ fs.map (·.1) → fs.lookup f = none
  | [], _ => rfl
  | (g, x) :: r, h => by
    rw [List.lookup_cons, show (f == g) = false from beq_eq_false_iff_ne.mpr fun z => h (by rw [z]; simp)]
    exact no_key fun z => h (by simp at z ⊢; exact .inr z)
/-- the class of an instance and the names of its fields -/
def insT : T → Option (Str × List Str)
  | .ins c fs => some (c, fs.map (·.1))
  | .d (.ins c fs) => some (c, fs.map (·.1))
  | _ => none
def insOf (M : Mst) : R → Option (Str × List Str)
  | .h k => insT (M.getD k (.d .non))
  | .t t => insT t
theorem tr_ins {v : V} {t : T} {c : Str} {ns : List Str} (h : TR K mg F H v t fp) (s : Same F H) (e : insT t = some (c, ns)) : ∃ a C dx fs, v = .ref a ∧ H a = some (.ins C dx fs) ∧ mg c = some (.ref C) ∧ fs.map (·.1) = ns := by
  cases h with
  | d h =>
    cases h with
    | ins h1 h2 h3 => cases e; exact ⟨_, _, _, _, rfl, s _ _ h1, h2, h3.keys⟩
    | non => cases e
    | bl _ => cases e
    | int _ => cases e
    | str _ => cases e
    | lst _ _ => cases e
    | ro _ _ => cases e
    | tupP _ _ => cases e
    | glo _ => cases e
    | ty _ => cases e
    | dic _ _ => cases e
    | junk _ => cases e
    | exn _ _ _ _ => cases e
  | ins h1 h2 h3 h4 => cases e; exact ⟨_, _, _, _, rfl, h1, h3, h4.keys⟩
  | lst _ _ _ => cases e
  | tup _ _ _ => cases e
  | dic _ _ _ => cases e
  | tbl => cases e
theorem ins_at {v : V} {r : R} {c : Str} {ns : List Str} (m : MR K mg w H M) (h : RR K mg w H M v r fp) (e : insOf M r = some (c, ns)) : ∃ a C dx fs, v = .ref a ∧ H a = some (.ins C dx fs) ∧ mg c = some (.ref C) ∧ fs.map (·.1) = ns := by
  cases r with
  | h k =>
    obtain ⟨hk, rfl, rfl⟩ := h
    obtain ⟨x, hx⟩ : ∃ x, M[k]? = some x := ⟨M[k], List.getElem?_eq_getElem hk⟩
    obtain ⟨q, _⟩ := m.obj k x hx
    refine tr_ins q m.sub ?_
    have e : insT (M.getD k (.d .non)) = some (c, ns) := e
    rw [getD_of hx] at e
    exact e
  | t x => exact tr_ins h.1 m.sub e
/-! ### fields -/
structure FldOk (K : PySem.W.Frag) (mg : Mg) (cs : List Str) (f : Str) : Prop where
  ok : ∀ c ∈ cs, ∀ C, mg c = some (.ref C) → Cls K C ∧ NoAttr K C f
def fieldD (cs : List Str) (f : Str) : D → Option D
  | .ins c fs => if cs.contains c = true then fs.lookup f else none
  | _ => none
def fldR (cs : List Str) (f : Str) : R → Mst → Out R
  | .h k, M => (match M.getD k (.d .non) with
    | .ins c fs => if cs.contains c = true then (match fs.lookup f with
      | some (.d x) => .ok (.t (.d x)) M
      | _ => .bad) else .bad
    | .d x => (match fieldD cs f x with
      | some y => .ok (.t (.d y)) M
      | none => .bad)
    | _ => .bad)
  | .t x, M => (match fieldD cs f (frz x) with
    | some y => .ok (.t (.d y)) M
    | none => .bad)
def eFld (cs : List Str) (f : Str) (F : Den) : Den := eSeq1 (fldR cs f) F
end
section
variable {X : Cx} {W : WX} {σ : L2.St} {fs gs : List Addr} {w w2 : Wd} {H H2 : Hp} {M M2 : Mst}
variable {e o : Expr} {es : List Expr} {Fe Fo Fv : Den} {A : DenA} {pos p apos : Pos} {x m f : Str} {k : Nat} {ps : List Str} {G : Fn} {cs : List Str} {c : Str}
theorem rd_fld (ok : FldOk X.K X.mg cs f) {Q : VK} (h : rdE X W (eFld cs f Fo) σ H Q) : tFld X.K (rdE X W Fo) f σ H Q := by
  obtain ⟨w, ρ, M, m, er, p⟩ := h
  refine ⟨w, ρ, M, m, er, p.bindF.imp fun w1 H1 M1 r _ _ z => ?_⟩
  obtain ⟨e1, m1, p1⟩ := z
  intro v fp q hf
  replace p1 := p1 fp hf
  have atD : ∀ {F : Hp} {v : V} {d y : D}, Dp X.K X.mg F v d → Same F H1 → fieldD cs f d = some y → ∃ a C dx fs u, v = .ref a ∧ H1 a = some (.ins C dx fs) ∧ Cls X.K C ∧ NoAttr X.K C f ∧ fs.lookup f = some u ∧ Dp X.K X.mg F u y := by
    intro F v d y hd s e
    cases hd with
    | ins h1 h2 h3 =>
      have e : (if cs.contains _ = true then List.lookup f _ else none) = some y := e
      split at e
      · rename_i hc
        obtain ⟨u, g1, g2⟩ := h3.get e
        obtain ⟨k1, k2⟩ := ok.ok _ (List.contains_iff_mem.mp hc) _ h2
        exact ⟨_, _, _, _, u, rfl, s _ _ h1, k1, k2, g1, g2⟩
      · cases e
    | non => cases e
    | bl _ => cases e
    | int _ => cases e
    | str _ => cases e
    | lst _ _ => cases e
    | ro _ _ => cases e
    | tupP _ _ => cases e
    | glo _ => cases e
    | ty _ => cases e
    | dic _ _ => cases e
    | junk _ => cases e
    | exn _ _ _ _ => cases e
  cases r with
  | t x =>
    have p1 : Post X W σ fp w1 H1 M1 (match fieldD cs f (frz x) with
      | some y => .ok (R.t (.d y)) M1
      | none => .bad) (CE X [] w H M Q) := p1
    obtain ⟨w2, e2, m2, d2, _⟩ := settle m1 q
    split at p1
    · rename_i y hy
      obtain ⟨a, C, dx, fs, u, h1, h2, h3, h4, h5, h6⟩ := atD d2 m2.sub hy
      refine ⟨a, C, dx, fs, u, h1, h2, h3, h4, h5, ?_⟩
      exact (p1 w2 H1 e2 m2) u [] (rr_d h6) fun _ z => nomatch z
    · exact p1.elim
  | h k =>
    obtain ⟨hk, rfl, rfl⟩ := q
    obtain ⟨x, hx⟩ : ∃ x, M1[k]? = some x := ⟨M1[k], List.getElem?_eq_getElem hk⟩
    obtain ⟨q, _⟩ := m1.obj k x hx
    have p1 : Post X W σ [] w1 H1 M1 (match M1.getD k (.d .non) with
      | .ins c fs => if cs.contains c = true then (match fs.lookup f with
        | some (.d x) => .ok (R.t (.d x)) M1
        | _ => .bad) else .bad
      | .d x => (match fieldD cs f x with
        | some y => .ok (.t (.d y)) M1
        | none => .bad)
      | _ => .bad) (CE X [] w H M Q) := p1
    rw [getD_of hx] at p1
    split at p1
    · rename_i c' fs'
      split at p1
      · rename_i hc
        split at p1
        · rename_i y hy
          generalize w1.φ k = fk at q
          generalize hv : V.ref (w1.α k) = v at q
          cases q with
          | ins h1 h2 h3 h4 =>
            obtain ⟨u, f', g1, g2, _⟩ := h4.get hy
            obtain ⟨k1, k2⟩ := ok.ok _ (List.contains_iff_mem.mp hc) _ h3
            cases g2 with
            | d g2 => cases hv; exact ⟨_, _, _, _, u, rfl, h1, k1, k2, g1, (p1.now m1) u [] (rr_d g2) fun _ z => nomatch z⟩
        · exact p1.elim
      · exact p1.elim
    · rename_i x'
      split at p1
      · rename_i y hy
        generalize w1.φ k = fk at q
        cases q with
        | d q =>
          obtain ⟨a, C, dx, fs, u, h1, h2, h3, h4, h5, h6⟩ := atD q m1.sub hy
          exact ⟨a, C, dx, fs, u, h1, h2, h3, h4, h5, (p1.now m1) u [] (rr_d h6) fun _ z => nomatch z⟩
      · exact p1.elim
    · exact p1.elim
/-- e.f -/
theorem de_fld (ok : FldOk X.K X.mg cs f) (he : DE X W o Fo) (hb : attributeBase o f X.env (eval o X.env) = eval o X.env := by rfl) : DE X W (.Attribute o f pos) (eFld cs f Fo) :=
  (pe_fld he hb).mono fun _ _ _ h => rd_fld ok h

/-! ### a place written anew -/
theorem put_obj {k : Nat} {q : Addr} {t t' : T} {o' : HO} {f' : List Addr} (m : MR X.K X.mg w H M) (hk : M[k]? = some t) (hin : q ∈ w.φ k) (h' : TR X.K X.mg w.F (upd H q o') (.ref (w.α k)) t' f') (nd : f'.Nodup) (hna : w.F q = none)
    (dj : ∀ a ∈ f', ∀ j, j < M.length → j ≠ k → a ∉ w.φ j) (pm : ∀ a ∈ f', Pm fs w H M a) :
    ∃ w', Ext fs w H M w' (upd H q o') (M.set k t') ∧ MR X.K X.mg w' (upd H q o') (M.set k t') ∧ w'.F = w.F ∧ w'.α = w.α := by
  have hkl : k < M.length := (List.getElem?_eq_some_iff.mp hk).1
  have hne : ∀ j, j < M.length → j ≠ k → q ∉ w.φ j := fun j hj hjk z => hjk (m.dis j k _ hj hkl z hin)
  refine ⟨⟨w.F, w.α, fun j => if j = k then f' else w.φ j⟩, ⟨Same.refl _, by simp, fun _ _ => rfl, fun a o e n => ?_, fun j hj a ha => ?_, fun _ h => .inl h, fun a e => ?_⟩, ⟨fun a o e => ?_, fun j t e => ?_, fun i j a hi hj h1 h2 => ?_⟩, rfl, rfl⟩
  · have ne : a ≠ q := fun z => n (.inr (.inl ⟨k, hkl, by rw [z]; exact hin⟩))
    rw [upd_ne ne]; exact e
  · rw [List.length_set] at hj
    have ha : a ∈ (if j = k then f' else w.φ j) := ha
    split at ha
    · exact pm a ha
    · exact .inr (.inl ⟨j, hj, ha⟩)
  · by_cases z : a = q
    · rw [z, upd_same] at e; cases e
    · rw [upd_ne z] at e; exact e
  · have ne : a ≠ q := fun z => by rw [z, show w.F q = none from hna] at e; cases e
    rw [upd_ne ne]; exact m.sub a o e
  · by_cases hjk : k = j
    · subst hjk
      rw [List.getElem?_set_self hkl] at e
      cases e
      show TR X.K X.mg w.F _ _ _ (if k = k then f' else w.φ k) ∧ (if k = k then f' else w.φ k).Nodup
      rw [if_pos rfl]
      exact ⟨h', nd⟩
    · rw [List.getElem?_set_ne hjk] at e
      obtain ⟨z1, z2⟩ := m.obj j t e
      have hj : j < M.length := (List.getElem?_eq_some_iff.mp e).1
      show TR X.K X.mg w.F _ _ _ (if j = k then f' else w.φ j) ∧ (if j = k then f' else w.φ j).Nodup
      rw [if_neg (Ne.symm hjk)]
      refine ⟨z1.stay (Same.refl _) fun a ha => ⟨(z1.fp a ha).1, fun o ho => ?_⟩, z2⟩
      have ne : a ≠ q := fun z => hne j hj (Ne.symm hjk) (z ▸ ha)
      rw [upd_ne ne]; exact ho
  · rw [List.length_set] at hi hj
    have h1 : a ∈ (if i = k then f' else w.φ i) := h1
    have h2 : a ∈ (if j = k then f' else w.φ j) := h2
    by_cases hi' : i = k
    · rw [if_pos hi'] at h1
      by_cases hj' : j = k
      · rw [hi', hj']
      · rw [if_neg hj'] at h2
        exact absurd h2 (dj a h1 j hj hj')
    · rw [if_neg hi'] at h1
      by_cases hj' : j = k
      · rw [if_pos hj'] at h2
        exact absurd h1 (dj a h2 i hi hi')
      · rw [if_neg hj'] at h2
        exact m.dis i j a hi hj h1 h2
def putT (f : Str) (t : T) : List (Str × T) → List (Str × T)
  | [] => [(f, t)]
  | (g, x) :: r => if g = f then (g, t) :: r else (g, x) :: putT f t r
theorem TRF.put {F : Hp} {v : V} {x : D} (hv : Dp X.K X.mg F v x) : ∀ {vs : List (Str × V)} {ts : List (Str × T)} {fp : List Addr}, TRF X.K X.mg F H vs ts fp → ∃ fp', TRF X.K X.mg F H (putF f v vs) (putT f (.d x) ts) fp' ∧ fp'.Sublist fp
  | _, _, _, .nil => ⟨[] ++ [], .cons (.d hv) .nil, List.Sublist.refl _⟩
  | _, _, _, .cons (f := g) (f1 := f1) (f2 := f2) h r => by
    unfold putF putT
    by_cases z : g = f
    · rw [if_pos z, if_pos z]
      exact ⟨[] ++ f2, .cons (.d hv) r, List.sublist_append_right f1 f2⟩
    · rw [if_neg z, if_neg z]
      obtain ⟨fp', h1, h2⟩ := TRF.put hv r
      exact ⟨f1 ++ fp', .cons h h1, List.Sublist.append_left h2 f1⟩
theorem TRF.length {F : Hp} : ∀ {vs : List (Str × V)} {ts : List (Str × T)} {fp : List Addr}, TRF X.K X.mg F H vs ts fp → vs.length = ts.length
  | _, _, _, .nil => rfl
  | _, _, _, .cons _ r => by simp [TRF.length r]
/-- o.f = v: the value becomes data -/
def sFldD (cs : List Str) (f : Str) (Fv Fo : Den) : DenS := fun ρ M => bindS (Fv ρ M) ρ fun r M1 => bindS (Fo ρ (frzM M1 r)) ρ fun ro M2 => match ro with
  | .h k => (match M2[k]? with
    | some (.ins c fs) => if cs.contains c = true ∧ fs.length < 1000 then some (.nx ρ, M2.set k (.ins c (putT f (.d (frzR M1 r)) fs))) else none
    | _ => none)
  | _ => none
theorem rd_sfld (ok : FldOk X.K X.mg cs f) {Dn : Ends} (h : rdS X W (sFldD cs f Fv Fo) Dn σ H) : sFld X.K (rdE X W Fo) (rdE X W Fv) f Dn σ H := by
  obtain ⟨w, ρ, M, m, er, p⟩ := h
  refine ⟨w, ρ, M, m, er, (PostS.bindF p er).imp fun w1 H1 M1 r _ _ z => ?_⟩
  obtain ⟨e1, m1, p1⟩ := z
  have er1 := er.stay e1
  intro v fp q hf
  replace p1 := p1 fp hf
  obtain ⟨w2, e2, m2, d2, _⟩ := settle m1 q
  replace p1 := p1.from e2 (gs := []) fun _ z => nomatch z
  have er2 := er1.stay e2
  refine ⟨w2, ρ, _, m2, er2, (PostS.bindF p1 er2).imp fun w3 H3 M3 ro _ _ z => ?_⟩
  obtain ⟨e3, m3, p3⟩ := z
  have er3 := er2.stay e3
  intro v3 f3 q3 hf3
  replace p3 := p3 [] fun _ z => nomatch z
  split at p3
  · rename_i k
    obtain ⟨hk, rfl, _⟩ := q3
    split at p3
    · rename_i c fs hx
      split at p3
      · rename_i hc
        obtain ⟨q4, nd4⟩ := m3.obj k _ hx
        generalize hfk : w3.φ k = fk at q4
        generalize hv : V.ref (w3.α k) = va at q4
        cases q4 with
        | @ins a C dx vs _ _ fp4 h1 h2 h3 h4 =>
          cases hv
          obtain ⟨k1, k2⟩ := ok.ok _ (List.contains_iff_mem.mp hc.1) _ h3
          obtain ⟨fp', h5, h6⟩ := TRF.put (f := f) (Dp.mono e3.F d2) h4
          have hsub : ∀ a ∈ w3.α k :: fp', a ∈ w3.φ k := fun a ha => by
            rw [hfk]
            rcases List.mem_cons.mp ha with rfl | ha
            · exact List.mem_cons_self
            · exact List.mem_cons_of_mem _ (h6.subset ha)
          rw [hfk] at nd4
          obtain ⟨n1, n2⟩ := List.nodup_cons.mp nd4
          obtain ⟨w4, e4, m4, _, _⟩ := put_obj (fs := []) (o' := .ins C dx (putF f v vs)) (f' := w3.α k :: fp') (t' := .ins c (putT f (.d (frzR M1 r)) fs)) m3 hx (by rw [hfk]; exact List.mem_cons_self)
            (.ins upd_same h2 h3 (h5.stay (Same.refl _) fun a ha => ⟨(h5.fp a ha).1, fun o ho => by rw [upd_ne (show a ≠ w3.α k from fun z => n1 (z ▸ h6.subset ha))]; exact ho⟩))
            (List.nodup_cons.mpr ⟨fun z => n1 (h6.subset z), n2.sublist h6⟩) h2
            (fun a ha j hj hjk z => hjk (m3.dis j k a hj hk z (hsub a ha))) (fun a ha => .inr (.inl ⟨k, hk, hsub a ha⟩))
          exact ⟨_, C, dx, vs, rfl, h1, k1, k2, by rw [h4.length]; exact hc.2, p3 w4 _ σ e4 m4 (er3.stay e4)⟩
      · exact p3.elim
    · exact p3.elim
  · exact p3.elim
theorem ds_fld {value : Expr} {pos' : Pos} (ok : FldOk X.K X.mg cs f) (hv : DE X W value Fv) (ho : DE X W o Fo) (hs : swapsWith value (some (.Attribute o f pos')) pos.line X.env = pure false := by rfl) :
    DS X W (.Assign [.Attribute o f pos'] value pos) (sFldD cs f Fv Fo) := (ps_fld ho hv hs).mono fun _ _ _ h => rd_sfld ok h
end
end DL

/-! DL17: methods, properties, classes called -/
namespace DL
open PySem L2 PySem.Spec PyProof.Rows
/-- the class c has the method m, a def that does as G tells -/
structure MethD (P : Program) (w : World) (K : PySem.W.Frag) (mg : Mg) (base : Heap) (c m : Str) (k : Nat) (ps : List Str) (G : Fn) : Prop where
  ex : ∃ C f, mg c = some (.ref C) ∧ Cls K C ∧ Meth K C m f ∧ FOk P w K mg base k f ps G
structure PropD (P : Program) (w : World) (K : PySem.W.Frag) (mg : Mg) (base : Heap) (c m : Str) (k : Nat) (G : Fn) : Prop where
  ex : ∃ C p g x, mg c = some (.ref C) ∧ Cls K C ∧ PropOf K C m p g ∧ FOk P w K mg base k g [x] G
structure MakeD (P : Program) (w : World) (K : PySem.W.Frag) (mg : Mg) (base : Heap) (c : Str) (k : Nat) (ps : List Str) (G : Fn) : Prop where
  ex : ∃ C f, mg c = some (.ref C) ∧ Mk K C f ∧ FOk P w K mg base k f ps G
def eMeth (c m : Str) (n : Nat) (G : Fn) (Fo : Den) (A : DenA) : Den := fun ρ M => (Fo ρ M).bind fun r M1 => match insOf M1 r with
  | some (c', ns) => if c' = c ∧ m ∉ ns then (A ρ M1).bind fun rs M2 => if (r :: rs).length = n then G ((r :: rs).map svR) M2 else .bad else .bad
  | none => .bad
def eProp (c : Str) (G : Fn) (Fo : Den) : Den := fun ρ M => (Fo ρ M).bind fun r M1 => match insOf M1 r with
  | some (c', _) => if c' = c then noX (G [svR r] M1) else .bad
  | none => .bad
def cutX (n : Nat) : Out R → Out R
  | .exc e M => .exc e (M.take n)
  | o => o
def eMake (c : Str) (n : Nat) (G : Fn) (A : DenA) : Den := fun ρ M => (A ρ M).bind fun rs M1 => if rs.length + 1 = n then (cutX M1.length (G (.h M1.length :: rs.map svR) (M1 ++ [.ins c []]))).bind fun r M2 => match r with
  | .t (.d .non) => .ok (.t (M2.getD M1.length (.d .non))) (M2.take M1.length)
  | _ => .bad
  else .bad
section
variable {X : Cx} {W : WX} {σ : L2.St} {fs gs : List Addr} {w w2 : Wd} {H H2 : Hp} {M M2 : Mst}
variable {e o : Expr} {es : List Expr} {Fe Fo Fv : Den} {A : DenA} {pos p apos : Pos} {x m f : Str} {k : Nat} {ps : List Str} {G : Fn} {cs : List Str} {c : Str}
theorem rd_meth {n : Nat} {C : Addr} (hC : X.mg c = some (.ref C)) {Q : VK} (h : rdE X W (eMeth c m n G Fo A) σ H Q) :
    rdE X W Fo σ H fun x H1 => ∃ a dx fs, x = .ref a ∧ H1 a = some (.ins C dx fs) ∧ fs.lookup m = none ∧ rdA X W A σ H1 fun vs H2 => spD X.K X.mg n G (x :: vs) H2 Q (WE W σ) := by
  obtain ⟨w, ρ, M, wm, er, p⟩ := h
  refine ⟨w, ρ, M, wm, er, p.bindF.imp fun w1 H1 M1 r _ _ z => ?_⟩
  obtain ⟨e1, m1, p1⟩ := z
  intro v fp q hf
  replace p1 := p1 fp hf
  split at p1
  · rename_i c' ns hi
    split at p1
    · rename_i hc
      obtain ⟨rfl, hn⟩ := hc
      obtain ⟨a, C', dx, fs, rfl, ha, hC', hk⟩ := ins_at m1 q hi
      obtain rfl : C = C' := by rw [hC] at hC'; cases hC'; rfl
      refine ⟨a, dx, fs, rfl, ha, no_key (hk ▸ hn), w1, ρ, M1, m1, er.stay e1, (Post.bindF p1).imp fun w2 H2 M2 rs _ _ z => ?_⟩
      obtain ⟨e2, m2, p2⟩ := z
      intro vs f2 q2 hf2
      have dj : ∀ a ∈ fp, a ∉ f2 := q.apart hf2
      have hp : ∀ a ∈ fp ++ f2, Pm fp w1 H1 M1 a := fun a ha => (List.mem_append.mp ha).elim (fun z => .inr (.inr z)) fun z => pm_nil (hf2 a z) _
      have hp' : ∀ a ∈ fp ++ f2, Pm [] w H M a := fun a ha => (List.mem_append.mp ha).elim (hf a) fun z => e1.pm (gs := []) (fun _ z => nomatch z) (hf2 a z)
      replace p2 := p2 _ hp
      split at p2
      · rename_i hl
        have q3 : RRL X.K X.mg w2 H2 M2 (V.ref a :: vs) (r :: rs) (fp ++ f2) := .cons (q.stay e2 fun _ _ z => nomatch z) q2 dj
        obtain ⟨w3, e3, m3, v3⟩ := settleL m2 q3
        exact ⟨w3, _, M2, m3, v3, by rw [q3.length]; exact hl, PostC.of p2 (e1.trans0 e2) hp' e3⟩
      · exact p2.elim
    · exact p1.elim
  · exact p1.elim
/-- o.m(e, ..) -/
theorem de_meth {pl : Sem Bool} (D : MethD X.prog X.w X.K X.mg X.base c m k ps G) (hr : Room k X.A) (tk : Takes X W) (ho : DE X W o Fo) (ha : DA X W (e :: es) A)
    (hst : starEach (e :: es) X.env = (false, eval e X.env) :: starEach es X.env := by rfl) (hpl : (backTo pos (starEach es X.env)).any (·.1) = false := by rfl)
    (ht : eval (.Call (.Attribute o m apos) (e :: es) [] pos) X.env = (do
      let ov ← eval o X.env
      standAt apos.atName
      let (f, first) ← holding [ov] (getMethod ov m pl)
      callWith pos f first (backTo pos (starEach (e :: es) X.env)) (backToKw pos (keywordEach [] X.env))) := by rfl) :
    DE X W (.Call (.Attribute o m apos) (e :: es) [] pos) (eMeth c m ps.length G Fo A) := by
  obtain ⟨C, f, hC, cl, hm, F⟩ := D.ex
  refine ⟨fun pins s σ H Q I h => ?_⟩
  refine PySem.W.methodCall_KW (pl := pl) (thn (ho.run pins s σ H _ I (rd_meth hC h)) fun u s1 ⟨x, H1, I1, rx, a, dx, fs, ex, ea, l, q⟩ => ?_) ht
  subst ex
  obtain rfl : u = Value.ref a := rx
  refine getmeth_ok I1 ea cl hm l ?_
  refine PySem.W.callWith_K (first := [.ref a]) (h₀ := X.base) I.ok.mod.kin hm.kp (thn (ha.run pos pins s1 σ H1 _ I1 q) fun us s2 ⟨vs, H2, I2, r, q2⟩ => ⟨I2.kIn, ?_⟩) hst hpl
  exact F.run hr tk I2 (us := .ref a :: us) (vs := .ref a :: vs) (.cons rfl r) q2
/-- o.m() -/
theorem de_meth0 {pl : Sem Bool} (D : MethD X.prog X.w X.K X.mg X.base c m k ps G) (hr : Room k X.A) (tk : Takes X W) (ho : DE X W o Fo)
    (ht : eval (.Call (.Attribute o m apos) [] [] pos) X.env = (do
      let ov ← eval o X.env
      standAt apos.atName
      let (f, first) ← holding [ov] (getMethod ov m pl)
      callWith pos f first (backTo pos (starEach [] X.env)) (backToKw pos (keywordEach [] X.env))) := by rfl) :
    DE X W (.Call (.Attribute o m apos) [] [] pos) (eMeth c m ps.length G Fo eNil) := by
  obtain ⟨C, f, hC, cl, hm, F⟩ := D.ex
  refine ⟨fun pins s σ H Q I h => ?_⟩
  refine PySem.W.methodCall_KW (pl := pl) (thn (ho.run pins s σ H _ I (rd_meth hC h)) fun u s1 ⟨x, H1, I1, rx, a, dx, fs, ex, ea, l, q⟩ => ?_) ht
  subst ex
  obtain rfl : u = Value.ref a := rx
  refine getmeth_ok I1 ea cl hm l ?_
  obtain ⟨w, ρ, M, wm, er, p⟩ := q
  exact PySem.W.callWith_K0 (first := [.ref a]) I1.kIn hm.kp (F.run hr tk I1 (us := [.ref a]) (vs := [.ref a]) (.cons rfl .nil) (p.now wm [] [] .nil fun _ z => nomatch z))
/-! ### properties -/
theorem rd_prop {C : Addr} (hC : X.mg c = some (.ref C)) {Q : VK} (h : rdE X W (eProp c G Fo) σ H Q) : tProp C (spD X.K X.mg 1 G) [] (fun _ _ _ => False) (rdE X W Fo) σ H Q := by
  obtain ⟨w, ρ, M, wm, er, p⟩ := h
  refine ⟨w, ρ, M, wm, er, p.bindF.imp fun w1 H1 M1 r _ _ z => ?_⟩
  obtain ⟨e1, m1, p1⟩ := z
  intro v fp q hf
  replace p1 := p1 fp hf
  split at p1
  · rename_i c' ns hi
    split at p1
    · rename_i hc
      subst hc
      obtain ⟨a, C', dx, fs, rfl, ha, hC', hk⟩ := ins_at m1 q hi
      obtain rfl : C = C' := by rw [hC] at hC'; cases hC'; rfl
      obtain ⟨w2, e2, m2, v2, _⟩ := settleV m1 q
      refine ⟨a, dx, fs, rfl, ha, w2, [svR r], M1, m2, .cons v2 .nil, rfl, ?_⟩
      have p2 := PostC.of p1 e1 hf e2
      cases z : G [svR r] M1 with
      | ok y M' => rw [z] at p2; exact p2
      | exc y M' => rw [z] at p2; exact p2.elim
      | bad => rw [z] at p2; exact p2.elim
    · exact p1.elim
  · exact p1.elim
/-- e.f, a property -/
theorem de_prop (D : PropD X.prog X.w X.K X.mg X.base c f k G) (hr : Room (k + 1) X.A) (ho : DE X W o Fo) (hb : attributeBase o f X.env (eval o X.env) = eval o X.env := by rfl) : DE X W (.Attribute o f pos) (eProp c G Fo) := by
  obtain ⟨C, pp, g, x, hC, cl, hp, fd, F, hbd⟩ := D.ex
  exact (pe_prop ho cl hp F hr hbd .nil (fun pins σ H s e s' I c => by
    obtain ⟨_, _, _, _, _, _, _, _, _, _, _, _, z⟩ := c
    exact z) hb).mono fun _ _ _ h => rd_prop hC h
/-! ### a class called -/
theorem run_makeF {C f : Addr} (Mk' : Mk X.K C f) (F : FOk X.prog X.w X.K X.mg X.base k f ps G) (hr : Room (k + 1) X.A) (tk : Takes X W) {pins : List (Addr × Obj)} {s : Shared} {Q : VK} {us : List Value} {vs : List V} (I : Inv X pins σ H s) (r : Vals vs us)
    (h : ∀ x dx, H x = none → H dx = none → dx ≠ x → spD X.K X.mg ps.length G (.ref x :: vs) (upd (upd H dx (.own x)) x (.ins C dx [])) (fun v H2 => v = .non ∧ Q (.ref x) H2) (WE W σ)) :
    wpAny (model X.prog X.w) X.A (call (.ref C) us) (EP X pins σ Q) X.xe s := by
  obtain ⟨fd, F, hb⟩ := F
  have hq := h (s.heap.objs.size + 1) s.heap.objs.size (I.hok.fresh (Nat.le_succ _)) (I.hok.fresh (Nat.le_refl _)) (Nat.ne_of_lt (Nat.lt_succ_self _))
  have I2 := Inv.made (C := C) I
  have r2 : Vals (V.ref (s.heap.objs.size + 1) :: vs) (Value.ref (s.heap.objs.size + 1) :: us) := .cons rfl r
  have hl : (Value.ref (s.heap.objs.size + 1) :: us ++ []).length = ps.length := by
    have e := r2.length
    rw [F.len _ _ _ _ hq] at e
    rw [List.append_nil]
    exact e.symm
  have b := hb _ (Value.ref (s.heap.objs.size + 1) :: us) I2.kIn hl
  rw [List.append_nil] at b
  refine wpAny_call (make_map (f := f) I.kIn Mk'.makes Mk'.init (beq_iff_eq.mp Mk'.fn) (codeAny_mono (F.run _ X.stack _ _ ⟨Value.ref (s.heap.objs.size + 1) :: us, []⟩ (Value.ref (s.heap.objs.size + 1) :: us) _ _ (WE W σ) (hr.make C us [])
    (I2.env0.make C us []) b r2 hq) fun r s' hq' => ?_))
  cases r with
  | error e => exact (passAt tk σ) pins _ _ e s' I2 hq'
  | ok fl =>
    cases fl with
    | ret u =>
      obtain ⟨v, H', I3, rv, ev, q3⟩ := I2.after hq'
      subst ev
      exact ⟨rv, ⟨V.ref (s.heap.objs.size + 1), H', I3, rfl, q3⟩⟩
    | next => exact False.elim hq'
    | brk => exact False.elim hq'
    | cont => exact False.elim hq'
/-- a new instance is held -/
theorem ins_new {x dx C : Addr} (m : MR X.K X.mg w H M) (hC : X.mg c = some (.ref C)) (hx : H x = none) (hdx : H dx = none) (ne : dx ≠ x) :
    ∃ w', Ext [] w H M w' (upd (upd H dx (.own x)) x (.ins C dx [])) (M ++ [.ins c []]) ∧ MR X.K X.mg w' (upd (upd H dx (.own x)) x (.ins C dx [])) (M ++ [.ins c []]) ∧ w'.α M.length = x := by
  have hx' : upd H dx (.own x) x = none := by rw [upd_ne ne.symm]; exact hx
  have m1 := m.new (o := .own x) hdx
  have m2 := m1.new (o := .ins C dx []) hx'
  have e2 : Ext [] w H M w (upd (upd H dx (.own x)) x (.ins C dx [])) M := (Ext.new m hdx).trans0 (Ext.new m1 hx')
  have nf : w.F x = none := by
    cases z : w.F x with
    | none => rfl
    | some o => rw [m.sub x o z] at hx; cases hx
  have q : RR X.K X.mg w (upd (upd H dx (.own x)) x (.ins C dx [])) M (.ref x) (.t (.ins c [])) [x] := by
    refine ⟨.ins upd_same nf hC .nil, by simp, fun b hb k hk z => ?_⟩
    obtain rfl : b = x := by simpa using hb
    obtain ⟨y, hy⟩ : ∃ y, M[k]? = some y := ⟨M[k], List.getElem?_eq_getElem hk⟩
    obtain ⟨_, o, e⟩ := (m.obj k y hy).1.fp _ z
    rw [e] at hx; cases hx
  obtain ⟨w', e3, m3, v3⟩ := keepM m2 q rfl
  refine ⟨w', e2.trans e3 fun a ha => ?_, m3, ?_⟩
  · obtain rfl : a = x := by simpa using ha
    exact .inl hx
  · have := v3.2
    cases this
    rfl
theorem PostC.cut {K : PySem.W.Frag} {mg : Mg} {E : XK} {n : Nat} {ot : Out R} {Q : VK} (h : PostC K mg E w H M ot Q) : PostC K mg E w H M ot Q := h
theorem rd_make {n : Nat} {C : Addr} (hC : X.mg c = some (.ref C)) {Q : VK} (h : rdE X W (eMake c n G A) σ H Q) :
    rdA X W A σ H fun vs H1 => ∀ x dx, H1 x = none → H1 dx = none → dx ≠ x → spD X.K X.mg n G (.ref x :: vs) (upd (upd H1 dx (.own x)) x (.ins C dx [])) (fun v H2 => v = .non ∧ Q (.ref x) H2) (WE W σ) := by
  obtain ⟨w, ρ, M, wm, er, p⟩ := h
  refine ⟨w, ρ, M, wm, er, p.bindF.imp fun w1 H1 M1 rs _ _ z => ?_⟩
  obtain ⟨e1, m1, p1⟩ := z
  intro vs fp q hf
  replace p1 := p1 fp hf
  split at p1
  · rename_i hl
    intro x dx hx hdx ne
    obtain ⟨w2, e2, m2, v2⟩ := settleL m1 q
    obtain ⟨w3, e3, m3, a3⟩ := ins_new (c := c) (C := C) m2 hC hx hdx ne
    refine ⟨w3, .h M1.length :: rs.map svR, _, m3, .cons ⟨by simp, by rw [a3]⟩ (v2.stay e3), by simpa [q.length] using hl, ?_⟩
    have e23 : Ext fp w1 H1 M1 w3 (upd (upd H1 dx (.own x)) x (.ins C dx [])) (M1 ++ [.ins c []]) := e2.trans0 e3
    cases z : G (.h M1.length :: rs.map svR) (M1 ++ [.ins c []]) with
    | bad => rw [z] at p1; exact p1
    | exc ex M' =>
      rw [z] at p1
      intro w' H' cls d e' m' xr
      exact p1 w' H' cls d (e23.trans0 e').take (m'.take _) xr
    | ok r M' =>
      rw [z] at p1
      intro w' H' v fp' e' m' q' hq'
      have p1 : Post X W σ fp w1 H1 M1 (match r with
        | .t (.d .non) => .ok (.t (M'.getD M1.length (.d .non))) (M'.take M1.length)
        | _ => .bad) (CE X [] w H M Q) := p1
      split at p1
      · have e4 := e23.trans0 e'
        obtain ⟨g1, _⟩ := rr_dat q'
        cases g1
        refine ⟨rfl, ?_⟩
        have hlt : M1.length < M'.length := Nat.lt_of_lt_of_le (by simp) e'.len
        have hal : w'.α M1.length = x := (e'.al M1.length (by simp)).trans a3
        obtain ⟨f5, r5, g5⟩ := RR.ret (n := M1.length) (r := .h M1.length) (v := .ref (w'.α M1.length)) (fp := []) (Nat.le_of_lt hlt) m' ⟨hlt, rfl, rfl⟩
        rw [show retR M1.length M' (.h M1.length) = .t (M'.getD M1.length (.d .non)) from if_neg (Nat.lt_irrefl _), hal] at r5
        refine p1 w' H' e4.take (m'.take _) _ f5 r5 fun a ha => ?_
        rcases g5 a ha with z | ⟨k, hk, z⟩
        · cases z
        · exact e1.pm hf (e4.ph k hk a z)
      · exact p1.elim
  · exact p1.elim
theorem de_make (D : MakeD X.prog X.w X.K X.mg X.base x k ps G) (hr : Room (k + 1) X.A) (tk : Takes X W) (hg : Gl X x) (ha : DA X W (e :: es) A)
    (hdb : (x == ("__debug__" : Str)) = false := by decide) (he : starEach (e :: es) X.env = (false, eval e X.env) :: starEach es X.env := by rfl) (hpl : (backTo pos (starEach es X.env)).any (·.1) = false := by rfl) :
    DE X W (.Call (.Name x p) (e :: es) [] pos) (eMake x ps.length G A) := by
  obtain ⟨C, f, hC, mk, F⟩ := D.ex
  refine ⟨fun pins s σ H Q I h => ?_⟩
  refine wpAny_Call_Name_kw (ld_glob I hg hC ?_ hdb)
  refine PySem.W.callWith_K (h₀ := X.base) I.ok.mod.kin mk.kp (thn (ha.run pos pins s σ H _ I (rd_make hC h)) fun us s1 ⟨vs, H1, I1, r, q⟩ => ⟨I1.kIn, ?_⟩) he hpl
  exact run_makeF mk F hr tk I1 r q
theorem de_make0 (D : MakeD X.prog X.w X.K X.mg X.base x k ps G) (hr : Room (k + 1) X.A) (tk : Takes X W) (hg : Gl X x) (hdb : (x == ("__debug__" : Str)) = false := by decide) :
    DE X W (.Call (.Name x p) [] [] pos) (eMake x ps.length G eNil) := by
  obtain ⟨C, f, hC, mk, F⟩ := D.ex
  refine ⟨fun pins s σ H Q I h => ?_⟩
  refine wpAny_Call_Name_kw (ld_glob I hg hC ?_ hdb)
  obtain ⟨w, ρ, M, wm, er, p⟩ := rd_make hC h
  exact PySem.W.callWith_K0 I.kIn mk.kp (run_makeF (us := []) mk F hr tk I .nil (p.now wm [] [] .nil fun _ z => nomatch z))
/-- one way or another -/
def eOr2 (F1 F2 : Den) : Den := fun ρ M => match F1 ρ M with
  | .bad => F2 ρ M
  | o => o
theorem de_or2 {F1 F2 : Den} (h1 : DE X W e F1) (h2 : DE X W e F2) : DE X W e (eOr2 F1 F2) := (PE.or h1 h2).mono fun σ H Q ⟨w, ρ, M, m, er, p⟩ => by
  unfold eOr2 at p
  split at p
  · exact .inr ⟨w, ρ, M, m, er, p⟩
  · exact .inl ⟨w, ρ, M, m, er, p⟩
end
end DL

/-! DL18: places within a tree: found by a path, written anew -/
namespace DL
open PySem L2 PySem.Spec PyProof.Rows
inductive Stp where
  | i (n : Nat) | f (x : Str)
def subT : List Stp → T → Option T
  | [], t => some t
  | .i n :: π, .lst ts => (match ts[n]? with
    | some t => subT π t
    | none => none)
  | .i n :: π, .tup ts => (match ts[n]? with
    | some t => subT π t
    | none => none)
  | .f x :: π, .ins _ fs => (match fs.lookup x with
    | some t => subT π t
    | none => none)
  | _, _ => none
def setP : List Stp → T → T → T
  | [], _, u => u
  | .i n :: π, .lst ts, u => (match ts[n]? with
    | some t => .lst (ts.set n (setP π t u))
    | none => .lst ts)
  | .i n :: π, .tup ts, u => (match ts[n]? with
    | some t => .tup (ts.set n (setP π t u))
    | none => .tup ts)
  | .f x :: π, .ins c fs, u => (match fs.lookup x with
    | some t => .ins c (putT x (setP π t u) fs)
    | none => .ins c fs)
  | _, t, _ => t
/-- what stands at the end of a path -/
def pathV (H : Hp) : List Stp → V → Option V
  | [], v => some v
  | .i n :: π, .ref a => (match H a with
    | some (.lst vs) => (match vs[n]? with
      | some v => pathV H π v
      | none => none)
    | some (.tup vs) => (match vs[n]? with
      | some v => pathV H π v
      | none => none)
    | _ => none)
  | .f x :: π, .ref a => (match H a with
    | some (.ins _ _ fs) => (match fs.lookup x with
      | some v => pathV H π v
      | none => none)
    | _ => none)
  | _, _ => none
section
variable {K : PySem.W.Frag} {mg : Mg} {F H H' : Hp}
theorem pathV_lst {a : Addr} {vs : List V} {n : Nat} {u : V} {π : List Stp} (h : H a = some (.lst vs)) (e : vs[n]? = some u) : pathV H (.i n :: π) (.ref a) = pathV H π u := by
  show (match H a with
    | some (.lst vs) => (match vs[n]? with
      | some v => pathV H π v
      | none => none)
    | some (.tup vs) => (match vs[n]? with
      | some v => pathV H π v
      | none => none)
    | _ => none) = _
  rw [h]
  show (match vs[n]? with
      | some v => pathV H π v
      | none => none) = _
  rw [e]
theorem pathV_tup {a : Addr} {vs : List V} {n : Nat} {u : V} {π : List Stp} (h : H a = some (.tup vs)) (e : vs[n]? = some u) : pathV H (.i n :: π) (.ref a) = pathV H π u := by
  show (match H a with
    | some (.lst vs) => (match vs[n]? with
      | some v => pathV H π v
      | none => none)
    | some (.tup vs) => (match vs[n]? with
      | some v => pathV H π v
      | none => none)
    | _ => none) = _
  rw [h]
  show (match vs[n]? with
      | some v => pathV H π v
      | none => none) = _
  rw [e]
theorem pathV_ins {a C dx : Addr} {fs : List (Str × V)} {x : Str} {u : V} {π : List Stp} (h : H a = some (.ins C dx fs)) (e : fs.lookup x = some u) : pathV H (.f x :: π) (.ref a) = pathV H π u := by
  show (match H a with
    | some (.ins _ _ fs) => (match fs.lookup x with
      | some v => pathV H π v
      | none => none)
    | _ => none) = _
  rw [h]
  show (match fs.lookup x with
      | some v => pathV H π v
      | none => none) = _
  rw [e]
theorem trl_at : ∀ {vs : List V} {ts : List T} {fp : List Addr} {n : Nat} {t : T}, TRL K mg F H vs ts fp → ts[n]? = some t → ∃ v f1 fm f2, vs[n]? = some v ∧ fp = f1 ++ fm ++ f2 ∧ TR K mg F H v t fm ∧
    ∀ H' t' fm', TR K mg F H' v t' fm' → (∀ a ∈ f1 ++ f2, ∀ o, H a = some o → H' a = some o) → TRL K mg F H' vs (ts.set n t') (f1 ++ fm' ++ f2)
  | _, _, _, _, _, .nil, e => by simp at e
  | _, _, _, 0, t, .cons (f1 := g1) (f2 := g2) h r, e => by
    simp at e; subst e
    refine ⟨_, [], g1, g2, rfl, by simp, h, fun H' t' fm' h' k => ?_⟩
    simp only [List.nil_append, List.set_cons_zero] at k ⊢
    exact .cons h' (r.stay (Same.refl _) fun a ha => ⟨(r.fp a ha).1, k a ha⟩)
  | _, _, _, n + 1, t, .cons (f1 := g1) (f2 := g2) h r, e => by
    obtain ⟨v, f1, fm, f2, e1, e2, e3, e4⟩ := trl_at (n := n) r (by simpa using e)
    refine ⟨v, g1 ++ f1, fm, f2, by simpa using e1, by rw [e2]; simp, e3, fun H' t' fm' h' k => ?_⟩
    have := TRL.cons (h.stay (F' := F) (H' := H') (Same.refl _) fun a ha => ⟨(h.fp a ha).1, k a (by simp [ha])⟩) (e4 H' t' fm' h' fun a ha => k a (by simp at ha ⊢; rcases ha with z | z <;> simp [z]))
    rw [show g1 ++ f1 ++ fm' ++ f2 = g1 ++ (f1 ++ fm' ++ f2) by simp]
    exact this
theorem trf_at : ∀ {vs : List (Str × V)} {ts : List (Str × T)} {fp : List Addr} {x : Str} {t : T}, TRF K mg F H vs ts fp → ts.lookup x = some t → ∃ v f1 fm f2, vs.lookup x = some v ∧ fp = f1 ++ fm ++ f2 ∧ TR K mg F H v t fm ∧
    ∀ H' t' fm', TR K mg F H' v t' fm' → (∀ a ∈ f1 ++ f2, ∀ o, H a = some o → H' a = some o) → TRF K mg F H' vs (putT x t' ts) (f1 ++ fm' ++ f2)
  | _, _, _, _, _, .nil, e => by simp at e
  | _, _, _, x, t, .cons (f := g) (f1 := g1) (f2 := g2) h r, e => by
    rw [List.lookup_cons] at e
    by_cases z : x = g
    · rw [show (x == g) = true from beq_iff_eq.mpr z] at e
      cases e
      refine ⟨_, [], g1, g2, by rw [List.lookup_cons, show (x == g) = true from beq_iff_eq.mpr z], by simp, h, fun H' t' fm' h' k => ?_⟩
      unfold putT
      rw [if_pos z.symm]
      simp only [List.nil_append] at k ⊢
      exact .cons h' (r.stay (Same.refl _) fun a ha => ⟨(r.fp a ha).1, k a ha⟩)
    · rw [show (x == g) = false from beq_eq_false_iff_ne.mpr z] at e
      obtain ⟨v, f1, fm, f2, e1, e2, e3, e4⟩ := trf_at r e
      refine ⟨v, g1 ++ f1, fm, f2, by rw [List.lookup_cons, show (x == g) = false from beq_eq_false_iff_ne.mpr z]; exact e1, by rw [e2]; simp, e3, fun H' t' fm' h' k => ?_⟩
      unfold putT
      rw [if_neg (fun q => z q.symm)]
      have := TRF.cons (f := g) (h.stay (F' := F) (H' := H') (Same.refl _) fun a ha => ⟨(h.fp a ha).1, k a (by simp [ha])⟩) (e4 H' t' fm' h' fun a ha => k a (by simp at ha ⊢; rcases ha with z | z <;> simp [z]))
      rw [show g1 ++ f1 ++ fm' ++ f2 = g1 ++ (f1 ++ fm' ++ f2) by simp]
      exact this
theorem nodup_mid {f1 fm f2 fm' : List Addr} (h : (f1 ++ fm ++ f2).Nodup) (h' : fm'.Nodup) (d : ∀ a ∈ fm', a ∈ fm ∨ a ∉ f1 ++ fm ++ f2) : (f1 ++ fm' ++ f2).Nodup := by
  rw [List.nodup_append] at h ⊢
  obtain ⟨h1, h2, h3⟩ := h
  rw [List.nodup_append] at h1 ⊢
  obtain ⟨h4, h5, h6⟩ := h1
  refine ⟨⟨h4, h', fun a ha b hb e => ?_⟩, h2, fun a ha b hb e => ?_⟩
  · subst e
    rcases d a hb with z | z
    · exact h6 a ha a z rfl
    · exact z (by simp [ha])
  · subst e
    rcases List.mem_append.mp ha with z | z
    · exact h3 a (List.mem_append_left _ z) a hb rfl
    · rcases d a z with q | q
      · exact h3 a (List.mem_append_right _ q) a hb rfl
      · exact q (by simp [hb])
theorem tr_path : ∀ (π : List Stp) {v : V} {t s : T} {fp : List Addr}, TR K mg F H v t fp → fp.Nodup → subT π t = some s → ∃ v' fs, pathV H π v = some v' ∧ TR K mg F H v' s fs ∧ fs.Nodup ∧ (∀ a ∈ fs, a ∈ fp) ∧
    ∀ H' s' fs', TR K mg F H' v' s' fs' → fs'.Nodup → (∀ a ∈ fs', a ∈ fs ∨ a ∉ fp) → (∀ a ∈ fp, a ∉ fs → ∀ o, H a = some o → H' a = some o) →
      ∃ fp', TR K mg F H' v (setP π t s') fp' ∧ fp'.Nodup ∧ ∀ a ∈ fp', (a ∈ fp ∧ a ∉ fs) ∨ a ∈ fs' := by
  intro π
  induction π with
  | nil =>
    intro v t s fp h nd e
    have e : some t = some s := e
    cases e
    exact ⟨v, fp, rfl, h, nd, fun _ z => z, fun H' s' fs' h' nd' d k => ⟨fs', by cases s' <;> exact h', nd', fun a ha => .inr ha⟩⟩
  | cons p π ih =>
    intro v t s fp h nd e
    -- the shared part
    have core : ∀ {b : Addr} {f1 fm f2 : List Addr} {u : V} {t1 : T}, fp = b :: (f1 ++ fm ++ f2) → TR K mg F H u t1 fm → subT π t1 = some s →
        ∃ v' fs, pathV H π u = some v' ∧ TR K mg F H v' s fs ∧ fs.Nodup ∧ (∀ a ∈ fs, a ∈ fm) ∧ b ∉ fm ∧ ∀ H' s' fs', TR K mg F H' v' s' fs' → fs'.Nodup → (∀ a ∈ fs', a ∈ fs ∨ a ∉ fp) → (∀ a ∈ fp, a ∉ fs → ∀ o, H a = some o → H' a = some o) →
          ∃ fm', TR K mg F H' u (setP π t1 s') fm' ∧ (b :: (f1 ++ fm' ++ f2)).Nodup ∧ (∀ a ∈ f1 ++ f2, ∀ o, H a = some o → H' a = some o) ∧ (∀ o, H b = some o → H' b = some o) ∧ ∀ a ∈ b :: (f1 ++ fm' ++ f2), (a ∈ fp ∧ a ∉ fs) ∨ a ∈ fs' := by
      intro b f1 fm f2 u t1 hfp ht hs
      rw [hfp, List.nodup_cons] at nd
      obtain ⟨nb, nl⟩ := nd
      have nm : fm.Nodup := by
        rw [List.nodup_append] at nl
        exact (List.nodup_append.mp nl.1).2.1
      obtain ⟨v', fs, g0, g1, g2, g3, g4⟩ := ih ht nm hs
      have out : ∀ a ∈ f1 ++ f2, a ∉ fm := fun a ha z => by
        rw [List.nodup_append] at nl
        obtain ⟨l1, l2, l3⟩ := nl
        rw [List.nodup_append] at l1
        rcases List.mem_append.mp ha with q | q
        · exact l1.2.2 a q a z rfl
        · exact l3 a (List.mem_append_right _ z) a q rfl
      have sub : ∀ a ∈ f1 ++ f2, a ∈ fp := fun a ha => by rw [hfp]; simp at ha ⊢; rcases ha with z | z <;> simp [z]
      have subm : ∀ a ∈ fm, a ∈ fp := fun a ha => by rw [hfp]; simp [ha]
      have nbm : b ∉ fm := fun z => nb (by simp [z])
      refine ⟨v', fs, g0, g1, g2, g3, nbm, fun H' s' fs' h' nd' d k => ?_⟩
      obtain ⟨fm', k1, k2, k3⟩ := g4 H' s' fs' h' nd' (fun a ha => (d a ha).imp id fun z q => z (subm a q)) fun a ha hn => k a (subm a ha) hn
      have dm : ∀ a ∈ fm', a ∈ fm ∨ a ∉ b :: (f1 ++ fm ++ f2) := fun a ha => by
        rcases k3 a ha with z | z
        · exact .inl z.1
        · rcases d a z with q | q
          · exact .inl (g3 a q)
          · exact .inr (hfp ▸ q)
      refine ⟨fm', k1, List.nodup_cons.mpr ⟨fun z => ?_, nodup_mid nl k2 fun a ha => (dm a ha).imp id fun q z => q (List.mem_cons_of_mem _ z)⟩, fun a ha => k a (sub a ha) fun z => out a ha (g3 a z), k b (by rw [hfp]; exact List.mem_cons_self) fun z => nbm (g3 b z), fun a ha => ?_⟩
      · have z : b ∈ f1 ++ fm' ++ f2 := z
        rcases List.mem_append.mp z with z | z
        · rcases List.mem_append.mp z with z | z
          · exact nb (by simp [z])
          · rcases dm b z with q | q
            · exact nbm q
            · exact q List.mem_cons_self
        · exact nb (by simp [z])
      · rcases List.mem_cons.mp ha with rfl | ha
        · exact .inl ⟨by rw [hfp]; exact List.mem_cons_self, fun z => nbm (g3 _ z)⟩
        · rcases List.mem_append.mp ha with z | z
          · rcases List.mem_append.mp z with z | z
            · exact .inl ⟨sub a (List.mem_append_left _ z), fun q => out a (List.mem_append_left _ z) (g3 a q)⟩
            · exact (k3 a z).imp (fun q => ⟨subm a q.1, q.2⟩) id
          · exact .inl ⟨sub a (List.mem_append_right _ z), fun q => out a (List.mem_append_right _ z) (g3 a q)⟩
    cases h with
    | d h => cases p <;> cases e
    | dic _ _ _ => cases p <;> cases e
    | tbl => cases p <;> cases e
    | @lst b vs ts fl h1 h2 h3 =>
      cases p with
      | f x => cases e
      | i n =>
        have e : (match ts[n]? with
          | some t => subT π t
          | none => none) = some s := e
        cases z : ts[n]? with
        | none => rw [z] at e; cases e
        | some t1 =>
          rw [z] at e
          obtain ⟨u, f1, fm, f2, a1, a2, a3, a4⟩ := trl_at h3 z
          obtain ⟨v', fs, c0, c1, c2, c3, c4, c5⟩ := core (b := b) (by rw [a2]) a3 e
          refine ⟨v', fs, (pathV_lst h1 a1).trans c0, c1, c2, fun a ha => by rw [a2]; simp [c3 a ha], fun H' s' fs' h' nd' d k => ?_⟩
          obtain ⟨fm', k1, k2, k3, k4, k5⟩ := c5 H' s' fs' h' nd' d k
          refine ⟨b :: (f1 ++ fm' ++ f2), ?_, k2, k5⟩
          show TR K mg F H' _ (match ts[n]? with
            | some t => .lst (ts.set n (setP π t s'))
            | none => .lst ts) _
          rw [z]
          exact .lst (k4 _ h1) h2 (a4 H' _ fm' k1 k3)
    | @tup b vs ts fl h1 h2 h3 =>
      cases p with
      | f x => cases e
      | i n =>
        have e : (match ts[n]? with
          | some t => subT π t
          | none => none) = some s := e
        cases z : ts[n]? with
        | none => rw [z] at e; cases e
        | some t1 =>
          rw [z] at e
          obtain ⟨u, f1, fm, f2, a1, a2, a3, a4⟩ := trl_at h3 z
          obtain ⟨v', fs, c0, c1, c2, c3, c4, c5⟩ := core (b := b) (by rw [a2]) a3 e
          refine ⟨v', fs, (pathV_tup h1 a1).trans c0, c1, c2, fun a ha => by rw [a2]; simp [c3 a ha], fun H' s' fs' h' nd' d k => ?_⟩
          obtain ⟨fm', k1, k2, k3, k4, k5⟩ := c5 H' s' fs' h' nd' d k
          refine ⟨b :: (f1 ++ fm' ++ f2), ?_, k2, k5⟩
          show TR K mg F H' _ (match ts[n]? with
            | some t => .tup (ts.set n (setP π t s'))
            | none => .tup ts) _
          rw [z]
          exact .tup (k4 _ h1) h2 (a4 H' _ fm' k1 k3)
    | @ins b C dx vs c ts fl h1 h2 hm h3 =>
      cases p with
      | i n => cases e
      | f x =>
        have e : (match ts.lookup x with
          | some t => subT π t
          | none => none) = some s := e
        cases z : ts.lookup x with
        | none => rw [z] at e; cases e
        | some t1 =>
          rw [z] at e
          obtain ⟨u, f1, fm, f2, a1, a2, a3, a4⟩ := trf_at h3 z
          obtain ⟨v', fs, c0, c1, c2, c3, c4, c5⟩ := core (b := b) (by rw [a2]) a3 e
          refine ⟨v', fs, (pathV_ins h1 a1).trans c0, c1, c2, fun a ha => by rw [a2]; simp [c3 a ha], fun H' s' fs' h' nd' d k => ?_⟩
          obtain ⟨fm', k1, k2, k3, k4, k5⟩ := c5 H' s' fs' h' nd' d k
          refine ⟨b :: (f1 ++ fm' ++ f2), ?_, k2, k5⟩
          show TR K mg F H' _ (match ts.lookup x with
            | some t => .ins c (putT x (setP π t s') ts)
            | none => .ins c ts) _
          rw [z]
          exact .ins (k4 _ h1) h2 hm (a4 H' _ fm' k1 k3)
end
end DL

/-! DL19: places as expressions; what is done at them -/
namespace DL
open PySem L2 PySem.Spec PyProof.Rows
theorem pathV_app {H : Hp} (ρ : List Stp) : ∀ (π : List Stp) {v u : V}, pathV H π v = some u → pathV H (π ++ ρ) v = pathV H ρ u := by
  intro π
  induction π with
  | nil => intro v u e; cases e; rfl
  | cons p π ih =>
    intro v u e
    cases p with
    | i n =>
      cases v with
      | ref a =>
        have e : (match H a with
          | some (.lst vs) => (match vs[n]? with
            | some v => pathV H π v
            | none => none)
          | some (.tup vs) => (match vs[n]? with
            | some v => pathV H π v
            | none => none)
          | _ => none) = some u := e
        split at e
        · rename_i vs h
          split at e
          · rename_i y hy
            rw [List.cons_append, pathV_lst h hy]; exact ih e
          · cases e
        · rename_i vs h
          split at e
          · rename_i y hy
            rw [List.cons_append, pathV_tup h hy]; exact ih e
          · cases e
        · cases e
      | _ => cases e
    | f x =>
      cases v with
      | ref a =>
        have e : (match H a with
          | some (.ins _ _ fs) => (match fs.lookup x with
            | some v => pathV H π v
            | none => none)
          | _ => none) = some u := e
        split at e
        · rename_i fs h
          split at e
          · rename_i y hy
            rw [List.cons_append, pathV_ins h hy]; exact ih e
          · cases e
        · cases e
      | _ => cases e
theorem subT_app (ρ : List Stp) : ∀ (π : List Stp) {t s : T}, subT π t = some s → subT (π ++ ρ) t = subT ρ s := by
  intro π
  induction π with
  | nil => intro t s e; cases e; rfl
  | cons p π ih =>
    intro t s e
    cases p with
    | i n =>
      cases t with
      | lst ts =>
        have e : (match ts[n]? with
          | some t => subT π t
          | none => none) = some s := e
        show (match ts[n]? with
          | some t => subT (π ++ ρ) t
          | none => none) = _
        split at e
        · exact ih e
        · cases e
      | tup ts =>
        have e : (match ts[n]? with
          | some t => subT π t
          | none => none) = some s := e
        show (match ts[n]? with
          | some t => subT (π ++ ρ) t
          | none => none) = _
        split at e
        · exact ih e
        · cases e
      | _ => cases e
    | f x =>
      cases t with
      | ins c fs =>
        have e : (match fs.lookup x with
          | some t => subT π t
          | none => none) = some s := e
        show (match fs.lookup x with
          | some t => subT (π ++ ρ) t
          | none => none) = _
        split at e
        · exact ih e
        · cases e
      | _ => cases e
abbrev Loc := Nat × List Stp
abbrev DenP := Ev → Mst → Option Loc
abbrev DenV := Ev → Mst → Option D
def atL (M : Mst) (l : Loc) : Option T := match M[l.1]? with
  | some t => subT l.2 t
  | none => none
def setL (M : Mst) (l : Loc) (s : T) : Mst := match M[l.1]? with
  | some t => M.set l.1 (setP l.2 t s)
  | none => M
def rdP (X : Cx) (F : DenP) : TE := fun σ H Q => ∃ w ρ M, MR X.K X.mg w H M ∧ ER X.K X.mg w M σ ρ ∧ ∃ l, F ρ M = some l ∧ ∀ v s, atL M l = some s → pathV H l.2 (.ref (w.α l.1)) = some v → Q v H
/-- a simple value: nothing is done -/
def rdV (X : Cx) (F : DenV) : TE := fun σ H Q => ∃ w ρ M, MR X.K X.mg w H M ∧ ER X.K X.mg w M σ ρ ∧ ∃ d, F ρ M = some d ∧ ∀ v, Dp X.K X.mg w.F v d → Q v H
def DP (X : Cx) (e : Expr) (F : DenP) : Prop := PE X e (rdP X F)
def DV (X : Cx) (e : Expr) (F : DenV) : Prop := PE X e (rdV X F)
section
variable {X : Cx} {W : WX} {σ : L2.St} {fs gs : List Addr} {w w2 : Wd} {H H2 : Hp} {M M2 : Mst}
variable {e o i : Expr} {es : List Expr} {Fe Fv : Den} {Fo : DenP} {Fi : DenV} {A : DenA} {pos p apos : Pos} {x m f : Str} {k : Nat} {cs : List Str}
theorem atL_at {l : Loc} {s : T} (m : MR X.K X.mg w H M) (e : atL M l = some s) : ∃ t v fs, M[l.1]? = some t ∧ pathV H l.2 (.ref (w.α l.1)) = some v ∧ TR X.K X.mg w.F H v s fs ∧ fs.Nodup ∧ (∀ a ∈ fs, a ∈ w.φ l.1) ∧
    ∀ H' s' fs', TR X.K X.mg w.F H' v s' fs' → fs'.Nodup → (∀ a ∈ fs', a ∈ fs ∨ a ∉ w.φ l.1) → (∀ a ∈ w.φ l.1, a ∉ fs → ∀ o, H a = some o → H' a = some o) →
      ∃ fp', TR X.K X.mg w.F H' (.ref (w.α l.1)) (setP l.2 t s') fp' ∧ fp'.Nodup ∧ ∀ a ∈ fp', (a ∈ w.φ l.1 ∧ a ∉ fs) ∨ a ∈ fs' := by
  unfold atL at e
  split at e
  · rename_i t ht
    obtain ⟨q1, q2⟩ := m.obj _ _ ht
    obtain ⟨v, fs, g0, g1, g2, g3, g4⟩ := tr_path l.2 q1 q2 e
    exact ⟨t, v, fs, ht, g0, g1, g2, g3, g4⟩
  · cases e
/-- a list within a tree: what stands there, how it is written anew -/
theorem put_loc {l : Loc} {ts : List T} (m : MR X.K X.mg w H M) (e : atL M l = some (.lst ts)) : ∃ a vs fl, pathV H l.2 (.ref (w.α l.1)) = some (.ref a) ∧ H a = some (.lst vs) ∧ TRL X.K X.mg w.F H vs ts fl ∧ (a :: fl).Nodup ∧ (∀ b ∈ a :: fl, b ∈ w.φ l.1) ∧ l.1 < M.length ∧
    ∀ vs' ts' fl' fs, TRL X.K X.mg w.F H vs' ts' fl' → fl'.Nodup → (∀ b ∈ fl', b ∈ fl ∨ (b ∈ fs ∧ ∀ j, j < M.length → b ∉ w.φ j)) →
      ∃ w', Ext fs w H M w' (upd H a (.lst vs')) (setL M l (.lst ts')) ∧ MR X.K X.mg w' (upd H a (.lst vs')) (setL M l (.lst ts')) := by
  obtain ⟨t, v, ff, h1, h2, h3, h4, h5, h6⟩ := atL_at m e
  have hk : l.1 < M.length := (List.getElem?_eq_some_iff.mp h1).1
  cases h3 with
  | @lst a vs _ fl g1 g2 g3 =>
    obtain ⟨n1, n2⟩ := List.nodup_cons.mp h4
    refine ⟨a, vs, fl, h2, g1, g3, h4, h5, hk, fun vs' ts' fl' fs q nd d => ?_⟩
    have ha : a ∈ w.φ l.1 := h5 a List.mem_cons_self
    have na : a ∉ fl' := fun z => (d a z).elim n1 fun z => z.2 l.1 hk ha
    have q' : TRL X.K X.mg w.F (upd H a (.lst vs')) vs' ts' fl' := q.stay (Same.refl _) fun b hb => ⟨(q.fp b hb).1, fun o ho => by rw [upd_ne (show b ≠ a from fun z => na (z ▸ hb))]; exact ho⟩
    obtain ⟨fp', k1, k2, k3⟩ := h6 (upd H a (.lst vs')) (.lst ts') (a :: fl') (.lst upd_same g2 q') (List.nodup_cons.mpr ⟨na, nd⟩)
      (fun b hb => by
        rcases List.mem_cons.mp hb with rfl | hb
        · exact .inl List.mem_cons_self
        · exact (d b hb).imp (List.mem_cons_of_mem _) fun z => z.2 l.1 hk)
      fun b hb hn o ho => by rw [upd_ne (show b ≠ a from fun z => hn (z ▸ List.mem_cons_self))]; exact ho
    have inn : ∀ b ∈ fp', b ∈ w.φ l.1 ∨ (b ∈ fs ∧ ∀ j, j < M.length → b ∉ w.φ j) := fun b hb => by
      rcases k3 b hb with z | z
      · exact .inl z.1
      · rcases List.mem_cons.mp z with rfl | z
        · exact .inl ha
        · exact (d b z).imp (fun z => h5 b (List.mem_cons_of_mem _ z)) id
    obtain ⟨w', e1, m1, _, _⟩ := put_obj (fs := fs) m h1 ha k1 k2 g2 (fun b hb j hj hjk z => (inn b hb).elim (fun y => hjk (m.dis j l.1 b hj hk z y)) fun y => y.2 j hj z)
      fun b hb => (inn b hb).elim (fun y => .inr (.inl ⟨l.1, hk, y⟩)) fun y => .inr (.inr y.1)
    refine ⟨w', ?_⟩
    unfold setL
    rw [h1]
    exact ⟨e1, m1⟩
/-! ### places, simple values -/
def pVar (i : Nat) : DenP := fun ρ _ => match ρ[i]? with
  | some (some (.h k)) => some (k, [])
  | _ => none
theorem dp_var (i : Nat) (h : PE X e (tVar i)) : DP X e (pVar i) := h.mono fun σ H Q ⟨w, ρ, M, m, er, l, hl, k⟩ => by
  unfold pVar at hl
  split at hl
  · rename_i j hj
    cases hl
    obtain ⟨v, h1, h2, h3⟩ := er.at_ i _ hj
    obtain ⟨x, hx⟩ : ∃ x, M[j]? = some x := ⟨M[j], List.getElem?_eq_getElem h2⟩
    refine ⟨v, h1, k v x ?_ (by rw [h3]; rfl)⟩
    show (match M[j]? with
      | some t => subT [] t
      | none => none) = _
    rw [hx]; rfl
  · cases hl
def vVar (i : Nat) : DenV := fun ρ _ => match ρ[i]? with
  | some (some (.d x)) => some x
  | _ => none
def vC (x : D) : DenV := fun _ _ => some x
theorem dv_var (i : Nat) (h : PE X e (tVar i)) : DV X e (vVar i) := h.mono fun σ H Q ⟨w, ρ, M, m, er, d, hd, k⟩ => by
  unfold vVar at hd
  split at hd
  · rename_i j hj
    cases hd
    obtain ⟨v, h1, h2⟩ := er.at_ i _ hj
    exact ⟨v, h1, k v h2⟩
  · cases hd
theorem dv_const {v : V} {x : D} (h : PE X e (tC v)) (hd : ∀ F, Dp X.K X.mg F v x) : DV X e (vC x) := h.mono fun σ H Q ⟨w, ρ, M, m, er, d, hd', k⟩ => by
  cases hd'
  exact k v (hd _)
/-- o[i] as a place -/
def pSub (Fo : DenP) (Fi : DenV) : DenP := fun ρ M => match Fo ρ M, Fi ρ M with
  | some l, some (.int i) => (match atL M l with
    | some (.lst ts) => (match ixN ts.length i with
      | some j => if (ts[j]?).isSome = true then some (l.1, l.2 ++ [.i j]) else none
      | none => none)
    | _ => none)
  | _, _ => none
theorem dp_sub (ho : DP X o Fo) (hi : DV X i Fi) (hs : PlainIx i := by exact fun _ _ => rfl) : DP X (.Subscript o i pos) (pSub Fo Fi) := (pe_ix (ix_list (X := X)) ho hi hs).mono fun σ H Q ⟨w, ρ, M, m, er, l, hl, k⟩ => by
  unfold pSub at hl
  split at hl
  · rename_i l0 i0 hl0 hi0
    split at hl
    · rename_i ts hts
      split at hl
      · rename_i j hj
        split at hl
        · rename_i zz
          cases hl
          obtain ⟨a, vs, fl, h1, h2, h3, _, _, _, _⟩ := put_loc m hts
          refine ⟨w, ρ, M, m, er, l0, hl0, fun v s hs hv => ?_⟩
          rw [h1] at hv
          cases hv
          refine ⟨w, ρ, M, m, er, _, hi0, fun v hv => ?_⟩
          cases hv
          have hlen := h3.length
          obtain ⟨t1, ht1⟩ := Option.isSome_iff_exists.mp zz
          obtain ⟨u, f1, fm, f2, b1, b2, b3, _⟩ := trl_at h3 ht1
          refine ⟨a, vs, i0, u, rfl, rfl, SqL.of h2, by unfold atI; rw [hlen, hj]; exact b1, k u t1 ?_ ?_⟩
          · unfold atL at hts ⊢
            show (match M[l0.1]? with
              | some t => subT (l0.2 ++ [Stp.i j]) t
              | none => none) = _
            split at hts
            · rename_i t ht
              -- known
              show subT (l0.2 ++ [Stp.i j]) t = _
              rw [subT_app _ _ hts]
              show (match ts[j]? with
                | some t => subT [] t
                | none => none) = _
              rw [ht1]; rfl
            · cases hts
          · show pathV H (l0.2 ++ [Stp.i j]) _ = _
            rw [pathV_app _ _ h1, pathV_lst h2 b1]; rfl
        · cases hl
      · cases hl
    · cases hl
  · cases hl
/-! ### o[i] = v at a place -/
def gItemP (Fo : DenP) (Fi : DenV) : DenG := fun r ρ M => match Fo ρ (frzM M r), Fi ρ (frzM M r) with
  | some l, some (.int i) => (match atL (frzM M r) l with
    | some (.lst ts) => (match ixN ts.length i with
      | some j => some (ρ, setL (frzM M r) l (.lst (ts.set j (treeT M r))))
      | none => none)
    | _ => none)
  | _, _ => none
theorem dg_itemP (ho : DP X o Fo) (hi : DV X i Fi) (ha : ∀ v, assign (.Subscript o i pos) X.env v = (do
      let ov ← holding [v] (eval o X.env)
      let iv ← holding [v, ov] (eval i X.env)
      standAt pos
      holding [v, ov, iv] (setItem ov iv v)
      release [v, ov, iv] []) := by intro _; rfl) : DG X W (.Subscript o i pos) (gItemP Fo Fi) := (pg_sub ho hi set_list ha).mono fun v σ H Q h => by
  obtain ⟨w, ρ, M, r, fp, m, er, q, p⟩ := h
  obtain ⟨w3, e3, m3, t3, nd3, dj3⟩ := treeT_ok m q
  have er3 := er.stay e3
  unfold gItemP at p
  split at p
  · rename_i l i0 hl hi0
    split at p
    · rename_i ts hts
      split at p
      · rename_i j hj
        obtain ⟨a, vs, fl, h1, h2, h3, h4, h5, hk, h6⟩ := put_loc m3 hts
        refine ⟨w3, ρ, _, m3, er3, l, hl, fun v' s hs hv' => ?_⟩
        rw [h1] at hv'
        cases hv'
        refine ⟨w3, ρ, _, m3, er3, _, hi0, fun v' hv' => ?_⟩
        cases hv'
        obtain ⟨n1, n2⟩ := List.nodup_cons.mp h4
        have djk : ∀ b ∈ fp, b ∉ a :: fl := fun b hb z => dj3 b hb l.1 hk (h5 b z)
        obtain ⟨f', i1, i2, i3⟩ := trl_set (j := j) h3 t3 n2 nd3 fun b hb z => djk b hb (List.mem_cons_of_mem _ z)
        obtain ⟨w4, e4, m4⟩ := h6 _ _ f' fp i1 i2 fun b hb => (i3 b hb).imp id fun z => ⟨z, fun j hj => dj3 b z j hj⟩
        refine ⟨a, vs, i0, j, rfl, rfl, h2, by rw [h3.length]; exact hj, ?_⟩
        exact p w4 _ σ ((e3.mono fun _ z => nomatch z).trans e4 fun b hb => .inr (.inr hb)) m4 (er3.stay e4)
      · exact p.elim
    · exact p.elim
  · exact p.elim
end
end DL

/-! DL20: lists changed by their methods; dicts written out and read -/
namespace DL
open PySem L2 PySem.Spec PyProof.Rows
section
variable {X : Cx} {W : WX} {σ : L2.St} {fs gs : List Addr} {w w2 : Wd} {H H2 : Hp} {M M2 : Mst}
variable {e o i : Expr} {es : List Expr} {Fe Fv Fa Fb : Den} {Fo : DenP} {Fi : DenV} {A : DenA} {pos p apos cpos : Pos} {x m f : Str} {k : Nat} {cs : List Str}
theorem lst_ty {a : Addr} {vs : List V} (h : H a = some (.lst vs)) : tyV X.K "list" (.ref a) H := .inl ⟨rfl, vs, SqL.of h⟩
/-! ### at a place -/
def eAppP (Fo : DenP) (Fi : DenV) : Den := fun ρ M => match Fo ρ M, Fi ρ M with
  | some l, some d => (match atL M l with
    | some (.lst ts) => if ts.length + 1 ≤ 1000000 then .ok (.t (.d .non)) (setL M l (.lst (ts ++ [.d d]))) else .bad
    | _ => .bad)
  | _, _ => .bad
theorem de_appP (ho : DP X o Fo) (hv : DV X e Fi) (hbase : attributeBase o "append" X.env (eval o X.env) = eval o X.env := by rfl)
    (hfew : ((backTo cpos (starEach [e] X.env)).all (fun x => !x.1) && (backToKw cpos (keywordEach [] X.env)).all (fun x => x.1.isSome)
      && decide ([e].length + ([] : List Keyword).length + (if ([] : List Keyword).isEmpty then 0 else 1) < 30)) = true := by rfl)
    (hline : (apos.endLine == cpos.line) = true := by rfl) (hs : starEach [e] X.env = (false, eval e X.env) :: starEach [] X.env := by rfl) (hplain : (backTo cpos (starEach [] X.env)).any (·.1) = false := by rfl) :
    DE X W (.Call (.Attribute o "append" apos) [e] [] cpos) (eAppP Fo Fi) :=
  (pe_bm PySem.F.plainAttrs_list PySem.F.slot_list_append PySem.F.type_list_append mt_append ho (pa_cons hv pa_nil hs) hbase hfew hline hs hplain).mono fun σ H Q ⟨w, ρ, M, m, er, p⟩ => by
    unfold eAppP at p
    split at p
    · rename_i l d hl hd
      split at p
      · rename_i ts hts
        split at p
        · rename_i hn
          obtain ⟨a, vs, fl, h1, h2, h3, h4, h5, hk, h6⟩ := put_loc m hts
          refine ⟨w, ρ, M, m, er, l, hl, fun v s hs hv => ?_⟩
          rw [h1] at hv
          cases hv
          refine ⟨lst_ty h2, w, ρ, M, m, er, d, hd, fun v hv => ?_⟩
          obtain ⟨w4, e4, m4⟩ := h6 (vs ++ [v]) (ts ++ [.d d]) (fl ++ ([] ++ [])) [] (trl_app h3 (.cons (.d hv) .nil)) (by simpa using (List.nodup_cons.mp h4).2) fun b hb => .inl (by simpa using hb)
          refine ⟨a, vs, v, rfl, rfl, h2, by have := big_le hn; rw [h3.length]; omega, ?_⟩
          exact p w4 _ e4 m4 .non [] (rr_d .non) fun _ z => nomatch z
        · exact p.elim
      · exact p.elim
    · exact p.elim
def eClearP (Fo : DenP) : Den := fun ρ M => match Fo ρ M with
  | some l => (match atL M l with
    | some (.lst ts) => .ok (.t (.d .non)) (setL M l (.lst []))
    | _ => .bad)
  | _ => .bad
theorem de_clearP (ho : DP X o Fo) (hbase : attributeBase o "clear" X.env (eval o X.env) = eval o X.env := by rfl) (hline : (apos.endLine == cpos.line) = true := by rfl) :
    DE X W (.Call (.Attribute o "clear" apos) [] [] cpos) (eClearP Fo) :=
  (pe_bm0 PySem.F.plainAttrs_list PySem.F.slot_list_clear PySem.F.type_list_clear (mt_clear) ho hbase hline).mono fun σ H Q ⟨w, ρ, M, m, er, p⟩ => by
    unfold eClearP at p
    split at p
    · rename_i l hl
      split at p
      · rename_i ts hts
        obtain ⟨a, vs, fl, h1, h2, h3, h4, h5, hk, h6⟩ := put_loc m hts
        refine ⟨w, ρ, M, m, er, l, hl, fun v s hs hv => ?_⟩
        rw [h1] at hv
        cases hv
        obtain ⟨w4, e4, m4⟩ := h6 [] [] [] [] .nil List.nodup_nil fun _ z => nomatch z
        exact ⟨lst_ty h2, a, vs, rfl, rfl, h2, p w4 _ e4 m4 .non [] (rr_d .non) fun _ z => nomatch z⟩
      · exact p.elim
    · exact p.elim
/-- o.pop() of plain items -/
def ePopP (Fo : DenP) : Den := fun ρ M => match Fo ρ M with
  | some l => (match atL M l with
    | some (.lst ts) => (match allD ts with
      | some ds => (match ds[ds.length - 1]? with
        | some d => .ok (.t (.d d)) (setL M l (.lst (ds.dropLast.map T.d)))
        | none => .bad)
      | none => .bad)
    | _ => .bad)
  | _ => .bad
theorem DpL.dropLast {F : Hp} {vs : List V} {ds : List D} (h : DpL X.K X.mg F vs ds) : DpL X.K X.mg F vs.dropLast ds.dropLast := by
  rw [List.dropLast_eq_take, List.dropLast_eq_take, h.length]
  exact h.take _
theorem de_popP (ho : DP X o Fo) (hbase : attributeBase o "pop" X.env (eval o X.env) = eval o X.env := by rfl) (hline : (apos.endLine == cpos.line) = true := by rfl) :
    DE X W (.Call (.Attribute o "pop" apos) [] [] cpos) (ePopP Fo) :=
  (pe_bm0 PySem.F.plainAttrs_list PySem.F.slot_list_pop PySem.F.type_list_pop (mt_pop) ho hbase hline).mono fun σ H Q ⟨w, ρ, M, m, er, p⟩ => by
    unfold ePopP at p
    split at p
    · rename_i l hl
      split at p
      · rename_i ts hts
        split at p
        · rename_i ds hds
          split at p
          · rename_i d hd
            obtain ⟨a, vs, fl, h1, h2, h3, h4, h5, hk, h6⟩ := put_loc m hts
            refine ⟨w, ρ, M, m, er, l, hl, fun v s hs hv => ?_⟩
            rw [h1] at hv
            cases hv
            have hD := allD_at h3 hds
            obtain ⟨u, hu, hud⟩ := hD.get hd
            obtain ⟨w4, e4, m4⟩ := h6 vs.dropLast (ds.dropLast.map T.d) [] [] hD.dropLast.trees List.nodup_nil fun _ z => nomatch z
            exact ⟨lst_ty h2, a, vs, u, rfl, rfl, h2, by rw [hD.length]; exact hu, p w4 _ e4 m4 u [] (rr_d (Dp.mono e4.F hud)) fun _ z => nomatch z⟩
          · exact p.elim
        · exact p.elim
      · exact p.elim
    · exact p.elim
/-! ### of a thing that nobody holds -/
def eAppT (Fe : Den) (Fi : DenV) : Den := fun ρ M => (Fe ρ M).bind fun r M1 => match r, Fi ρ M1 with
  | .t (.lst ts), some d => if ts.length + 1 ≤ 1000000 then .ok (.t (.d .non)) M1 else .bad
  | _, _ => .bad
theorem de_appT (ho : DE X W o Fe) (hv : DV X e Fi) (hbase : attributeBase o "append" X.env (eval o X.env) = eval o X.env := by rfl)
    (hfew : ((backTo cpos (starEach [e] X.env)).all (fun x => !x.1) && (backToKw cpos (keywordEach [] X.env)).all (fun x => x.1.isSome)
      && decide ([e].length + ([] : List Keyword).length + (if ([] : List Keyword).isEmpty then 0 else 1) < 30)) = true := by rfl)
    (hline : (apos.endLine == cpos.line) = true := by rfl) (hs : starEach [e] X.env = (false, eval e X.env) :: starEach [] X.env := by rfl) (hplain : (backTo cpos (starEach [] X.env)).any (·.1) = false := by rfl) :
    DE X W (.Call (.Attribute o "append" apos) [e] [] cpos) (eAppT Fe Fi) :=
  (pe_bm PySem.F.plainAttrs_list PySem.F.slot_list_append PySem.F.type_list_append mt_append ho (pa_cons hv pa_nil hs) hbase hfew hline hs hplain).mono fun σ H Q ⟨w, ρ, M, m, er, p⟩ => by
    refine ⟨w, ρ, M, m, er, p.bindF.imp fun w1 H1 M1 r _ _ z => ?_⟩
    obtain ⟨e1, m1, p1⟩ := z
    intro v fp q hf
    replace p1 := p1 fp hf
    split at p1
    · rename_i ts d hd
      split at p1
      · rename_i hn
        obtain ⟨q1, q2, q3⟩ := q
        cases q1 with
        | @lst a vs _ fl h1 h2 h3 =>
          refine ⟨lst_ty h1, w1, ρ, M1, m1, er.stay e1, d, hd, fun v hv => ?_⟩
          refine ⟨a, vs, v, rfl, rfl, h1, by have := big_le hn; rw [h3.length]; omega, ?_⟩
          exact p1 w1 _ (Ext.put List.mem_cons_self) (m1.put h2 fun k hk z => q3 a List.mem_cons_self k hk z) .non [] (rr_d .non) fun _ z => nomatch z
      · exact p1.elim
    · exact p1.elim
def eClearT (Fe : Den) : Den := fun ρ M => (Fe ρ M).bind fun r M1 => match r with
  | .t (.lst ts) => .ok (.t (.d .non)) M1
  | _ => .bad
theorem de_clearT (ho : DE X W o Fe) (hbase : attributeBase o "clear" X.env (eval o X.env) = eval o X.env := by rfl) (hline : (apos.endLine == cpos.line) = true := by rfl) :
    DE X W (.Call (.Attribute o "clear" apos) [] [] cpos) (eClearT Fe) :=
  (pe_bm0 PySem.F.plainAttrs_list PySem.F.slot_list_clear PySem.F.type_list_clear (mt_clear) ho hbase hline).mono fun σ H Q ⟨w, ρ, M, m, er, p⟩ => by
    refine ⟨w, ρ, M, m, er, p.bindF.imp fun w1 H1 M1 r _ _ z => ?_⟩
    obtain ⟨e1, m1, p1⟩ := z
    intro v fp q hf
    replace p1 := p1 fp hf
    split at p1
    · rename_i ts
      obtain ⟨q1, q2, q3⟩ := q
      cases q1 with
      | @lst a vs _ fl h1 h2 h3 =>
        refine ⟨lst_ty h1, a, vs, rfl, rfl, h1, ?_⟩
        exact p1 w1 _ (Ext.put List.mem_cons_self) (m1.put h2 fun k hk z => q3 a List.mem_cons_self k hk z) .non [] (rr_d .non) fun _ z => nomatch z
    · exact p1.elim
/-! ### a held list by its name, any value appended -/
def eAppV (i : Nat) (Fv : Den) : Den := fun ρ M => match ρ[i]? with
  | some (some (.h k)) => (match M[k]? with
    | some (.lst _) => (Fv ρ M).bind fun r M1 => (match (frzM M1 r)[k]? with
      | some (.lst ts) => if ts.length + 1 ≤ 1000000 then .ok (.t (.d .non)) ((frzM M1 r).set k (.lst (ts ++ [treeT M1 r]))) else .bad
      | _ => .bad)
    | _ => .bad)
  | _ => .bad
theorem de_appV (i : Nat) (ho : PE X o (tVar i)) (hv : DE X W e Fv) (hbase : attributeBase o "append" X.env (eval o X.env) = eval o X.env := by rfl)
    (hfew : ((backTo cpos (starEach [e] X.env)).all (fun x => !x.1) && (backToKw cpos (keywordEach [] X.env)).all (fun x => x.1.isSome)
      && decide ([e].length + ([] : List Keyword).length + (if ([] : List Keyword).isEmpty then 0 else 1) < 30)) = true := by rfl)
    (hline : (apos.endLine == cpos.line) = true := by rfl) (hs : starEach [e] X.env = (false, eval e X.env) :: starEach [] X.env := by rfl) (hplain : (backTo cpos (starEach [] X.env)).any (·.1) = false := by rfl) :
    DE X W (.Call (.Attribute o "append" apos) [e] [] cpos) (eAppV i Fv) :=
  (pe_bm PySem.F.plainAttrs_list PySem.F.slot_list_append PySem.F.type_list_append mt_append ho (pa_cons hv pa_nil hs) hbase hfew hline hs hplain).mono fun σ H Q ⟨w, ρ, M, m, er, p⟩ => by
    unfold eAppV at p
    split at p
    · rename_i k hk
      obtain ⟨v, hv1, hv2, hv3⟩ := er.at_ i _ hk
      split at p
      · rename_i ts0 hts0
        obtain ⟨vs0, fk0, b1, _⟩ := open_lst m hts0
        refine ⟨v, hv1, by rw [hv3]; exact lst_ty b1, ?_⟩
        refine ⟨w, ρ, M, m, er, p.bindF.imp fun w1 H1 M1 r _ _ z => ?_⟩
        obtain ⟨e1, m1, p1⟩ := z
        intro u fp q hf
        replace p1 := p1 fp hf
        obtain ⟨w3, e3, m3, t3, nd3, dj3⟩ := treeT_ok m1 q
        split at p1
        · rename_i ts hts
          split at p1
          · rename_i hn
            have hk3 : k < (frzM M1 r).length := (List.getElem?_eq_some_iff.mp hts).1
            obtain ⟨vs, fk, g1, g2, g3, g4, g5, g6⟩ := open_lst m3 hts
            have hal : w3.α k = w.α k := (e3.al k (by rw [frzM_length] at hk3; exact hk3)).trans (e1.al k hv2)
            obtain ⟨g5a, g5b⟩ := List.nodup_cons.mp g5
            have djk : ∀ a ∈ fp, a ∉ w3.α k :: fk := fun a ha hb => dj3 a ha k hk3 (by rw [g3]; exact hb)
            have nd' : (fk ++ (fp ++ [])).Nodup := by
              rw [List.append_nil, List.nodup_append]
              exact ⟨g5b, nd3, fun a ha b hb z => djk b hb (List.mem_cons_of_mem _ (z ▸ ha))⟩
            have i3 : ∀ a ∈ fk ++ (fp ++ []), a ∈ fk ∨ a ∈ fp := fun a ha => by simpa using ha
            obtain ⟨w4, e4, m4, _, _⟩ := put_lst (fs := fp) (ts' := ts ++ [treeT M1 r]) (vs' := vs ++ [u]) m3 hts (trl_app g4 (.cons t3 .nil)) (List.nodup_cons.mpr ⟨fun z => (i3 _ z).elim g5a fun z => djk _ z List.mem_cons_self, nd'⟩)
              (fun a ha j hj hjk => (i3 a ha).elim (fun z => g6 a (List.mem_cons_of_mem _ z) j hj hjk) fun z => dj3 a z j hj)
              fun a ha => (i3 a ha).elim (fun z => .inr (.inl ⟨k, hk3, by rw [g3]; exact List.mem_cons_of_mem _ z⟩)) fun z => .inr (.inr z)
            refine ⟨w3.α k, vs, u, by rw [hv3, hal], rfl, g1, by have := big_le hn; rw [g4.length]; omega, ?_⟩
            exact p1 w4 _ ((e3.mono fun _ z => nomatch z).trans e4 fun b hb => .inr (.inr hb)) m4 .non [] (rr_d .non) fun _ z => nomatch z
          · exact p1.elim
        · exact p1.elim
      · exact p.elim
    · exact p.elim
/-! ### dicts -/
def DPs (X : Cx) (W : WX) (pos : Pos) (keys : List (Option Expr)) (values : List Expr) (ks : List Key) (A : DenA) : Prop :=
  ∃ trs, PPs X pos keys values trs ∧ ∀ σ H Q, rdA X W A σ H (fun vs H' => Q ((ks.map kV).zip vs) H') → tPairs trs σ H Q
theorem dps_nil : DPs X W pos [] [] [] eNil := ⟨[], pps_nil, fun σ H Q ⟨w, ρ, M, m, er, p⟩ => p.now m [] [] .nil fun _ z => nomatch z⟩
theorem dps_cons {key v : Expr} {keys : List (Option Expr)} {values : List Expr} {k : Key} {ks : List Key} (hk : PE X key (tC (kV k))) (hv : DE X W v Fv) (hr : DPs X W pos keys values ks A) : DPs X W pos (some key :: keys) (v :: values) (k :: ks) (eCons Fv A) := by
  obtain ⟨trs, h1, h2⟩ := hr
  refine ⟨_, pps_cons hk hv h1, fun σ H Q h => ?_⟩
  show rdE X W Fv σ H fun y H2 => tPairs trs σ H2 fun ps H3 => Q ((kV k, y) :: ps) H3
  have h := rd_cons h
  obtain ⟨w, ρ, M, m, er, p⟩ := h
  refine ⟨w, ρ, M, m, er, p.imp fun w' H' M' r _ _ z => ?_⟩
  intro v fp q hf
  exact h2 σ H' _ (z v fp q hf)
def dicT : List Key → List T → List (Key × T)
  | k :: ks, t :: ts => (k, t) :: dicT ks ts
  | _, _ => []
def eDict (ks : List Key) (A : DenA) : Den := fun ρ M => (A ρ M).bind fun rs M1 => if rs.length = ks.length ∧ ks.length ≤ 15 ∧ ks.Nodup then .ok (.t (.dic (dicT ks (treesM rs M1).1))) (treesM rs M1).2 else .bad
theorem trk_zip {F : Hp} : ∀ {ks : List Key} {vs : List V} {ts : List T} {fp : List Addr}, TRL X.K X.mg F H vs ts fp → vs.length = ks.length → TRK X.K X.mg F H (ks.zip vs) (dicT ks ts) fp
  | [], _, _, _, .nil, _ => .nil
  | k :: ks, _, _, _, .nil, e => by simp at e
  | [], _, _, _, .cons _ _, e => by simp at e
  | k :: ks, _, _, _, .cons h r, e => .cons h (trk_zip r (by simpa using e))
theorem merge_nodup : ∀ (more kvs : List (Key × V)), ((kvs ++ more).map (·.1)).Nodup → mergeK kvs more = kvs ++ more
  | [], kvs, _ => by simp [mergeK]
  | (k, v) :: r, kvs, nd => by
    have hn : (kvs.any fun kv => decide (kv.1 = k)) = false := by
      rw [List.any_eq_false]
      intro kv hkv z
      rw [List.map_append, List.nodup_append] at nd
      exact nd.2.2 kv.1 (List.mem_map_of_mem hkv) k (by simp) (by simpa using z)
    have e : putK kvs k v = kvs ++ [(k, v)] := by unfold putK; rw [hn]; rfl
    show mergeK (putK kvs k v) r = _
    rw [e, merge_nodup r (kvs ++ [(k, v)]) (by simpa using nd)]
    simp
theorem de_dict {keys : List (Option Expr)} {values : List Expr} {ks : List Key} (h : DPs X W pos keys values ks A) (hall : keys.all (·.isSome) = true := by rfl) (hl : keys.length = values.length := by rfl) (h0 : keys ≠ [] := by simp) (h15 : keys.length ≤ 15 := by decide) :
    DE X W (.Dict keys values pos) (eDict ks A) := by
  obtain ⟨trs, h1, h2⟩ := h
  refine (pe_disp h1 hall hl h0 h15).mono fun σ H Q ⟨w, ρ, M, m, er, q⟩ => ?_
  intro p hp
  refine h2 σ _ _ ?_
  have m0 := m.new (o := .dK []) hp
  have e0 : Ext [] w H M w (upd H p (.dK [])) M := Ext.new m hp
  have np : w.F p = none := by
    cases z : w.F p with
    | none => rfl
    | some o => rw [m.sub p o z] at hp; cases hp
  have npφ : ∀ k, k < M.length → p ∉ w.φ k := fun k hk z => by
    obtain ⟨x, hx⟩ : ∃ x, M[k]? = some x := ⟨M[k], List.getElem?_eq_getElem hk⟩
    obtain ⟨_, o, e⟩ := (m.obj k x hx).1.fp _ z
    rw [e] at hp; cases hp
  refine ⟨w, ρ, M, m0, er.stay e0, (Post.from q.bindF e0 (gs := []) fun _ z => nomatch z).imp fun w1 H1 M1 rs e1 m1 z => ?_⟩
  obtain ⟨e01, _, p1⟩ := z
  intro vs fp q hf
  have keepP : ∀ a, a = p → ¬ Pm [] w (upd H p (.dK [])) M a := fun a ha z => by
    subst ha
    rcases z with z | ⟨j, hj, z⟩ | z
    · rw [upd_same] at z; cases z
    · exact npφ j hj z
    · cases z
  have hp1 : H1 p = some (.dK []) := e1.keep p _ upd_same (keepP p rfl)
  have nF1 : w1.F p = none := by
    cases z : w1.F p with
    | none => rfl
    | some u =>
      rcases e1.gr p (by rw [z]; exact fun z => nomatch z) with z | z
      · exact absurd np z
      · exact absurd z (keepP p rfl)
  have nφ1 : ∀ k, k < M1.length → p ∉ w1.φ k := fun k hk z => keepP p rfl (e1.ph k hk p z)
  have nfp : p ∉ fp := fun z => keepP p rfl (hf p z)
  replace p1 := p1 (p :: fp) fun a ha => by
    rcases List.mem_cons.mp ha with rfl | ha
    · exact .inl hp
    · exact e0.pm (gs := []) (fun _ z => nomatch z) (hf a ha)
  split at p1
  · rename_i hh
    obtain ⟨hlen, h15', hnd⟩ := hh
    obtain ⟨w2, e2, m2, q2, nd2, na2⟩ := trees_ok m1 q
    have hvs : vs.length = ks.length := by rw [q.length]; exact hlen
    have nF2 : w2.F p = none := by
      cases z : w2.F p with
      | none => rfl
      | some u =>
        rcases e2.gr p (by rw [z]; exact fun z => nomatch z) with z | ⟨z⟩ | ⟨j, hj, z⟩ | z
        · exact absurd nF1 z
        · rw [hp1] at z; cases z
        · exact absurd z (nφ1 j hj)
        · cases z
    have nφ2 : ∀ k, k < (treesM rs M1).2.length → p ∉ w2.φ k := fun k hk z => by
      rcases e2.ph k hk p z with z | ⟨j, hj, z⟩ | z
      · rw [hp1] at z; cases z
      · exact nφ1 j hj z
      · cases z
    refine ⟨hp1, ks.zip vs, ?_, by rw [List.length_zip, hvs]; omega, ?_⟩
    · have zz : ∀ (ks : List Key) (vs : List V), (ks.map kV).zip vs = (ks.zip vs).map fun kv => (kV kv.1, kv.2) := by
        intro ks
        induction ks with
        | nil => intro vs; rfl
        | cons k ks ih =>
          intro vs
          cases vs with
          | nil => rfl
          | cons v vs => rw [List.map_cons, List.zip_cons_cons, List.zip_cons_cons, List.map_cons, ih]
      exact zz ks vs
    · rw [merge_nodup _ [] (by rw [List.nil_append, List.map_fst_zip (by omega)]; exact hnd), List.nil_append]
      have q3 : TR X.K X.mg w2.F (upd H1 p (.dK (ks.zip vs))) (.ref p) (.dic (dicT ks (treesM rs M1).1)) (p :: fp) := .dic upd_same nF2 (trk_zip (q2.stay (Same.refl _) fun a ha => ⟨(q2.fp a ha).1, fun o ho => by rw [upd_ne (show a ≠ p from fun z => nfp (z ▸ ha))]; exact ho⟩) hvs)
      refine p1 w2 _ ((e2.mono fun _ z => nomatch z).trans (Ext.put (fs := [p]) (by simp)) fun a ha => .inr (.inr (by simp at ha; simp [ha]))) (m2.put nF2 nφ2) (.ref p) (p :: fp) ⟨q3, List.nodup_cons.mpr ⟨nfp, nd2⟩, fun a ha k hk z => ?_⟩ fun a ha => ?_
      · rcases List.mem_cons.mp ha with rfl | ha
        · exact nφ2 k hk z
        · exact na2 a ha k hk z
      · rcases List.mem_cons.mp ha with rfl | ha
        · exact .inl hp
        · exact e0.pm (gs := []) (fun _ z => nomatch z) (hf a ha)
  · exact p1.elim
def keyD : D → Option Key
  | .int i => some (.inl i)
  | .str x => some (.inr x)
  | _ => none
def lookK : List (Key × D) → Key → Option D
  | [], _ => none
  | (k', d) :: r, k => if k' = k then some d else lookK r k
def dgetR : R → R → Mst → Out R := fun r1 r2 M => match frzR M r1, keyD (frzR M r2) with
  | .dic kvs, some k => (match lookK kvs k with
    | some d => .ok (.t (.d d)) (frzM M r1)
    | none => .bad)
  | _, _ => .bad
theorem DpK.get {F : Hp} : ∀ {vs : List (Key × V)} {xs : List (Key × D)} {k : Key} {x : D}, DpK X.K X.mg F vs xs → lookK xs k = some x → ∃ v, valV vs k = some v ∧ Dp X.K X.mg F v x
  | _, _, _, _, .nil, e => by cases e
  | _, _, k, x, .cons (f := g) h r, e => by
    unfold lookK at e
    split at e
    · rename_i z
      cases e
      exact ⟨_, valV_pos z, h⟩
    · rename_i z
      obtain ⟨v, h1, h2⟩ := DpK.get r e
      exact ⟨v, by rw [valV_neg z]; exact h1, h2⟩
theorem key_at {F : Hp} {v : V} {d : D} {k : Key} (h : Dp X.K X.mg F v d) (e : keyD d = some k) : v = kV k := by
  cases h <;> cases e <;> rfl
theorem op2_dget : Op2 X dgetR (fun x y H Q => ∃ a v, x = .ref a ∧ DGet H a y (some v) ∧ Q v H) := by
  intro W σ w H M x y r1 r2 f1 f2 Q m q1 q2 _ p
  have s2 := seen m q2
  obtain ⟨w', e', m', d', _⟩ := settle m q1
  unfold dgetR at p
  split at p
  · rename_i kvs k h1 hk
    split at p
    · rename_i d hd
      rw [h1] at d'
      cases d' with
      | dic g1 g2 =>
        obtain ⟨v, e1, e2⟩ := g2.get hd
        rw [key_at s2 hk]
        refine ⟨_, v, rfl, ?_, p w' H (e'.mono fun a ha => List.mem_append_left _ ha) m' v [] (rr_d e2) fun _ z => nomatch z⟩
        have := DGet.k (H := H) (k := k) (m'.sub _ _ g1)
        rw [e1] at this
        exact this
    · exact p.elim
  · exact p.elim
theorem de_dget (hu : X.A.units + 1 < cLine) (ha : DE X W e Fa) (hb : DE X W i Fb) (hs : NoSl i := by exact fun _ _ => rfl) : DE X W (.Subscript e i pos) (eSeq2 dgetR Fa Fb) :=
  (pe_dget hu ha hb hs).mono fun _ _ _ h => rd_op op2_dget h
end
end DL

/-! DL21: enumerate of a tuple -/
namespace DL
open PySem L2 PySem.Spec PyProof.Rows
theorem meets_enumT {v : Value} {o : Obj} {H : Heap → Prop} (B : Begins v o H) :
    Meets (Builtin.«enumerate.__new__» ⟨[.type "enumerate", v], []⟩) (fun _ R s => H s.heap ∧
      R (.ok (.ret (.ref (s.heap.push o).objs.size))) { s with heap := (s.heap.push o).push { cls := .type "enumerate", data := .fields #[.none, .bool false, .ref s.heap.objs.size, rawInt 0, .none, .none] } }) :=
  .of_wp fun prog w A R s h => by
    obtain ⟨hp, g, d, tk, os⟩ := s; obtain ⟨h1, h⟩ := h
    have hsub := sub_enumerate
    have q1 : ∀ {A' : Around} {E : Value → Shared → Prop} {Q : Value → Shared → Prop}, Q (.ref hp.objs.size) ⟨hp.push o, g, d, tk, os⟩ → wpAny (model prog w) A' (pyIter v) Q E ⟨hp, g, d, tk, os⟩ :=
      fun q => B.iter prog w _ _ ⟨hp, g, d, tk, os⟩ _ h1 q
    wp_walk using q1
    refine wpAny_stack_any fun st => wpAny_pure ?_
    split
    · rename_i c _ _ _ _ _
      cases (c == Value.type "enumerate")
      · wp_walk using q1
        exact ⟨_, rfl, h⟩
      · wp_walk using q1
        exact ⟨_, rfl, h⟩
    · wp_walk using q1
      exact ⟨_, rfl, h⟩
theorem enum_beginsT {prog : Program} {w : World} {A : Around} {E : Value → Shared → Prop} {s : Shared} {v : Value} {o : Obj} {H : Heap → Prop} {Q : Value → Shared → Prop} (B : Begins v o H) (h1 : H s.heap)
    (h : ∀ h', IsEnum h' (s.heap.objs.size + 1) s.heap.objs.size 0 .none → h'.get? s.heap.objs.size = some o → h'.objs.size = s.heap.objs.size + 2 →
      (∀ b o, s.heap.get? b = some o → h'.get? b = some o) → Q (.ref (s.heap.objs.size + 1)) { s with heap := h' }) :
    wpAny (model prog w) A (call (.type "enumerate") [v]) Q E s := by
  refine callType_new F.called_enumerate (by decide) (F.typeCall_enumerate_1 _) (F.newCall_enumerate_1 _) (fun obj => F.args_object_init_2 obj _) F.entry_enumerate_new
    (meets_enumT B) ⟨h1, ?_⟩
  have hz : (s.heap.push o).objs.size = s.heap.objs.size + 1 := Heap.size_push ..
  show _ ∧ _
  rw [hz]
  have he : IsEnum ((s.heap.push o).push { cls := .type "enumerate", data := .fields #[.none, .bool false, .ref s.heap.objs.size, rawInt 0, .none, .none] }) (s.heap.objs.size + 1) s.heap.objs.size 0 .none := by
    have := Heap.get?_push_size (s.heap.push o) (o := { cls := .type "enumerate", data := .fields #[.none, .bool false, .ref s.heap.objs.size, rawInt 0, .none, .none] }) rfl
    rw [hz] at this; exact this
  refine ⟨⟨_, he, rfl⟩, h _ he (Heap.get?_push_of_some _ (Heap.get?_push_size _ B.free)) (by rw [Heap.size_push, hz]) fun b o x => Heap.get?_push_of_some _ (Heap.get?_push_of_some _ x)⟩
theorem draws_tuple {prog : Program} {w : World} {A : Around} (hh : A.handled = none) (it l : Addr) (hne : l ≠ it) (items : Array Value) :
    Draws prog w A it [it, l] items.size (fun i v => items[i]? = some v) (fun i h => h.IsTupleIter it l i ∧ h.IsTuple l items) where
  live := fun _ _ st => let ⟨o, ho, _⟩ := st.1; ⟨o, ho⟩
  frame := fun _ _ _ st hk => ⟨st.1.at fun o e => hk it (by simp) o e, st.2.at fun o e => hk l (by simp) o e⟩
  item := fun i s Q E hi st hQ => by
    refine RZ.nextOf_tuple_item st.1 st.2 (x := items[i]) (by simp [hi]) fun h' hit' hs' => ?_
    exact hQ _ h' s.toks (by simp [hi]) ⟨hit', st.2.extBut hs'.extBut hne⟩ hs'
  done := fun s Q E st hE => RZ.nextOf_tuple_end hh st.1 st.2 (by simp) hE
/-- the tuple at a, each item in a new pair -/
def Itet (K : PySem.W.Frag) (a : Addr) : It :=
  ⟨fun i H => ∃ (xs : List V) (x : V), SqT K H a xs ∧ xs[i]? = some x, fun i H v H' => ∃ T x, v = .ref T ∧ H T = none ∧ H' = upd H T (.tup [.int (i : Nat), x]) ∧ ∀ xs, SqT K H a xs → xs[i]? = some x, fun i H => ∃ xs : List V, SqT K H a xs ∧ xs.length ≤ i⟩
theorem turn_enumT {P : Program} {w : World} {K : PySem.W.Frag} {elts : List Expr} {kk : Nat} {tpos : Pos} (a e it : Addr) (hae : a ≠ e) (hai : a ≠ it) :
    Turn P w K (.Tuple elts kk tpos) (Itet K a) [e, it] e (fun i h => (∃ old, IsEnum h e it ((i : Nat) : Int) old) ∧ h.IsTupleIter it a i ∧ e ≠ it) where
  mem := by simp
  obj := fun i h st b hb => by
    obtain ⟨⟨old, he⟩, ⟨o, ho, hc, hd⟩, _⟩ := st
    have e' : b = e ∨ b = it := by simpa using hb
    rcases e' with z | z
    · rw [z]; exact ⟨_, he, fun v q => nomatch q⟩
    · rw [z]; exact ⟨o, ho, fun v q => by rw [hd] at q; cases q⟩
  keep := fun i h h' st k => let ⟨⟨old, he⟩, hi, hne⟩ := st; ⟨⟨old, k e (by simp) _ he⟩, hi.at fun o q => k it (by simp) o q, hne⟩
  item := by
    intro X hP hw hK hc i pins s σ H E I hf st hg
    subst hP hw hK
    obtain ⟨⟨old, he⟩, hit, hne⟩ := st
    obtain ⟨xs, x, hq, hx⟩ := hg
    obtain ⟨its, rv, p, hz⟩ := I.tuple hq
    obtain ⟨u, hu, ru⟩ := rv.get hx
    have hil' : i < its.toArray.size := by simp; exact (List.getElem?_eq_some_iff.mp hu).1
    have hel : e < s.heap.objs.size := Heap.lt_size he
    have hil : it < s.heap.objs.size := by obtain ⟨_, q, _⟩ := hit; exact Heap.lt_size q
    have hh : X.A.in1.handled = none := I.ok.hd hc
    refine wpAny_pyNext_enum_itemD (draws_tuple hh it a hai its.toArray) he ⟨hit, show s.heap.IsTuple a its.toArray from p⟩ hil' hne (by simp [hne, hae.symm]) fun x' h' tk hP' ho hst' hT hsz hk => ?_
    obtain rfl : x' = u := by
      have : its[i]? = some x' := by simpa using hP'
      rw [hu] at this; exact (Option.some.inj this).symm
    refine ⟨_, rfl, wpAny_letOwnedTupleGo_enum (s := { s with heap := h', toks := tk + 1 }) ho fun h'' he' sb => ?_⟩
    have hT2 : h''.get? s.heap.objs.size = some { cls := .type "tuple", data := .seq #[.int i tk, x'] } := (sb.2 _ (Nat.ne_of_gt hel)).trans hT
    have new : ObjOk X.prog X.w (upd H s.heap.objs.size (.tup [.int (i : Nat), x])) h'' s.heap.objs.size (.tup [.int (i : Nat), x]) :=
      ⟨by show 2 ≤ sizeLine; decide, [.int i tk, x'], .cons ⟨_, rfl⟩ (.cons ru .nil), ⟨_, hT2, rfl, _, rfl⟩⟩
    have I1 : Inv X pins σ (upd H s.heap.objs.size (.tup [.int (i : Nat), x])) { s with heap := h'', toks := tk + 1 } :=
      I.turnedNew (ch := [e, it]) (fun b ob hb q => (sb.2 b (fun z => hb (by simp [z]))).trans (hk b ob (fun z => hb (by simp [z])) (fun z => hb (by simp [z])) q)) hf (Nat.le_refl _) new
    refine ⟨.ref s.heap.objs.size, _, I1, rfl, ⟨_, x, rfl, I.hok.fresh (Nat.le_refl _), rfl, fun ys hy => by rw [I.tuple_inj hy hq]; exact hx⟩, ⟨⟨x', ?_⟩, hst'.1.at fun o q => (sb.2 it (Ne.symm hne)).trans q, hne⟩, fun b hb => ?_⟩
    · have e1 : ((i + 1 : Nat) : Int) = (i : Int) + 1 := by omega
      rw [e1]; exact he'
    · have hb' : b < s.heap.objs.size := by
        have e' : b = e ∨ b = it := by simpa using hb
        rcases e' with z | z
        · rw [z]; exact hel
        · rw [z]; exact hil
      rw [upd_ne (Nat.ne_of_lt hb')]
      exact (hf b hb).1
  done := by
    intro X hP hw hK hc i pins s σ H E I hf st hg
    subst hP hw hK
    obtain ⟨⟨old, he⟩, hit, hne⟩ := st
    obtain ⟨xs, hq, hx⟩ := hg
    obtain ⟨its, rv, p, hz⟩ := I.tuple hq
    obtain ⟨f0, f1, f2, f3, f4, f5⟩ := hf it (by simp)
    have hl := rv.length
    have hh : X.A.in1.handled = none := I.ok.hd hc
    have hitN : s.heap.IsTupleIter it a its.toArray.size ∨ its.toArray.size < i := by
      by_cases z : i = its.toArray.size
      · exact .inl (z ▸ hit)
      · exact .inr (by simp at z ⊢; omega)
    unfold pyNext
    have hTy : s.TypeIs (.ref e) "enumerate" := ⟨_, he, rfl⟩
    refine wpAny_bind (wpAny_attempt (wpAny_callSpecial?_slot (name := Str.ofString "__next__") hTy F.slot_enumerate_next
      (wpAny_call_entry F.slot_enumerate_next hTy F.entry_enumerate_next ?_ (F.args_enumerate_next_1 _))))
    show wpAny _ _ (field (.ref e) 2 >>= _) _ _ _
    refine wpAny_bind (wpAny_field he rfl (x := .ref it) rfl ?_)
    refine wpAny_bind (RZ.nextOf_tuple_end hh hit (show s.heap.IsTuple a its.toArray from p) (by simp; omega) fun h' x he' hx' => ?_)
    obtain ⟨o, ho, hcl⟩ := hx'
    refine wpAny_bind (wpAny_isInstance (T := "StopIteration") (b := true) ⟨o, ho, hcl⟩ isSubtype_stop ?_)
    exact wpAny_pure ⟨rfl, I.turned (t' := s.toks) (fun b o hb q => he' b o hb q) f0 f1 f3 f4 f5⟩
  self := fun A i s Q E st h => let ⟨⟨_, he⟩, _⟩ := st; wpAny_pyIter_enum he h
def iEnumTup (K : PySem.W.Frag) (ta : TA) : TI := fun σ H R => ta σ H fun vs H1 => ∃ a xs, vs = [.ref a] ∧ SqT K H1 a xs ∧ R (Itet K a) H1
theorem pi_enumT {X : Cx} {e : Expr} {ta : TA} {p pos tpos : Pos} {elts : List Expr} {kk : Nat} (hg : Gl X "enumerate") (hm : X.mg "enumerate" = none) (ha : PA X [e] ta) (hs : starEach [e] X.env = [(false, eval e X.env)] := by rfl) :
    PI X (.Tuple elts kk tpos) (.Call (.Name "enumerate" p) [e] [] pos) (iEnumTup X.K ta) := by
  refine ⟨fun pins s σ H R I h => ?_⟩
  refine Call_ (ld_blt I hg hm boot_enumerate (PyProof.Rows.callWith_type1 (thn (ha.run pos pins s σ H _ I h) fun us s1 ⟨vs, H1, I1, r1, q1⟩ => ?_) hs rfl))
  obtain ⟨a, xs, ex, hq, q⟩ := q1
  subst ex
  cases r1 with
  | cons r rr =>
    cases rr
    cases r
    obtain ⟨its, rv, p', hz⟩ := I1.tuple hq
    have hal : a < s1.heap.objs.size := by obtain ⟨_, e, _⟩ := p'; exact Heap.lt_size e
    refine enum_beginsT (begins_tuple a its.toArray) (show s1.heap.IsTuple a its.toArray from p') fun h' he hit hsz hk => wpAny_pyIter_enum he ?_
    have I2 : Inv X pins σ H1 { s1 with heap := h' } := I1.kept (t' := s1.toks) hk
    refine ⟨s1.heap.objs.size + 1, [s1.heap.objs.size + 1, s1.heap.objs.size], _, _, H1, rfl, I2, turn_enumT a (s1.heap.objs.size + 1) s1.heap.objs.size (Nat.ne_of_lt (Nat.lt_succ_of_lt hal)) (Nat.ne_of_lt hal), ⟨⟨.none, he⟩, ⟨_, hit, rfl, rfl⟩, Nat.succ_ne_self _⟩, fun b hb => ?_, q⟩
    have e' : b = s1.heap.objs.size + 1 ∨ b = s1.heap.objs.size := by simpa using hb
    have hle : s1.heap.objs.size ≤ b := by
      rcases e' with z | z
      · rw [z]; exact Nat.le_add_right _ _
      · rw [z]; exact Nat.le_refl _
    exact I1.fpOk hle (I1.hok.fresh hle)
end DL

/-! DL22: enumerate of a list or a tuple -/
namespace DL
open PySem L2 PySem.Spec PyProof.Rows
section
variable {X : Cx} {W : WX} {σ : L2.St} {e : Expr} {p pos tpos : Pos}
theorem ItOk.enumT {F1 : Hp} {a : Addr} {vs : List V} {ds : List D} (h : SqT X.K F1 a vs) (l : DpL X.K X.mg F1 vs ds) : ItOk X.K X.mg F1 (Itet X.K a) (enumD ds) where
  go := fun i w H M d m sF hd => by
    unfold enumD at hd
    rw [List.getElem?_zipWith] at hd
    cases z : ds[i]? with
    | none => rw [z] at hd; split at hd <;> simp_all
    | some d' =>
      have hi : i < ds.length := (List.getElem?_eq_some_iff.mp z).1
      rw [z, List.getElem?_eq_getElem (by simpa using hi)] at hd
      simp at hd
      subst hd
      obtain ⟨v, h1, h2⟩ := l.get z
      have hq : SqT X.K H a vs := Same.seqT (sF.trans m.sub) h
      exact ⟨⟨vs, v, hq, h1⟩, fun x H' ⟨T, y, ex, hT, eH, k⟩ => by
        subst ex eH
        have := k vs hq
        rw [h1] at this
        cases this
        exact new_tup m hT (.cons (.int _) (.cons (h2.mono sF) .nil))⟩
  stop := fun i w H M m sF hi => ⟨vs, Same.seqT (sF.trans m.sub) h, by rw [l.length]; simpa [enumD] using hi⟩
def iEnumS (A : DenA) : DenI := fun ρ M => (A ρ M).bind fun rs M1 => match frzRs rs M1 with
  | [.lst ds] => .ok (enumD ds) (frzMs rs M1)
  | [.tupP _ ds] => .ok (enumD ds) (frzMs rs M1)
  | _ => .bad
def iEnumA (K : PySem.W.Frag) (ta : TA) : TI := fun σ H R => ta σ H fun vs H1 => ∃ a xs, vs = [.ref a] ∧ ((SqL K H1 a xs ∧ R (Ite K a) H1) ∨ (SqT K H1 a xs ∧ R (Itet K a) H1))
theorem pi_enumA {elts : List Expr} {kk : Nat} {ta : TA} (hg : Gl X "enumerate") (hm : X.mg "enumerate" = none) (ha : PA X [e] ta) (hs : starEach [e] X.env = [(false, eval e X.env)] := by rfl) :
    PI X (.Tuple elts kk tpos) (.Call (.Name "enumerate" p) [e] [] pos) (iEnumA X.K ta) := by
  refine ⟨fun pins s σ H R I h => ?_⟩
  refine Call_ (ld_blt I hg hm boot_enumerate (PyProof.Rows.callWith_type1 (thn (ha.run pos pins s σ H _ I h) fun us s1 ⟨vs, H1, I1, r1, q1⟩ => ?_) hs rfl))
  obtain ⟨a, xs, ex, q⟩ := q1
  subst ex
  cases r1 with
  | cons r rr =>
    cases rr
    cases r
    rcases q with ⟨hq, q⟩ | ⟨hq, q⟩
    · obtain ⟨its, rv, p', hz⟩ := I1.list hq
      refine call_enumerate_list p'.isList fun h' he hit hsz hk => wpAny_pyIter_enum he ?_
      have I2 : Inv X pins σ H1 { s1 with heap := h' } := I1.kept (t' := s1.toks) hk
      refine ⟨s1.heap.objs.size + 1, [s1.heap.objs.size + 1, s1.heap.objs.size], _, _, H1, rfl, I2, turn_enum a (s1.heap.objs.size + 1) s1.heap.objs.size, ⟨⟨.none, he⟩, hit, Nat.succ_ne_self _⟩, fun b hb => ?_, q⟩
      have e' : b = s1.heap.objs.size + 1 ∨ b = s1.heap.objs.size := by simpa using hb
      have hle : s1.heap.objs.size ≤ b := by
        rcases e' with z | z
        · rw [z]; exact Nat.le_add_right _ _
        · rw [z]; exact Nat.le_refl _
      exact I1.fpOk hle (I1.hok.fresh hle)
    · obtain ⟨its, rv, p', hz⟩ := I1.tuple hq
      have hal : a < s1.heap.objs.size := by obtain ⟨_, e, _⟩ := p'; exact Heap.lt_size e
      refine enum_beginsT (begins_tuple a its.toArray) (show s1.heap.IsTuple a its.toArray from p') fun h' he hit hsz hk => wpAny_pyIter_enum he ?_
      have I2 : Inv X pins σ H1 { s1 with heap := h' } := I1.kept (t' := s1.toks) hk
      refine ⟨s1.heap.objs.size + 1, [s1.heap.objs.size + 1, s1.heap.objs.size], _, _, H1, rfl, I2, turn_enumT a (s1.heap.objs.size + 1) s1.heap.objs.size (Nat.ne_of_lt (Nat.lt_succ_of_lt hal)) (Nat.ne_of_lt hal), ⟨⟨.none, he⟩, ⟨_, hit, rfl, rfl⟩, Nat.succ_ne_self _⟩, fun b hb => ?_, q⟩
      have e' : b = s1.heap.objs.size + 1 ∨ b = s1.heap.objs.size := by simpa using hb
      have hle : s1.heap.objs.size ≤ b := by
        rcases e' with z | z
        · rw [z]; exact Nat.le_add_right _ _
        · rw [z]; exact Nat.le_refl _
      exact I1.fpOk hle (I1.hok.fresh hle)
theorem di_enumS {elts : List Expr} {kk : Nat} {A : DenA} (hg : Gl X "enumerate") (hm : X.mg "enumerate" = none) (ha : DA X W [e] A) (hs : starEach [e] X.env = [(false, eval e X.env)] := by rfl) :
    DI X W (.Tuple elts kk tpos) (.Call (.Name "enumerate" p) [e] [] pos) (iEnumS A) := (pi_enumA hg hm ha hs).mono fun σ H R h => by
  obtain ⟨w, ρ, M, m, er, p⟩ := h
  refine ⟨w, ρ, M, m, er, p.bindF.imp fun w1 H1 M1 rs _ _ z => ?_⟩
  obtain ⟨e1, m1, p1⟩ := z
  intro vs fp q hf
  replace p1 := p1 fp hf
  obtain ⟨w2, e2, m2, d⟩ := settleAll m1 q
  split at p1
  · rename_i ds hd
    rw [hd] at d
    cases d with
    | cons d1 d2 =>
      cases d2
      cases d1 with
      | lst h l => exact ⟨_, _, rfl, .inl ⟨SqL.of (m2.sub _ _ h), p1 w2 H1 e2 m2 _ (ItOk.enum (SqL.of h) l)⟩⟩
  · rename_i ds hd
    rw [hd] at d
    cases d with
    | cons d1 d2 =>
      cases d2
      cases d1 with
      | tupP h l => exact ⟨_, _, rfl, .inr ⟨Same.seqT m2.sub h.1, p1 w2 H1 e2 m2 _ (ItOk.enumT h.1 l)⟩⟩
  · exact p1.elim
end
theorem FldOk.nil {K : PySem.W.Frag} {mg : Mg} {f : Str} : FldOk K mg [] f := ⟨fun _ z => nomatch z⟩
theorem FldOk.cons {K : PySem.W.Frag} {mg : Mg} {f c : Str} {cs : List Str} {C : Addr} (hC : mg c = some (.ref C)) (cl : Cls K C) (na : NoAttr K C f) (h : FldOk K mg cs f) : FldOk K mg (c :: cs) f := ⟨fun c' hc C' hC' => by
  rcases List.mem_cons.mp hc with rfl | hc
  · rw [hC] at hC'; cases hC'; exact ⟨cl, na⟩
  · exact h.ok c' hc C' hC'⟩
end DL

/-! DL23: what stands at a place, looked at -/
namespace DL
open PySem L2 PySem.Spec PyProof.Rows
/-- a thing as it is worth now: nothing is done -/
def rdSn (X : Cx) (F : DenV) : TE := fun σ H Q => ∃ w ρ M, MR X.K X.mg w H M ∧ ER X.K X.mg w M σ ρ ∧ ∃ d, F ρ M = some d ∧ ∀ v, Dp X.K X.mg H v d → Q v H
def DSn (X : Cx) (e : Expr) (F : DenV) : Prop := PE X e (rdSn X F)
section
variable {X : Cx} {W : WX} {σ : L2.St} {fs gs : List Addr} {w w2 : Wd} {H H2 : Hp} {M M2 : Mst}
variable {e o i : Expr} {es : List Expr} {Fe Fv Fa Fb : Den} {Fo : DenP} {Fi : DenV} {A : DenA} {pos p apos cpos : Pos} {x m f : Str} {k : Nat} {cs : List Str}
def snP (Fo : DenP) : DenV := fun ρ M => match Fo ρ M with
  | some l => (atL M l).map frz
  | none => none
theorem dsn_place (ho : DP X o Fo) : DSn X o (snP Fo) := ho.mono fun σ H Q ⟨w, ρ, M, m, er, d, hd, k⟩ => by
  unfold snP at hd
  split at hd
  · rename_i l hl
    refine ⟨w, ρ, M, m, er, l, hl, fun v s hs hv => ?_⟩
    rw [hs] at hd
    cases hd
    obtain ⟨t, v', fs, _, h2, h3, _⟩ := atL_at m hs
    rw [hv] at h2
    cases h2
    exact k v (h3.seen m.sub fun a _ o ho => ho)
  · cases hd
def eFlat (F : DenV) : Den := fun ρ M => match F ρ M with
  | some d => if flatD d = true then .ok (.t (.d d)) M else .bad
  | none => .bad
theorem flat_any {F F' : Hp} {v : V} {d : D} (h : Dp X.K X.mg F v d) (hf : flatD d = true) : Dp X.K X.mg F' v d := by
  cases h with
  | non => exact .non
  | bl b => exact .bl b
  | int i => exact .int i
  | str x => exact .str x
  | lst _ _ => cases hf
  | tupP _ _ => cases hf
  | ins _ _ _ => cases hf
  | glo _ => cases hf
  | ty _ => cases hf
  | dic _ _ => cases hf
  | ro _ _ => cases hf
  | junk _ => cases hf
  | exn _ _ _ _ => cases hf
theorem de_flat (h : DSn X e Fi) : DE X W e (eFlat Fi) := h.mono fun σ H Q ⟨w, ρ, M, m, er, p⟩ => by
  unfold eFlat at p
  split at p
  · rename_i d hd
    split at p
    · rename_i hf
      exact ⟨w, ρ, M, m, er, d, hd, fun v hv => (p.now m) v [] (rr_d (flat_any hv hf)) fun _ z => nomatch z⟩
    · exact p.elim
  · exact p.elim
/-- len(o) of a place -/
def eLenS (F : DenV) : Den := fun ρ M => match F ρ M with
  | some d => (match lenD [d] with
    | some n => (match d with
      | .lst _ => .ok (.t (.d n)) M
      | .tupP _ _ => .ok (.t (.d n)) M
      | _ => .bad)
    | none => .bad)
  | none => .bad
theorem de_lenS (h : DSn X e Fi) (hg : Gl X "len") (hm : X.mg "len" = none) (he : starEach [e] X.env = (false, eval e X.env) :: starEach [] X.env := by rfl) (hpl : (backTo pos (starEach [] X.env)).any (·.1) = false := by rfl) :
    DE X W (.Call (.Name "len" p) [e] [] pos) (eLenS Fi) :=
  (pe_callB call_len hg hm PySem.boot_len (pa_cons h pa_nil he) (by decide) (by decide) he hpl).mono fun σ H Q ⟨w, ρ, M, m, er, q⟩ => by
    unfold eLenS at q
    split at q
    · rename_i d hd
      split at q
      · rename_i n hn
        refine ⟨w, ρ, M, m, er, d, hd, fun v hv => ?_⟩
        split at q
        · cases hv with
          | lst h l => cases hn; exact ⟨_, _, rfl, .inl ⟨_, SqL.of h, l.length.symm⟩, (q.now m) _ [] (rr_d (.int _)) fun _ z => nomatch z⟩
        · cases hv with
          | tupP h l => cases hn; exact ⟨_, _, rfl, .inr ⟨_, h.1, l.length.symm⟩, (q.now m) _ [] (rr_d (.int _)) fun _ z => nomatch z⟩
        · exact q.elim
      · exact q.elim
    · exact q.elim
end
end DL

/-! DL24: an expression that only looks (its answer is plain); a local handed away; places within tuples -/
namespace DL
open PySem L2 PySem.Spec PyProof.Rows
section
variable {X : Cx} {W : WX} {σ : L2.St} {fs gs : List Addr} {w w2 : Wd} {H H2 : Hp} {M M2 : Mst}
variable {e o i : Expr} {es : List Expr} {Fe Fv : Den} {Fo : DenP} {Fi : DenV} {A : DenA} {pos p apos : Pos} {x m f : Str} {k : Nat} {cs : List Str}
/-- the environment as it may be looked at -/
def fzS (M : Mst) : Option SV → Option SV
  | some (.h k) => some (.d (frz (M.getD k (.d .non))))
  | some (.c _ _) => none
  | o => o
def ePure (Fe : Den) : Den := fun ρ M => match Fe (ρ.map (fzS M)) [] with
  | .ok (.t (.d d)) _ => if flatD d = true then .ok (.t (.d d)) M else .bad
  | _ => .bad
/-- nobody may change anything: all is frozen -/
def w00 (H : Hp) : Wd := ⟨H, fun _ => default, fun _ => []⟩
theorem mr00 : MR X.K X.mg (w00 H) H [] := ⟨Same.refl _, fun k t e => by simp at e, fun j k a hj => by simp at hj⟩
theorem er00 {ρ : Ev} (m : MR X.K X.mg w H M) (er : ER X.K X.mg w M σ ρ) : ER X.K X.mg (w00 H) [] σ (ρ.map (fzS M)) := ⟨by rw [er.len, List.length_map], fun j x e => by
  rw [List.getElem?_map] at e
  cases z : ρ[j]? with
  | none => rw [z] at e; cases e
  | some y =>
    rw [z] at e
    cases y with
    | none => cases e
    | some y =>
      obtain ⟨v, h1, h2⟩ := er.at_ j y z
      refine ⟨v, h1, ?_⟩
      cases y with
      | d d => cases e; exact Dp.mono m.sub h2
      | h k => cases e; exact seen m (r := .h k) ⟨h2.1, h2.2, rfl⟩
      | c k ls => cases e⟩
theorem ext00 {w' : Wd} {H' : Hp} {M' : Mst} (m : MR X.K X.mg w H M) (e1 : Ext [] (w00 H) H [] w' H' M') (m1 : MR X.K X.mg w' H' M') : Ext [] w H M w H' M ∧ MR X.K X.mg w H' M := by
  have hs : Same H H' := fun a o h => m1.sub a o (e1.F a o h)
  refine ⟨⟨Same.refl _, Nat.le_refl _, fun _ _ => rfl, fun a o h _ => hs a o h, fun k hk a ha => .inr (.inl ⟨k, hk, ha⟩), fun _ h => .inl h, fun a h => ?_⟩, ⟨m.sub.trans hs, fun k t e => ?_, m.dis⟩⟩
  · cases z : H a with
    | none => rfl
    | some o => rw [hs a o z] at h; cases h
  · obtain ⟨q1, q2⟩ := m.obj k t e
    exact ⟨q1.stay (Same.refl _) fun a ha => ⟨(q1.fp a ha).1, fun o ho => hs a o ho⟩, q2⟩
theorem de_pure (h : DE X W e Fe) : DE X W e (ePure Fe) := h.mono fun σ H Q ⟨w, ρ, M, m, er, p⟩ => by
  unfold ePure at p
  split at p
  · rename_i d M1 hd
    split at p
    · rename_i hf
      refine ⟨w00 H, _, [], mr00, er00 m er, ?_⟩
      rw [hd]
      intro w' H' e1 m1 v fp q hp
      obtain ⟨e2, m2⟩ := ext00 m e1 m1
      obtain ⟨q1, _⟩ := q
      cases q1 with
      | d q1 => exact p w H' e2 m2 v [] (rr_d (flat_any q1 hf)) fun _ z => nomatch z
    · exact p.elim
  · exact p.elim
/-- a local, handed away -/
def eMove (i : Nat) : Den := fun ρ M => match ρ[i]? with
  | some (some (.h k)) => (match M[k]? with
    | some t => .ok (.t t) (M.set k (.d .junk))
    | none => .bad)
  | some (some (.d x)) => .ok (.t (.d x)) M
  | _ => .bad
theorem de_move (i : Nat) (h : PE X e (tVar i)) : DE X W e (eMove i) := h.mono fun σ H Q ⟨w, ρ, M, m, er, p⟩ => by
  unfold eMove at p
  split at p
  · rename_i k hk
    obtain ⟨v, h1, h2⟩ := er.at_ i _ hk
    split at p
    · rename_i t ht
      obtain ⟨q1, q2⟩ := m.obj k t ht
      have hkl : k < M.length := h2.1
      have sub : ∀ j, ∀ a ∈ (if j = k then ([] : List Addr) else w.φ j), j ≠ k ∧ a ∈ w.φ j := fun j a ha => by
        split at ha
        · cases ha
        · rename_i z; exact ⟨z, ha⟩
      refine ⟨v, h1, p ⟨w.F, w.α, fun j => if j = k then [] else w.φ j⟩ H ⟨Same.refl _, by simp, fun _ _ => rfl, fun _ _ h _ => h, fun j hj a ha => ?_, fun _ h => .inl h, fun _ h => h⟩ ⟨m.sub, fun j u e => ?_, fun i j a hi hj g1 g2 => ?_⟩ v (w.φ k) ⟨?_, q2, fun a ha j hj z => ?_⟩ fun a ha => .inr (.inl ⟨k, hkl, ha⟩)⟩
      · rw [List.length_set] at hj
        exact .inr (.inl ⟨j, hj, (sub j a ha).2⟩)
      · by_cases hjk : k = j
        · subst hjk
          rw [List.getElem?_set_self hkl] at e
          cases e
          show TR X.K X.mg w.F _ _ _ (if k = k then _ else w.φ k) ∧ (if k = k then _ else w.φ k).Nodup
          rw [if_pos rfl]
          exact ⟨.d (.junk _), List.nodup_nil⟩
        · rw [List.getElem?_set_ne hjk] at e
          show TR X.K X.mg w.F _ _ _ (if j = k then _ else w.φ j) ∧ (if j = k then _ else w.φ j).Nodup
          rw [if_neg (Ne.symm hjk)]
          exact m.obj j u e
      · rw [List.length_set] at hi hj
        exact m.dis i j a hi hj (sub i a g1).2 (sub j a g2).2
      · rw [h2.2]; exact q1
      · rw [List.length_set] at hj
        exact (sub j a z).1 (m.dis j k a hj hkl (sub j a z).2 ha)
    · exact p.elim
  · rename_i x hx
    obtain ⟨v, h1, h2⟩ := er.at_ i _ hx
    exact ⟨v, h1, (p.now m) v [] (rr_d h2) fun _ z => nomatch z⟩
  · exact p.elim
/-- o[i] within a tuple, as a place -/
def pTup (Fo : DenP) (Fi : DenV) : DenP := fun ρ M => match Fo ρ M, Fi ρ M with
  | some l, some (.int i) => (match atL M l with
    | some (.tup ts) => (match ixN ts.length i with
      | some j => if (ts[j]?).isSome = true then some (l.1, l.2 ++ [.i j]) else none
      | none => none)
    | _ => none)
  | _, _ => none
theorem at_tup {l : Loc} {ts : List T} (m : MR X.K X.mg w H M) (e : atL M l = some (.tup ts)) : ∃ a vs fl, pathV H l.2 (.ref (w.α l.1)) = some (.ref a) ∧ H a = some (.tup vs) ∧ TRL X.K X.mg w.F H vs ts fl := by
  obtain ⟨t, v, ff, h1, h2, h3, h4, h5, h6⟩ := atL_at m e
  cases h3 with
  | @tup a vs _ fl g1 g2 g3 => exact ⟨a, vs, fl, h2, g1, g3⟩
theorem dp_tup (ho : DP X o Fo) (hi : DV X i Fi) (hs : PlainIx i := by exact fun _ _ => rfl) : DP X (.Subscript o i pos) (pTup Fo Fi) := (pe_ix (ix_seq (X := X)) ho hi hs).mono fun σ H Q ⟨w, ρ, M, m, er, l, hl, k⟩ => by
  unfold pTup at hl
  split at hl
  · rename_i l0 i0 hl0 hi0
    split at hl
    · rename_i ts hts
      split at hl
      · rename_i j hj
        split at hl
        · rename_i zz
          cases hl
          obtain ⟨a, vs, fl, h1, h2, h3⟩ := at_tup m hts
          refine ⟨w, ρ, M, m, er, l0, hl0, fun v s hs hv => ?_⟩
          rw [h1] at hv
          cases hv
          refine ⟨w, ρ, M, m, er, _, hi0, fun v hv => ?_⟩
          cases hv
          have hlen := h3.length
          obtain ⟨t1, ht1⟩ := Option.isSome_iff_exists.mp zz
          obtain ⟨u, f1, fm, f2, b1, b2, b3, _⟩ := trl_at h3 ht1
          refine .inr (.inl ⟨a, vs, i0, u, rfl, rfl, SqT.of h2, by unfold atI; rw [hlen, hj]; exact b1, k u t1 ?_ ?_⟩)
          · unfold atL at hts ⊢
            show (match M[l0.1]? with
              | some t => subT (l0.2 ++ [Stp.i j]) t
              | none => none) = _
            split at hts
            · rename_i t ht
              try rw [ht]
              show subT (l0.2 ++ [Stp.i j]) t = _
              rw [subT_app _ _ hts]
              show (match ts[j]? with
                | some t => subT [] t
                | none => none) = _
              rw [ht1]; rfl
            · cases hts
          · show pathV H (l0.2 ++ [Stp.i j]) _ = _
            rw [pathV_app _ _ h1, pathV_tup h2 b1]; rfl
        · cases hl
      · cases hl
    · cases hl
  · cases hl
end
end DL

/-! DL25: operators that the text's own classes write -/
namespace DL
open PySem L2 PySem.Spec PyProof.Rows
structure OwnD (P : Program) (w : World) (K : PySem.W.Frag) (mg : Mg) (base : Heap) (c m : Str) (k : Nat) (ps : List Str) (G : Fn) : Prop where
  ex : ∃ C f, mg c = some (.ref C) ∧ PySem.W.selfFirst K C = true ∧ Meth K C m f ∧ FOk P w K mg base k f ps G
def insC (c : Str) (M : Mst) (r : R) : Bool := match insOf M r with
  | some (c', _) => decide (c' = c)
  | none => false
def gOwn (c : Str) (G : Fn) : R → R → Mst → Out R := fun r1 r2 M => if insC c M r1 = true ∧ insC c M r2 = true then noX (G [svR r1, svR r2] M) else .bad
def gOwn1 (c : Str) (G : Fn) : R → Mst → Out R := fun r M => if insC c M r = true then noX (G [svR r] M) else .bad
section
variable {X : Cx} {W : WX} {σ : L2.St} {fs gs : List Addr} {w w2 : Wd} {H H2 : Hp} {M M2 : Mst}
variable {e a b : Expr} {es : List Expr} {Fa Fb : Den} {pos p apos : Pos} {x m f c : Str} {k : Nat} {ps : List Str} {G : Fn}
theorem insC_at {v : V} {r : R} {fp : List Addr} {C : Addr} (hC : X.mg c = some (.ref C)) (m : MR X.K X.mg w H M) (h : RR X.K X.mg w H M v r fp) (e : insC c M r = true) : ∃ a dx fs, v = .ref a ∧ H a = some (.ins C dx fs) := by
  unfold insC at e
  split at e
  · rename_i c' ns hi
    have e := of_decide_eq_true e
    subst e
    obtain ⟨a, C', dx, fs, rfl, ha, hC', _⟩ := ins_at m h hi
    obtain rfl : C = C' := by rw [hC] at hC'; cases hC'; rfl
    exact ⟨a, dx, fs, rfl, ha⟩
  · cases e
def rOwn (X : Cx) (C : Addr) (G : Fn) : R2 := fun x y H Q => ∃ a b dx dy fs gs, x = .ref a ∧ y = .ref b ∧ H a = some (.ins C dx fs) ∧ H b = some (.ins C dy gs) ∧ spD X.K X.mg 2 G [x, y] H Q (fun _ _ _ => False)
def rOwn1 (X : Cx) (C : Addr) (G : Fn) : V → Hp → VK → Prop := fun x H Q => ∃ a dx fs, x = .ref a ∧ H a = some (.ins C dx fs) ∧ spD X.K X.mg 1 G [x] H Q (fun _ _ _ => False)
theorem post_own {E : XK} {vs : List V} {rs : List R} {fp : List Addr} {Q : VK} (m : MR X.K X.mg w H M) (q : RRL X.K X.mg w H M vs rs fp) (p : Post X W σ fp w H M (noX (G (rs.map svR) M)) (CE X fp w H M Q)) : spD X.K X.mg rs.length G vs H Q E := by
  obtain ⟨w3, e3, m3, v3⟩ := settleL m q
  refine ⟨w3, _, M, m3, v3, q.length, ?_⟩
  cases z : G (rs.map svR) M with
  | bad => rw [z] at p; exact p.elim
  | exc x M' => rw [z] at p; exact p.elim
  | ok r M' =>
    rw [z] at p
    intro w' H' v fp' e' m' q' hq
    refine p w' H' (e3.trans0 e') m' v fp' q' fun a ha => ?_
    exact e3.pm (gs := []) (fun _ z => nomatch z) (hq a ha)
theorem op2_own {C : Addr} (hC : X.mg c = some (.ref C)) : Op2 X (gOwn c G) (rOwn X C G) := by
  intro W σ w H M x y r1 r2 f1 f2 Q m q1 q2 dj p
  unfold gOwn at p
  split at p
  · rename_i hi
    obtain ⟨a, dx, fs, rfl, ha⟩ := insC_at hC m q1 hi.1
    obtain ⟨b, dy, gs, rfl, hb⟩ := insC_at hC m q2 hi.2
    refine ⟨a, b, dx, dy, fs, gs, rfl, rfl, ha, hb, ?_⟩
    have q : RRL X.K X.mg w H M [V.ref a, V.ref b] [r1, r2] (f1 ++ (f2 ++ [])) := .cons q1 (.cons q2 .nil fun _ _ z => nomatch z) (by simpa using dj)
    rw [List.append_nil] at q
    exact post_own m q p
  · exact p.elim
theorem own_run {g : Addr} (F : FOk X.prog X.w X.K X.mg X.base k g ps G) (hr : Room k X.A) {pins : List (Addr × Obj)} {s : Shared} {Q : VK} {us : List Value} {vs : List V} (I : Inv X pins σ H s) (r : Vals vs us)
    (h : spD X.K X.mg ps.length G vs H Q (fun _ _ _ => False)) : wpAny (model X.prog X.w) X.A (call (.ref g) us) (EP X pins σ Q) X.xe s := by
  obtain ⟨fd, F, hb⟩ := F
  exact run_fnS (E := fun σ => fun _ _ _ => False) F hr hb (fun pins _ s e s' I hq => by
    obtain ⟨_, _, _, _, _, _, _, _, _, _, _, _, z⟩ := hq
    exact z.elim) I r h
theorem rel_ni {v : V} {u : Value} (h : RelV v u) : u ≠ .notImplemented := fun e => by
  subst e
  cases v with
  | int _ => obtain ⟨_, h⟩ := h; cases h
  | str _ => obtain ⟨_, h⟩ := h; cases h
  | byt _ => obtain ⟨_, h⟩ := h; cases h
  | flt _ => obtain ⟨_, h⟩ := h; cases h
  | _ => cases h
theorem back_of {pins : List (Addr × Obj)} {Q : VK} {u : Value} {s' : Shared} (z : EP X pins σ Q u s') : PySem.W.CmpBack (EP X pins σ Q) u s' := by
  obtain ⟨v, H', I', rv, q⟩ := id z
  have := rel_ni rv
  cases u <;> first | exact absurd rfl this | exact z
theorem op_own {op : Operator} {C g : Addr} (hs : PySem.W.selfFirst X.K C = true) (hm : Meth X.K C (PySem.dunder op.info.2) g) (F : FOk X.prog X.w X.K X.mg X.base k g ps G) (hl : ps.length = 2) (hr : Room k X.A) : OpR X (binaryOp op) (rOwn X C G) := by
  intro pins s σ H x y v u Q I rx ry ⟨a, b, dx, dy, fs, gs, hx, hy, ha, hb, h⟩
  subst hx; subst hy
  cases rx; cases ry
  obtain ⟨mA, J, _⟩ := ins_get I.hok ha
  obtain ⟨mB, J', _⟩ := ins_get I.hok hb
  obtain ⟨od, J, _⟩ := J.look
  obtain ⟨od', J', _⟩ := J'.look
  obtain ⟨m', hF⟩ := I.fr
  refine PySem.W.binop_K hF I.ok.mod.kin J J'.type hs hm.at_ hm.fn ?_
  exact wpAny_mono (own_run F hr I (us := [.ref a, .ref b]) (vs := [.ref a, .ref b]) (.cons rfl (.cons rfl .nil)) (by rw [hl]; exact h)) (fun u s' z => back_of z) fun _ _ e => e
/-- a + b .. by the class's own def -/
theorem de_own {op : Operator} (D : OwnD X.prog X.w X.K X.mg X.base c (PySem.dunder op.info.2) k ps G) (hr : Room k X.A) (ha : DE X W a Fa) (hb : DE X W b Fb) (hl : ps.length = 2 := by rfl) : DE X W (.BinOp a op b pos) (eSeq2 (gOwn c G) Fa Fb) := by
  obtain ⟨C, g, hC, hs, hm, F⟩ := D.ex
  exact de_op (op_own hs hm F hl hr) (op2_own hC) ha hb
theorem op1_own {C : Addr} (hC : X.mg c = some (.ref C)) : Op1 X (gOwn1 c G) (rOwn1 X C G) := by
  intro W σ w H M x r1 f1 Q m q1 p
  unfold gOwn1 at p
  split at p
  · rename_i hi
    obtain ⟨a, dx, fs, rfl, ha⟩ := insC_at hC m q1 hi
    refine ⟨a, dx, fs, rfl, ha, ?_⟩
    have q : RRL X.K X.mg w H M [V.ref a] [r1] (f1 ++ []) := .cons q1 .nil fun _ _ z => nomatch z
    rw [List.append_nil] at q
    exact post_own m q p
  · exact p.elim
theorem un_own {C g : Addr} (hm : Meth X.K C "__neg__" g) (F : FOk X.prog X.w X.K X.mg X.base k g ps G) (hl : ps.length = 1) (hr : Room k X.A) : UnR X (unaryOp .USub) (rOwn1 X C G) := by
  intro pins s σ H x v Q I rx ⟨a, dx, fs, hx, ha, h⟩
  subst hx
  cases rx
  obtain ⟨mA, J, _⟩ := ins_get I.hok ha
  obtain ⟨od, J, _⟩ := J.look
  obtain ⟨m', hF⟩ := I.fr
  refine PySem.W.ksp_neg hF I.ok.mod.kin J hm.at_ hm.fn ?_
  exact own_run F hr I (us := [.ref a]) (vs := [.ref a]) (.cons rfl .nil) (by rw [hl]; exact h)
theorem de_ownNeg (D : OwnD X.prog X.w X.K X.mg X.base c "__neg__" k ps G) (hr : Room k X.A) (ha : DE X W a Fa) (hl : ps.length = 1 := by rfl) : DE X W (.UnaryOp .USub a pos) (eSeq1 (gOwn1 c G) Fa) := by
  obtain ⟨C, g, hC, hs, hm, F⟩ := D.ex
  exact de_un (un_own hm F hl hr) (op1_own hC) ha
/-- a == b by the class's own def -/
theorem op_ownEq {C g : Addr} (hm : Meth X.K C "__eq__" g) (F : FOk X.prog X.w X.K X.mg X.base k g ps G) (hl : ps.length = 2) (hr : Room k X.A) : OpR X (compareOp .Eq) (rOwn X C G) := by
  intro pins s σ H x y v u Q I rx ry ⟨a, b, dx, dy, fs, gs, hx, hy, ha, hb, h⟩
  subst hx; subst hy
  cases rx; cases ry
  obtain ⟨mA, J, _⟩ := ins_get I.hok ha
  obtain ⟨mB, J', _⟩ := ins_get I.hok hb
  obtain ⟨od, J, _⟩ := J.look
  obtain ⟨od', J', _⟩ := J'.look
  obtain ⟨m', hF⟩ := I.fr
  show wpAny (model X.prog X.w) X.A (richCompare .Eq _ _) _ _ _
  refine PySem.W.cmp_K (op := .Eq) (tb := .ref C) hr.units0 hF I.ok.mod.kin J J'.type (by simp [PySem.W.notFirst]) hm.at_ hm.fn ?_
  exact wpAny_mono (own_run F hr I (us := [.ref a, .ref b]) (vs := [.ref a, .ref b]) (.cons rfl (.cons rfl .nil)) (by rw [hl]; exact h)) (fun u s' z => back_of z) fun _ _ e => e
end
end DL

/-! DL26: != where the class writes == alone -/
namespace DL
open PySem L2 PySem.Spec PyProof.Rows PySem.W PySem.Calls Builtin
section
variable {prog : Program} {w : World} {A : Around} {E : Value → Shared → Prop} {s : Shared} {K : Frag} {x C L f : Addr} {h₀ : Heap} {m : Str → Option Value} {ox : Obj} {od : Option Obj} {b : Value}
theorem ne_builtin {Q : Value → Shared → Prop} (hu : A.units + 1 < cLine) (X : K.In s.heap) (I : InstAt s.heap x ox C od) (hob : mroIn K C (.type "object") = some true) (hs : findIn K (.ref C) "__eq__" = some (some (.ref f))) (hf : isFn K (.ref f) = true)
    (h : wpAny (model prog w) A.in1 (call (.ref f) [.ref x, b]) (fun v s' => ∃ r, v = .bool r ∧ Q (.bool (!r)) s') E s) : wpAny (model prog w) A (call (.builtin "object.__ne__") [.ref x, b]) Q E s := by
  have hi : Looks (model prog w) s.heap (isInstance (.ref x) (.type "object")) true := I.type.andThen (looks_mroIn X hob)
  refine wpAny_call (codeAny_call_builtin F.cmp_object.ne.plain F.cmpEntry_ne (check_slot F.cmpKind_ne F.cmpSplit_ne hi (F.cmpArgs_ne _ _) ?_))
  unfold Builtin.«object.__ne__»
  repeat (first
    | with_reducible refine wpAny_cRoomFor hu ?_
    | (refine wpAny_bind (m := callSpecialIfBound? (.ref x) (Str.ofString "__eq__") [b]) (ifBound_K X I hs hf (wpAny_mono h (fun r s' hr => by
          obtain ⟨b, rfl, hq⟩ := hr
          repeat (first | exact hq | exact wpAny_pure hq | exact wpAny_truthy_bool hq | (refine wpAny_bind (m := truthy (.bool _)) (wpAny_truthy_bool ?_)) | wp_step)) fun _ _ e => e)))
    | wp_step)
theorem ne_K {Q : Value → Shared → Prop} (hu : A.units + 1 < cLine) (Fm : Fr h₀ L s.heap m) (X₀ : K.In h₀) (I : InstAt s.heap x ox C od) (hb : Looks (model prog w) s.heap (typeOf b) (.ref C)) (hne : findIn K (.ref C) "__ne__" = some (some (.builtin "object.__ne__")))
    (hob : mroIn K C (.type "object") = some true) (hs : findIn K (.ref C) "__eq__" = some (some (.ref f))) (hf : isFn K (.ref f) = true)
    (h : wpAny (model prog w) A.in1 (call (.ref f) [.ref x, b]) (fun v s' => ∃ r, v = .bool r ∧ Q (.bool (!r)) s') E s) : wpAny (model prog w) A (richCompare .NotEq (.ref x) b) Q E s := by
  have X := X₀.keeps Fm.keep
  have one : wpAny (model prog w) A (tryCompare (.ref x) "__ne__" b) (fun r s' => ∃ v, r = some v ∧ Q v s') E s := by
    unfold tryCompare callSpecialIfBound? bindSpecialIfBound?
    have fin : wpAny (model prog w) A (call (.builtin "object.__ne__") ([.ref x] ++ [b]) >>= fun v => pure (some v)) (fun r s' => wpAny (model prog w) A (match r with
        | some .notImplemented | none => pure none
        | some v => pure (some v)) (fun r s' => ∃ v, r = some v ∧ Q v s') E s') E s := by
      refine wpAny_bind (ne_builtin hu X I hob hs hf (wpAny_mono h (fun v s' hv => ?_) fun _ _ e => e))
      obtain ⟨r, rfl, q⟩ := hv
      exact ⟨r, rfl, wpAny_pure (wpAny_pure ⟨_, rfl, q⟩)⟩
    refine wpAny_bind (wpAny_holding (wpAny_bind (wpAny_bind (wpAny_bind (I.type.here ((looks_findIn X hne).here ?_))))))
    refine wpAny_bind (wpAny_askSetting (wpAny_ite ?_))
    split
    · refine wpAny_bind ?_
      rw [F.cmp_object.ne.bind]
      exact wpAny_pure (wpAny_pure fin)
    · refine wpAny_tryCatch (wpAny_bind ?_)
      rw [F.cmp_object.ne.bind]
      exact wpAny_pure (wpAny_pure fin)
  unfold richCompare
  simp only [oneThing_ref]
  refine wpAny_holding (wpAny_bind (wpAny_cRoomFor (Nat.lt_of_succ_lt hu) ?_))
  refine wpAny_bind (I.type.here (wpAny_bind (hb.here ?_)))
  rw [if_neg (by simp)]
  refine wpAny_bind (wpAny_pure ?_)
  simp only [Bool.false_eq_true, if_false]
  refine wpAny_bind (wpAny_mono one (fun r s' z => ?_) fun _ _ e => e)
  obtain ⟨v, rfl, hq⟩ := z
  exact wpAny_pure hq
end
end DL

/-! DL27: a != b, the class's own == within -/
namespace DL
open PySem L2 PySem.Spec PyProof.Rows
def notB : R → Mst → Out R
  | .t (.d (.bl b)), M => .ok (.t (.d (.bl (!b)))) M
  | _, _ => .bad
def gOwnNe (c : Str) (G : Fn) : R → R → Mst → Out R := fun r1 r2 M => if insC c M r1 = true ∧ insC c M r2 = true then (noX (G [svR r1, svR r2] M)).bind notB else .bad
structure OwnNe (P : Program) (w : World) (K : PySem.W.Frag) (mg : Mg) (base : Heap) (c : Str) (k : Nat) (ps : List Str) (G : Fn) : Prop where
  ex : ∃ C f, mg c = some (.ref C) ∧ PySem.W.findIn K (.ref C) "__ne__" = some (some (.builtin "object.__ne__")) ∧ PySem.W.mroIn K C (.type "object") = some true ∧ Meth K C "__eq__" f ∧ FOk P w K mg base k f ps G
section
variable {X : Cx} {W : WX} {σ : L2.St} {fs gs : List Addr} {w w2 : Wd} {H H2 : Hp} {M M2 : Mst}
variable {e a b : Expr} {es : List Expr} {Fa Fb : Den} {pos p apos : Pos} {x m f c : Str} {k : Nat} {ps : List Str} {G : Fn}
def rOwnNe (X : Cx) (C : Addr) (G : Fn) : R2 := fun x y H Q => ∃ a b dx dy fs gs, x = .ref a ∧ y = .ref b ∧ H a = some (.ins C dx fs) ∧ H b = some (.ins C dy gs) ∧ spD X.K X.mg 2 G [x, y] H (fun v H' => ∃ r, v = .bl r ∧ Q (.bl (!r)) H') (fun _ _ _ => False)
theorem op2_ownNe {C : Addr} (hC : X.mg c = some (.ref C)) : Op2 X (gOwnNe c G) (rOwnNe X C G) := by
  intro W σ w H M x y r1 r2 f1 f2 Q m q1 q2 dj p
  unfold gOwnNe at p
  split at p
  · rename_i hi
    obtain ⟨a, dx, fs, rfl, ha⟩ := insC_at hC m q1 hi.1
    obtain ⟨b, dy, gs, rfl, hb⟩ := insC_at hC m q2 hi.2
    refine ⟨a, b, dx, dy, fs, gs, rfl, rfl, ha, hb, ?_⟩
    have q : RRL X.K X.mg w H M [V.ref a, V.ref b] [r1, r2] (f1 ++ (f2 ++ [])) := .cons q1 (.cons q2 .nil fun _ _ z => nomatch z) (by simpa using dj)
    rw [List.append_nil] at q
    refine post_own (W := W) (σ := σ) m q ?_
    show Post X W σ (f1 ++ f2) w H M (noX (G [svR r1, svR r2] M)) _
    cases z : noX (G [svR r1, svR r2] M) with
    | bad => rw [z] at p; exact p.elim
    | exc x M' =>
      exfalso
      cases y : G [svR r1, svR r2] M <;> (rw [y] at z; cases z)
    | ok r M' =>
      rw [z] at p
      have p : Post X W σ (f1 ++ f2) w H M (notB r M') (CE X (f1 ++ f2) w H M Q) := p
      unfold notB at p
      split at p
      · intro w' H' e' m' v fp' q' hq
        obtain ⟨q', _⟩ := rr_dat q'
        cases q'
        exact ⟨_, rfl, p w' H' e' m' _ [] (rr_d (.bl _)) fun _ z => nomatch z⟩
      · exact p.elim
  · exact p.elim
theorem own_runA {g : Addr} {A : Around} (hr : Room k A) (hfr : A.frames = X.A.frames) (F : FOk X.prog X.w X.K X.mg X.base k g ps G) {pins : List (Addr × Obj)} {s : Shared} {Q : VK} {us : List Value} {vs : List V} (I : Inv X pins σ H s) (r : Vals vs us)
    (h : spD X.K X.mg ps.length G vs H Q (fun _ _ _ => False)) : wpAny (model X.prog X.w) A (call (.ref g) us) (EP X pins σ Q) X.xe s := by
  obtain ⟨fd, F, hb⟩ := F
  have e0 : Env0 X.prog X.w X.K X.mg X.base A X.stack s H := by
    have e := I.env0
    exact ⟨by rw [hfr]; exact e.frames, e.mod, e.bs, e.bsz, e.funs, e.frf, e.hok, e.bare⟩
  have hl := F.len _ _ _ _ h
  refine wpAny_call (codeAny_mono (F.run A X.stack s H ⟨us, []⟩ us vs _ _ hr e0 (by
    have := hb s us I.kIn (by rw [List.append_nil, ← r.length]; exact hl)
    simpa using this) r h) fun r s' hq => ?_)
  cases r with
  | error e =>
    obtain ⟨_, _, _, _, _, _, _, _, _, _, _, _, z⟩ := hq
    exact z.elim
  | ok fl =>
    cases fl with
    | ret u =>
      obtain ⟨z, H', I', rz, ez⟩ := I.after hq
      exact ⟨z, H', I', rz, ez⟩
    | next => exact False.elim hq
    | brk => exact False.elim hq
    | cont => exact False.elim hq
theorem op_ownNe {C g : Addr} (hne : PySem.W.findIn X.K (.ref C) "__ne__" = some (some (.builtin "object.__ne__"))) (hob : PySem.W.mroIn X.K C (.type "object") = some true) (hm : Meth X.K C "__eq__" g) (F : FOk X.prog X.w X.K X.mg X.base k g ps G) (hl : ps.length = 2) (hr : Room (k + 1) X.A) : OpR X (compareOp .NotEq) (rOwnNe X C G) := by
  intro pins s σ H x y v u Q I rx ry ⟨a, b, dx, dy, fs, gs, hx, hy, ha, hb, h⟩
  subst hx; subst hy
  cases rx; cases ry
  obtain ⟨mA, J, _⟩ := ins_get I.hok ha
  obtain ⟨mB, J', _⟩ := ins_get I.hok hb
  obtain ⟨od, J, _⟩ := J.look
  obtain ⟨od', J', _⟩ := J'.look
  obtain ⟨m', hF⟩ := I.fr
  show wpAny (model X.prog X.w) X.A (richCompare .NotEq _ _) _ _ _
  refine ne_K (by have := hr.un; omega) hF I.ok.mod.kin J J'.type hne hob hm.at_ hm.fn ?_
  refine wpAny_mono (own_runA hr.in1 rfl F I (us := [.ref a, .ref b]) (vs := [.ref a, .ref b]) (.cons rfl (.cons rfl .nil)) (by rw [hl]; exact h)) (fun u s' z => ?_) fun _ _ e => e
  obtain ⟨v, H', I', rv, r, hv, q⟩ := z
  subst hv
  cases rv
  exact ⟨r, rfl, .bl (!r), H', I', rfl, q⟩
theorem de_ownNe (D : OwnNe X.prog X.w X.K X.mg X.base c k ps G) (hr : Room (k + 1) X.A) (ha : DE X W a Fa) (hb : DE X W b Fb) (hl : ps.length = 2 := by rfl) : DE X W (.Compare a [.NotEq] [b] pos) (eSeq2 (gOwnNe c G) Fa Fb) := by
  obtain ⟨C, g, hC, hne, hob, hm, F⟩ := D.ex
  exact de_cmp (op_ownNe hne hob hm F hl hr) (op2_ownNe hC) ha hb (nomark _)
theorem dt_ownNe (D : OwnNe X.prog X.w X.K X.mg X.base c k ps G) (hr : Room (k + 1) X.A) (ha : DE X W a Fa) (hb : DE X W b Fb) (hl : ps.length = 2 := by rfl) : DT X W (.Compare a [.NotEq] [b] pos) (eTB (eSeq2 (gOwnNe c G) Fa Fb)) := by
  obtain ⟨C, g, hC, hne, hob, hm, F⟩ := D.ex
  exact dt_cmp (op_ownNe hne hob hm F hl hr) (op2_ownNe hC) ha hb (nomark _)
theorem de_ownEq (D : OwnD X.prog X.w X.K X.mg X.base c "__eq__" k ps G) (hr : Room k X.A) (ha : DE X W a Fa) (hb : DE X W b Fb) (hl : ps.length = 2 := by rfl) : DE X W (.Compare a [.Eq] [b] pos) (eSeq2 (gOwn c G) Fa Fb) := by
  obtain ⟨C, g, hC, hs, hm, F⟩ := D.ex
  exact de_cmp (op_ownEq hm F hl hr) (op2_own hC) ha hb (nomark _)
theorem dt_ownEq (D : OwnD X.prog X.w X.K X.mg X.base c "__eq__" k ps G) (hr : Room k X.A) (ha : DE X W a Fa) (hb : DE X W b Fb) (hl : ps.length = 2 := by rfl) : DT X W (.Compare a [.Eq] [b] pos) (eTB (eSeq2 (gOwn c G) Fa Fb)) := by
  obtain ⟨C, g, hC, hs, hm, F⟩ := D.ex
  exact dt_cmp (op_ownEq hm F hl hr) (op2_own hC) ha hb (nomark _)
end
end DL

/-! DL28: f-strings -/
namespace DL
open PySem L2 PySem.Spec PyProof.Rows
def fmtD : D → Option Str
  | .str y => if y.length ≤ 1000000 then some y else none
  | .int i => if i.natAbs.log2 < 1920 then some (toString i) else none
  | _ => none
/-- {e} -/
def eFmt (F : Den) : Den := fun ρ M => (F ρ M).bind fun r M1 => match fmtD (frzR M1 r) with
  | some y => .ok (.t (.d (.str y))) M1
  | none => .bad
def eJs : List Den → Str → Ev → Mst → Out Str
  | [], acc, _, M => .ok acc M
  | F :: Fs, acc, ρ, M => (F ρ M).bind fun r M1 => match frzR M1 r with
    | .str y => if (acc ++ y).length ≤ 1000000 then eJs Fs (acc ++ y) ρ M1 else .bad
    | _ => .bad
/-- f'..' -/
def eFStr (Fs : List Den) : Den := fun ρ M => (eJs Fs Str.empty ρ M).bind fun y M1 => .ok (.t (.d (.str y))) M1
inductive DJ (X : Cx) (W : WX) : List Expr → List Den → Prop
  | nil : DJ X W [] []
  | cons {e : Expr} {F : Den} {es : List Expr} {Fs : List Den} : DE X W e F → DJ X W es Fs → DJ X W (e :: es) (F :: Fs)
section
variable {X : Cx} {W : WX} {σ : L2.St} {fs gs : List Addr} {w w2 : Wd} {H H2 : Hp} {M M2 : Mst}
variable {e a b : Expr} {es : List Expr} {Fe Fa Fb : Den} {Fs : List Den} {pos p apos : Pos} {x m f c : Str} {k : Nat} {ps : List Str} {G : Fn}
theorem de_fmt (h : DE X W e Fe) : DE X W (.FormattedValue e (-1) none pos) (eFmt Fe) := (pe_fmt h).mono fun σ H Q ⟨w, ρ, M, m, er, p⟩ => by
  refine ⟨w, ρ, M, m, er, p.bindF.imp fun w1 H1 M1 r _ _ z => ?_⟩
  obtain ⟨e1, m1, p1⟩ := z
  intro v fp q hf
  replace p1 := p1 fp hf
  have s := seen m1 q
  split at p1
  · rename_i y hy
    have fin : Q (.str y) H1 := p1 w1 H1 (Ext.refl m1) m1 (.str y) [] (rr_d (.str y)) fun _ z => nomatch z
    unfold fmtD at hy
    split at hy
    · rename_i y' hd
      rw [hd] at s
      cases s
      split at hy
      · rename_i hl
        cases hy
        exact .inl ⟨_, rfl, big_le hl, fin⟩
      · cases hy
    · rename_i i hd
      rw [hd] at s
      cases s
      split at hy
      · rename_i hl
        cases hy
        exact .inr ⟨_, rfl, hl, fin⟩
      · cases hy
    · cases hy
  · exact p1.elim
theorem DJ.pj (h : DJ X W es Fs) : PJ X es (Fs.map (rdE X W)) := by
  induction h with
  | nil => exact .nil
  | cons h _ ih => exact .cons h ih
theorem rd_js : ∀ (Fs : List Den) (acc : Str) (σ : L2.St) (H : Hp) (Q : Str → Hp → Prop) (w : Wd) (ρ : Ev) (M : Mst), MR X.K X.mg w H M → ER X.K X.mg w M σ ρ → Post X W σ [] w H M (eJs Fs acc ρ M) (fun _ H' _ y => Q y H') → tJs (Fs.map (rdE X W)) acc σ H Q
  | [], acc, σ, H, Q, w, ρ, M, m, er, p => p w H (Ext.refl m) m
  | F :: Fs, acc, σ, H, Q, w, ρ, M, m, er, p => by
    show rdE X W F σ H fun x H1 => ∃ y : Str, x = .str y ∧ (acc ++ y).length ≤ sizeLine ∧ tJs (Fs.map (rdE X W)) (acc ++ y) σ H1 Q
    have p : Post X W σ [] w H M ((F ρ M).bind fun r M1 => match frzR M1 r with
      | .str y => if (acc ++ y).length ≤ 1000000 then eJs Fs (acc ++ y) ρ M1 else .bad
      | _ => .bad) (fun _ H' _ y => Q y H') := p
    refine ⟨w, ρ, M, m, er, p.bindF.imp fun w1 H1 M1 r _ _ z => ?_⟩
    obtain ⟨e1, m1, p1⟩ := z
    intro v fp q hf
    replace p1 := p1 [] fun _ z => nomatch z
    have s := seen m1 q
    split at p1
    · rename_i y hd
      rw [hd] at s
      cases s
      split at p1
      · rename_i hl
        exact ⟨_, rfl, big_le hl, rd_js Fs _ σ H1 Q w1 ρ M1 m1 (er.stay e1) p1⟩
      · exact p1.elim
    · exact p1.elim
theorem de_fstr {e1 e2 : Expr} {rest : List Expr} (h : DJ X W (e1 :: e2 :: rest) Fs) : DE X W (.JoinedStr (e1 :: e2 :: rest) pos) (eFStr Fs) := (pe_joined h.pj).mono fun σ H Q ⟨w, ρ, M, m, er, p⟩ => by
  refine rd_js Fs _ σ H _ w ρ M m er ?_
  refine p.bindF.imp fun w1 H1 M1 y _ _ z => ?_
  obtain ⟨e1, m1, p1⟩ := z
  exact p1 [] (fun _ z => nomatch z) w1 H1 (Ext.refl m1) m1 (.str y) [] (rr_d (.str y)) fun _ z => nomatch z
theorem de_fstr1 (h : DE X W e Fe) : DE X W (.JoinedStr [e] pos) Fe := pe_joined1 h
end
end DL

/-! DL29: static methods by the class's name -/
namespace DL
open PySem L2 PySem.Spec PyProof.Rows
structure StatD (P : Program) (w : World) (K : PySem.W.Frag) (mg : Mg) (base : Heap) (c m : Str) (k : Nat) (ps : List Str) (G : Fn) : Prop where
  ex : ∃ C mc p g rest, mg c = some (.ref C) ∧ PySem.W.readsIn K C mc = true ∧ PySem.W.specialIn K (.ref C) "__getattribute__" = some (some (.builtin "type.__getattribute__")) ∧
    PySem.W.findCls K (.ref C) mc m = some (.get (.builtin "staticmethod.__get__") (.ref p) .none (.ref C)) ∧ PySem.W.recIn K p "staticmethod" = some (.ref g :: rest) ∧ PySem.W.keepIn K (.ref g) = true ∧ FOk P w K mg base k g ps G
section
variable {X : Cx} {W : WX} {σ : L2.St} {w w2 : Wd} {H H2 : Hp} {M M2 : Mst}
variable {e a b : Expr} {es : List Expr} {A : DenA} {pos p apos : Pos} {x m f c : Str} {k : Nat} {ps : List Str} {G : Fn}
theorem de_stat {pl : Sem Bool} (D : StatD X.prog X.w X.K X.mg X.base c m k ps G) (hr : Room k X.A) (tk : Takes X W) (hg : Gl X c) (ha : DA X W (e :: es) A)
    (hdb : (c == ("__debug__" : Str)) = false := by decide) (hst : starEach (e :: es) X.env = (false, eval e X.env) :: starEach es X.env := by rfl) (hpl : (backTo pos (starEach es X.env)).any (·.1) = false := by rfl)
    (ht : eval (.Call (.Attribute (.Name c p) m apos) (e :: es) [] pos) X.env = (do
      let ov ← eval (.Name c p) X.env
      standAt apos.atName
      let (f, first) ← holding [ov] (getMethod ov m pl)
      callWith pos f first (backTo pos (starEach (e :: es) X.env)) (backToKw pos (keywordEach [] X.env))) := by rfl) :
    DE X W (.Call (.Attribute (.Name c p) m apos) (e :: es) [] pos) (eCall G (eArity ps.length A)) := by
  obtain ⟨C, mc, sp, g, rest, hC, hrd, hga, hf, hrc, hk, F⟩ := D.ex
  refine ⟨fun pins s σ H Q I h => ?_⟩
  have h' := rd_call' h
  have nm : PE X (.Name c p) (tC (.ref C)) := pe_glob hg hC (v := .ref C) rfl hdb
  refine PySem.W.methodCall_KW (pl := pl) (thn (nm.run pins s σ H (fun x H1 => x = .ref C ∧ H1 = H) I ⟨rfl, rfl⟩) fun u s1 ⟨x, H1, I1, rx, ex, eH⟩ => ?_) ht
  subst ex; subst eH
  obtain rfl : u = Value.ref C := rx
  refine PySem.W.method_cls I1.kIn hga (PySem.W.cls_bind I1.kIn hrd hf (wpAny_call (PySem.W.sm_get (s := { s1 with toks := s1.toks + 1 }) I1.kIn hrc (PySem.W.handed_on rfl ?_))))
  refine PySem.W.callWith_K (first := []) (h₀ := X.base) I1.ok.mod.kin hk (thn (ha.run pos pins _ σ H1 _ (I1.tok _) h') fun us s2 ⟨vs, H2, I2, r, q2⟩ => ⟨I2.kIn, ?_⟩) hst hpl
  exact F.run hr tk I2 r q2
end
end DL

/-! DL30: tuples whose objects are known to have no dict; their index -/
namespace DL
open PySem L2 PySem.Spec PyProof.Rows
section
variable {X : Cx} {W : WX} {σ : L2.St} {fs gs : List Addr} {w w2 : Wd} {H H2 : Hp} {M M2 : Mst}
variable {e o : Expr} {es : List Expr} {Fo Fe : Den} {pos apos cpos : Pos} {x m f c : Str} {k : Nat} {name : Str} {id T : String} {to : TE} {t : TA} {r : V → List V → Hp → VK → Prop}
def rTupP (X : Cx) : List V → Hp → VK → Prop := fun xs H Q => ∃ p ys, xs = [.ref p] ∧ ((SqL X.K H p ys ∧ ∀ l o, H l = none → o.dict = none → Q (.ref l) (upd H l (.frz o (.tup ys)))) ∨ (SqT X.K H p ys ∧ Q (.ref p) H))
theorem call_tupleP : CallR X (.type "tuple") (rTupP X) := by
  intro pins s σ H xs us Q I r h
  obtain ⟨p, ys, rfl, h⟩ := h
  obtain ⟨u, rfl, rx⟩ := vals1 r
  cases rx
  rcases h with ⟨hq, q⟩ | ⟨hq, q⟩
  · obtain ⟨its, r', pl, hz⟩ := I.list hq
    have hlen := r'.length
    refine call_tuple_list pl.isList (fun h' kp => ?_) (by simp only [List.size_toArray] <;> omega)
    have I1 : Inv X pins σ H { s with heap := h' } := I.kept (t' := s.toks) kp
    have I2 : Inv X pins σ (upd H h'.objs.size (.frz { cls := .type "tuple", data := .seq its.toArray } (.tup ys))) { s with heap := h'.push { cls := .type "tuple", data := .seq its.toArray } } :=
      I1.laid (t' := s.toks) (fun b o e => Heap.get?_push_of_some _ e) (Nat.le_refl _) (show ObjOk X.prog X.w _ _ _ (.frz _ (.tup ys)) from ⟨Heap.get?_push_size h' rfl, hz, its, r', IsTup.new _ _⟩)
    exact ⟨.ref h'.objs.size, _, I2, rfl, q _ _ (I1.hok.fresh (Nat.le_refl _)) rfl⟩
  · obtain ⟨its, r', pl, hz⟩ := I.tuple hq
    exact call_tuple_same pl ⟨.ref p, H, I, rfl, q⟩
theorem new_frz {l : Addr} {o : HO} (m : MR X.K X.mg w H M) (hl : H l = none) : ∃ w', Ext [] w H M w' (upd H l o) M ∧ MR X.K X.mg w' (upd H l o) M ∧ Same w.F w'.F ∧ w'.F l = some o := by
  have hF : w.F l = none := by
    cases z : w.F l with
    | none => rfl
    | some u => rw [m.sub l u z] at hl; cases hl
  have sF : Same w.F (upd w.F l o) := fun a u e => by rw [upd_ne (ne_of_none e hF)]; exact e
  refine ⟨⟨upd w.F l o, w.α, w.φ⟩, ⟨sF, Nat.le_refl _, fun _ _ => rfl, fun a u e _ => by rw [upd_ne (ne_of_none e hl)]; exact e, fun j hj a ha => .inr (.inl ⟨j, hj, ha⟩), fun a h => ?_, fun a h => ?_⟩, ⟨fun a u e => ?_, fun j t e => ?_, m.dis⟩, sF, upd_same⟩
  · by_cases z : a = l
    · subst z; exact .inr (.inl hl)
    · have h : upd w.F l o a ≠ none := h
      rw [upd_ne z] at h; exact .inl h
  · by_cases z : a = l
    · subst z; exact hl
    · rw [upd_ne z] at h; exact h
  · have e : upd w.F l o a = some u := e
    by_cases z : a = l
    · subst z; rw [upd_same] at e; cases e; exact upd_same
    · rw [upd_ne z] at e ⊢; exact m.sub a u e
  · obtain ⟨q1, q2⟩ := m.obj j t e
    refine ⟨q1.stay sF fun a ha => ?_, q2⟩
    obtain ⟨g1, u, g2⟩ := q1.fp a ha
    have ne := ne_of_none g2 hl
    exact ⟨by show upd w.F l o a = none; rw [upd_ne ne]; exact g1, fun v hv => by rw [upd_ne ne]; exact hv⟩
/-- tuple(x) -/
def tuplePR : List R → Mst → Out R
  | [.t (.d (.tupP p ds))], M => .ok (.t (.d (.tupP p ds))) M
  | [r], M => (match src M r with
    | some (.l ds, M1) => .ok (.t (.d (.tupP true ds))) M1
    | _ => .bad)
  | _, _ => .bad
theorem opL_tupleP : OpL X tuplePR (rTupP X) := by
  intro W σ w H M xs rs fp Q m q p
  unfold tuplePR at p
  split at p
  · rename_i b ds
    obtain ⟨v, hv, q1⟩ := q.one
    subst hv
    obtain ⟨q1, _⟩ := rr_dat q1
    cases q1 with
    | tupP h l => exact ⟨_, _, rfl, .inr ⟨Same.seqT m.sub h.1, CE.dat p (Ext.refl m) m (.tupP h l)⟩⟩
  · rename_i r _
    obtain ⟨v, hv, q1⟩ := q.one
    subst hv
    split at p
    · rename_i ds M4 z
      obtain ⟨w4, e4, m4, a4⟩ := src_ok m q1 z
      obtain ⟨a, vs, rfl, h1, h2⟩ := a4
      refine ⟨a, vs, rfl, .inl ⟨SqL.of h1, fun l o hl hd => ?_⟩⟩
      obtain ⟨w5, e5, m5, s5, f5⟩ := new_frz (o := .frz o (.tup vs)) m4 hl
      exact p w5 _ (e4.trans0 e5) m5 (.ref l) [] (rr_d (.tupP ⟨.inl (.inr ⟨o, f5⟩), fun _ => ⟨o, .inl f5, hd⟩⟩ (h2.mono s5))) fun _ z => nomatch z
    · exact p.elim
  · exact p.elim
/-! ### a method of such a tuple -/
def PlV (K : PySem.W.Frag) (H : Hp) (x : V) : Prop := ∃ a xs o, x = .ref a ∧ SqT K H a xs ∧ (H a = some (.frz o (.tup xs)) ∨ K.lookup a = some o) ∧ o.dict = none
def tBMT (K : PySem.W.Frag) (r : V → List V → Hp → VK → Prop) (to : TE) (t : TA) : TE := fun σ H Q => to σ H fun x H1 => PlV K H1 x ∧ t σ H1 fun xs H2 => r x xs H2 Q
theorem pe_bmT (slot : Slot "tuple" name id) (hty : typeOf (.builtin id) = pure (.type "method_descriptor")) (hm : MtR X id r) (ho : PE X o to) (ha : PA X (e :: es) t)
    (hbase : attributeBase o name X.env (eval o X.env) = eval o X.env := by rfl)
    (hfew : ((backTo cpos (starEach (e :: es) X.env)).all (fun x => !x.1) && (backToKw cpos (keywordEach [] X.env)).all (fun x => x.1.isSome)
      && decide ((e :: es).length + ([] : List Keyword).length + (if ([] : List Keyword).isEmpty then 0 else 1) < 30)) = true := by rfl)
    (hline : (apos.endLine == cpos.line) = true := by rfl) (hs : starEach (e :: es) X.env = (false, eval e X.env) :: starEach es X.env := by rfl) (hplain : (backTo cpos (starEach es X.env)).any (·.1) = false := by rfl) :
    PE X (.Call (.Attribute o name apos) (e :: es) [] cpos) (tBMT X.K r to t) := by
  refine ⟨fun pins s σ H Q I h => ?_⟩
  refine wpAny_Call_method_late hbase hfew hline rfl (thn (ho.run pins s σ H _ I h) fun v s1 ⟨x, H1, I1, r1, ty, q1⟩ => ?_)
  obtain ⟨a, xs, ob, rfl, hq, hp, hd⟩ := ty
  obtain rfl : v = Value.ref a := r1
  obtain ⟨its, _, ⟨o2, g2, c2, _⟩, _⟩ := I1.tuple hq
  have hget : s1.heap.get? a = some ob := by
    rcases hp with hp | hp
    · exact (I1.hok a _ hp).1
    · exact I1.kIn a ob hp
  refine ⟨"tuple", id, PySem.F.plainAttrs_tuple, slot, hty, ⟨o2, g2, c2⟩, fun b e => by cases e; exact ⟨ob, hget, hd⟩, ?_⟩
  have hA := ha.run cpos pins s1 σ H1 _ I1 q1
  rw [hs] at hA ⊢
  refine Calls.callWith_builtin (by show (false || (backTo cpos (starEach es X.env)).any (·.1)) = false; rw [hplain] <;> rfl) (Calls.evalArgs_plain ?_)
  exact thn hA fun us s2 ⟨vs, H2, I2, r2, q2⟩ => hm pins s2 σ H2 (.ref a) vs _ us Q I2 rfl r2 q2
def idxS : List Str → Str → Option Nat
  | [], _ => none
  | y :: ys, z => if y = z then some 0 else (idxS ys z).map (· + 1)
theorem idxS_ok : ∀ {ys : List Str} {z : Str} {j : Nat}, idxS ys z = some j → ys[j]? = some z ∧ ∀ m, m < j → ys[m]? ≠ some z
  | [], _, _, e => nomatch e
  | y :: ys, z, j, e => by
    unfold idxS at e
    split at e
    · rename_i h
      cases e
      exact ⟨by rw [h]; rfl, fun m hm => absurd hm (Nat.not_lt_zero _)⟩
    · rename_i h
      cases z2 : idxS ys z with
      | none => rw [z2] at e; cases e
      | some i =>
        rw [z2] at e
        cases e
        obtain ⟨h1, h2⟩ := idxS_ok z2
        refine ⟨by simpa using h1, fun m hm => ?_⟩
        cases m with
        | zero => intro q; apply h; simpa using q
        | succ m => simpa using h2 m (by have hm : m + 1 < i + 1 := hm; omega)
/-- t.index(x) -/
def eIdx (Fo Fe : Den) : Den := fun ρ M => (Fo ρ M).bind fun r M1 => match r with
  | .t (.d (.tupP true ds)) => (Fe ρ M1).bind fun r2 M2 => (match strsD ds, frzR M2 r2 with
    | some ys, .str z => (match idxS ys z with
      | some j => .ok (.t (.d (.int (j : Nat)))) M2
      | none => .bad)
    | _, _ => .bad)
  | _ => .bad
theorem de_idx (ho : DE X W o Fo) (he : DE X W e Fe) (hbase : attributeBase o "index" X.env (eval o X.env) = eval o X.env := by rfl)
    (hfew : ((backTo cpos (starEach [e] X.env)).all (fun x => !x.1) && (backToKw cpos (keywordEach [] X.env)).all (fun x => x.1.isSome)
      && decide ([e].length + ([] : List Keyword).length + (if ([] : List Keyword).isEmpty then 0 else 1) < 30)) = true := by rfl)
    (hline : (apos.endLine == cpos.line) = true := by rfl) (hs : starEach [e] X.env = (false, eval e X.env) :: starEach [] X.env := by rfl) (hplain : (backTo cpos (starEach [] X.env)).any (·.1) = false := by rfl) :
    DE X W (.Call (.Attribute o "index" apos) [e] [] cpos) (eIdx Fo Fe) :=
  (pe_bmT PySem.F.slot_tuple_index PySem.F.type_tuple_index mt_tup_index ho (pa_cons he pa_nil hs) hbase hfew hline hs hplain).mono fun σ H Q ⟨w, ρ, M, m, er, p⟩ => by
    refine ⟨w, ρ, M, m, er, p.bindF.imp fun w1 H1 M1 r _ _ z => ?_⟩
    obtain ⟨e1, m1, p1⟩ := z
    intro v fp q hf
    replace p1 := p1 [] fun _ z => nomatch z
    split at p1
    · rename_i ds
      obtain ⟨q, _⟩ := rr_dat q
      cases q with
      | @tupP _ a xs _ h l =>
        obtain ⟨ob, hp, hd⟩ := h.2 rfl
        refine ⟨⟨a, xs, ob, rfl, Same.seqT m1.sub h.1, hp.imp (m1.sub a _) id, hd⟩, w1, ρ, M1, m1, er.stay e1, (Post.bindF p1).imp fun w2 H2 M2 r2 _ _ z => ?_⟩
        obtain ⟨e2, m2, p2⟩ := z
        intro v2 f2 q2 hf2
        replace p2 := p2 [] fun _ z => nomatch z
        have s := seen m2 q2
        split at p2
        · rename_i ys z2 hy hz
          rw [hz] at s
          cases s
          split at p2
          · rename_i j hj
            obtain ⟨k1, k2⟩ := idxS_ok hj
            refine ⟨a, ys, _, j, rfl, rfl, ?_, k1, k2, p2 w2 H2 (Ext.refl m2) m2 _ [] (rr_d (.int _)) fun _ z => nomatch z⟩
            rw [← strs_at l hy]
            exact Same.seqT (e2.F.trans m2.sub) h.1
          · exact p2.elim
        · exact p2.elim
    · exact p1.elim
end
end DL

/-! DL31: isinstance(o, C), C a class of the text -/
namespace DL
open PySem L2 PySem.Spec PyProof.Rows
structure IsC (K : PySem.W.Frag) (mg : Mg) (c : Str) : Prop where
  ex : ∃ C, mg c = some (.ref C) ∧ Cls K C ∧ PySem.W.findIn K (.ref C) "__class__" = some (some (.builtin "object.__class__")) ∧ PySem.W.specialIn K (.builtin "object.__class__") "__get__" = some (some (.builtin "getset_descriptor.__get__")) ∧
    PySem.W.takesIn K (.builtin "object.__class__") = some true ∧ PySem.W.mroIn K C (.type "object") = some true
theorem IsC.glo {K : PySem.W.Frag} {mg : Mg} {c : Str} (h : IsC K mg c) : ∃ a, mg c = some (.ref a) := h.ex.imp fun _ q => q.1
def isiCR (c0 : Str) : List R → Mst → Out R
  | [r, .t (.d (.glo c))], M => if c = c0 ∧ insC c M r = true then .ok (.t (.d (.bl true))) M else .bad
  | _, _ => .bad
section
variable {X : Cx} {W : WX} {σ : L2.St} {w w2 : Wd} {H H2 : Hp} {M M2 : Mst} {x : Str} {p : Pos}
theorem de_glo (h : ∃ a, X.mg x = some (.ref a)) (hg : Gl X x) (hd : (x == ("__debug__" : Str)) = false := by decide) : DE X W (.Name x p) (eC (.glo x)) :=
  let ⟨a, h⟩ := h; de_const (v := .ref a) (pe_glob hg h rfl hd) fun F => .glo h
theorem opL_isiC {c0 : Str} (D : IsC X.K X.mg c0) : OpL X (isiCR c0) (rIsi X.K) := by
  obtain ⟨C, hC0, cl, k1, k2, k3, k4⟩ := D.ex
  intro W σ w H M xs rs fp Q m q p
  unfold isiCR at p
  split at p
  · rename_i r c
    obtain ⟨v, v', f, f', rfl, q1, q2, _, _⟩ := q.two
    split at p
    · rename_i hi
      obtain ⟨rfl, hi⟩ := hi
      obtain ⟨q2, _⟩ := rr_dat q2
      cases q2 with
      | @glo _ a' hC =>
        obtain rfl : C = a' := by rw [hC0] at hC; cases hC; rfl
        obtain ⟨a, dx, fs, rfl, ha⟩ := insC_at hC0 m q1 hi
        exact ⟨.ref a, .ref C, .ref C, .ref C, true, rfl, .own C, .base (.ins ha cl k1 k2 k3 k4), by unfold PySem.W.kitOne; rw [if_pos (by simp)], (p.now m).val (C := fun _ => r) (.bl _)⟩
    · exact p.elim
  · exact p.elim
end
end DL

/-! DL32: what is not None of a display of trees, kept as trees; a loop over trees that spoils pairs of lists -/
namespace DL
open PySem L2 PySem.Spec PyProof.Rows
def keepT : List T → Option (List T)
  | [] => some []
  | .d x :: r => if isNonD x = true then keepT r else none
  | .lst a :: r => (keepT r).map (T.lst a :: ·)
  | .tup a :: r => (keepT r).map (T.tup a :: ·)
  | .ins c f :: r => (keepT r).map (T.ins c f :: ·)
  | .dic f :: r => (keepT r).map (T.dic f :: ·)
  | .tbl x q :: r => (keepT r).map (T.tbl x q :: ·)
def keepV (vs : List V) : List V := vs.filter fun v => !decide (v = .non)
section
variable {K : PySem.W.Frag} {mg : Mg} {F H H' : Hp}
theorem isNon_v {v : V} {x : D} (h : Dp K mg F v x) (e : isNonD x = true) : v = .non := by
  cases h with
  | non => rfl
  | _ => cases e
theorem keepV_non (vs : List V) : keepV (.non :: vs) = keepV vs := rfl
theorem keepV_ref (a : Addr) (vs : List V) : keepV (.ref a :: vs) = .ref a :: keepV vs := rfl
theorem trl_keep : ∀ {vs : List V} {ts us : List T} {fp : List Addr}, TRL K mg F H vs ts fp → keepT ts = some us → fp.Nodup → ∃ fp', TRL K mg F H (keepV vs) us fp' ∧ (∀ a ∈ fp', a ∈ fp) ∧ fp'.Nodup
  | _, _, us, _, .nil, e, nd => by
    have e : some [] = some us := e
    cases e
    exact ⟨[], .nil, fun _ z => z, nd⟩
  | _, _, us, _, .cons (t := t) (ts := ts) (f1 := f1) (f2 := f2) h r, e, nd => by
    obtain ⟨n1, n2, n3⟩ := List.nodup_append.mp nd
    have go : ∀ a : Addr, keepT (t :: ts) = (keepT ts).map (t :: ·) → TR K mg F H (.ref a) t f1 → ∃ fp', TRL K mg F H (keepV (.ref a :: _)) us fp' ∧ (∀ a ∈ fp', a ∈ f1 ++ f2) ∧ fp'.Nodup := fun a e2 h => by
      rw [e2] at e
      cases z : keepT ts with
      | none => rw [z] at e; cases e
      | some us' =>
        rw [z] at e
        cases e
        obtain ⟨fp', q, s, n⟩ := trl_keep r z n2
        refine ⟨f1 ++ fp', .cons h q, fun b hb => ?_, List.nodup_append.mpr ⟨n1, n, fun x hx y hy => n3 x hx y (s y hy)⟩⟩
        rcases List.mem_append.mp hb with z | z
        · exact List.mem_append_left _ z
        · exact List.mem_append_right _ (s b z)
    cases h with
    | @d v x hd =>
      have e : (if isNonD x = true then keepT ts else none) = some us := e
      split at e
      · rename_i hx
        obtain rfl := isNon_v hd hx
        obtain ⟨fp', q, s, n⟩ := trl_keep r e n2
        exact ⟨fp', q, fun b hb => s b hb, n⟩
      · cases e
    | lst h1 h2 h3 => exact go _ rfl (.lst h1 h2 h3)
    | tup h1 h2 h3 => exact go _ rfl (.tup h1 h2 h3)
    | ins h1 h2 hm h3 => exact go _ rfl (.ins h1 h2 hm h3)
    | dic h1 h2 h3 => exact go _ rfl (.dic h1 h2 h3)
    | tbl h1 h2 h3 h4 h5 => exact go _ rfl (.tbl h1 h2 h3 h4 h5)
theorem keepV_len (vs : List V) : (keepV vs).length ≤ vs.length := List.length_filter_le ..
theorem keepV_take {vs : List V} {i : Nat} {v : V} (h : vs[i]? = some v) : keepV (vs.take (i + 1)) = if v = .non then keepV (vs.take i) else keepV (vs.take i) ++ [v] := by
  rw [List.take_add_one, h]
  unfold keepV
  rw [List.filter_append]
  by_cases e : v = .non
  · rw [if_pos e]; subst e; simp
  · rw [if_neg e]; simp [e]
end
def eKeep (F : Den) : Den := fun ρ M => (F ρ M).bind fun r M1 => match r with
  | .t (.lst ts) => if ts.length ≤ 1000000 then (match keepT ts with
    | some us => .ok (.t (.lst us)) M1
    | none => .bad) else .bad
  | _ => .bad
section
variable {X : Cx} {W : WX} {σ : L2.St} {fs gs : List Addr} {w w2 : Wd} {H H2 : Hp} {M M2 : Mst}
variable {elt tg iter e e2 : Expr} {ifs : List Expr} {scope : Scope} {own : List (Str × Nat)} {pos p : Pos} {F : Den} {own2 : List Nat} {j : Nat}
theorem rd_keep {Q : VK} (hj : j ∈ own2) (hl : j < σ.length) (h : rdE X W (eKeep F) σ H Q) : tLc (iList X.K (rdE X W F)) (gName j) (tTest (tOp (fun x y H Q => y = .non ∧ Q (.bl (!decide (x = .non))) H) (tVar j) (tC .non))) (tVar j) own2 σ H Q := by
  obtain ⟨w, ρ, M, m, er, p⟩ := h
  refine ⟨w, ρ, M, m, er, p.bindF.imp fun w1 H1 M1 r _ _ z => ?_⟩
  obtain ⟨e1, m1, p1⟩ := z
  intro v fp q hf
  replace p1 := p1 fp hf
  cases r with
  | h k => exact p1.elim
  | t x =>
    cases x with
    | lst ts =>
      have p1 : Post X W σ fp w1 H1 M1 (if ts.length ≤ 1000000 then (match keepT ts with
        | some us => .ok (.t (.lst us)) M1
        | none => .bad) else .bad) (CE X [] w H M Q) := p1
      obtain ⟨q1, q2, q3⟩ := q
      cases q1 with
      | @lst a vs _ fl g1 g2 g3 =>
        split at p1
        · rename_i hlen
          cases z : keepT ts with
          | none => rw [z] at p1; exact p1.elim
          | some us =>
            rw [z] at p1
            have p1 : Post X W σ (a :: fl) w1 H1 M1 (.ok (.t (.lst us)) M1) (CE X [] w H M Q) := p1
            obtain ⟨nd1, nd2⟩ := List.nodup_cons.mp q2
            obtain ⟨fp', t1, t2, t3⟩ := trl_keep g3 z nd2
            refine ⟨a, rfl, ⟨vs, SqL.of g1⟩, fun L hL => ?_⟩
            have vlen : vs.length = ts.length := g3.length
            have dj : ∀ b ∈ fp', ∀ k, k < M1.length → b ∉ w1.φ k := fun b hb => q3 b (List.mem_cons_of_mem _ (t2 b hb))
            have seq : ∀ ws : List V, upd H1 L (.lst ws) a = some (.lst vs) := fun ws => by rw [upd_ne (ne_of_none g1 hL)]; exact g1
            refine ⟨fun i mm H' => i ≤ vs.length ∧ mm = vs.length - i ∧ H' = upd H1 L (.lst (keepV (vs.take i))), ⟨_, Nat.zero_le _, rfl, rfl⟩, ?_⟩
            rintro i mm H' ⟨hi, rfl, rfl⟩
            by_cases hlt : i < vs.length
            · refine .inr ⟨⟨vs, vs[i], SqL.of (seq _), List.getElem?_eq_getElem hlt⟩, fun H2 => H2 = upd H1 L (.lst (keepV (vs.take (i + 1)))), fun H2 e2 => ⟨_, by omega, hlt, rfl, e2⟩, fun x H2 ⟨e2, y⟩ => ?_⟩
              subst e2
              have hx : vs[i]? = some x := y vs (SqL.of (seq _))
              refine ⟨?_, ?_⟩
              · exact (wipe_set hj).trans (wipe_wipe σ own2)
              · have hl' : j < (L2.wipe σ own2).length := by rw [L2.wipe_length]; exact hl
                refine ⟨x, List.getElem?_set_self hl', rfl, _, rfl, ?_⟩
                rw [keepV_take hx]
                by_cases e3 : x = .non
                · rw [if_pos e3, decide_eq_true e3]
                  exact iteF rfl
                · rw [if_neg e3, decide_eq_false e3]
                  refine (if_pos rfl).mpr ⟨x, List.getElem?_set_self hl', _, upd_same, ?_, by rw [upd_upd]⟩
                  have := keepV_len (vs.take i)
                  rw [List.length_take] at this
                  have := big_le hlen
                  omega
            · have hi' : i = vs.length := by omega
              refine .inl ⟨⟨vs, SqL.of (seq _), by omega⟩, ?_⟩
              rw [hi', List.take_length]
              refine p1 w1 _ (Ext.new m1 hL) (m1.new hL) _ (L :: fp') (RR.newL m1 hL t1 t3 dj) fun b hb => ?_
              rcases List.mem_cons.mp hb with rfl | hb
              · exact .inl (e1.there _ hL)
              · exact hf b (List.mem_cons_of_mem _ (t2 b hb))
        · exact p1.elim
    | _ => exact p1.elim
variable {i x : Nat} {y nx np : Str} {py spos : Pos} {tg0 : Expr}
/-- y = [p for p in E if p is not None], the items trees that are changed later -/
theorem ds_keep {Gd : DenG} (hGd : ∀ v σ H Q, rdG X W Gd v σ H Q → gName i v σ H Q) (hc : X.calm = true) (hN : X.N.Nodup) (hy : X.N[i]? = some y) (hyl : X.env.scope.names.lookup y = some .local)
    (hsw : swapsWith (.ListComp elt [⟨tg, iter, ifs, 0⟩] scope pos) (some (.Name y py)) spos.line X.env = pure true) (hi : DE X W iter F) (ok : BlkOk X.N X.env.scope scope own)
    (hg : ∀ (s : Shared) (H : Hp) (C : Addr) (cl : List (Str × Addr)) (fp : List Addr), PG (Blk X scope s H C cl fp) tg (gName j))
    (ht : ∀ (s : Shared) (H : Hp) (C : Addr) (cl : List (Str × Addr)) (fp : List Addr), PTs (Blk X scope s H C cl fp) ifs (tTest (tOp (fun x y H Q => y = .non ∧ Q (.bl (!decide (x = .non))) H) (tVar j) (tC .non))))
    (he : ∀ (s : Shared) (H : Hp) (C : Addr) (cl : List (Str × Addr)) (fp : List Addr), PE (Blk X scope s H C cl fp) elt (tVar j)) (ho : own.map (·.2) = own2 := by rfl) (hj : j ∈ own2 := by decide) (hjN : j < X.N.length := by decide) (hs : ∀ x, foldedSetIterable iter X.env x = pure x := by intro _; rfl) :
    DS X W (.Assign [.Name y py] (.ListComp elt [⟨tg, iter, ifs, 0⟩] scope pos) spos) (sAsg (eKeep F) Gd) := by
  subst ho
  refine ⟨fun pins s σ H D I h => (ps_setLc (wi := iList X.K (rdE X W F)) hc hN hy hyl hsw (pi_list hi) ok hg ht he hs).run pins s σ H D I ?_⟩
  have hl : j < σ.length := by rw [I.len]; exact hjN
  exact rd_keep hj hl (rd_asg hGd h)
end
/-! ### a loop over the trees of a list: each a tuple of two lists; the first gets None, the second is cleared -/
def spoil1 : T → Option T
  | .tup [.lst xs, .lst ys] => if xs.length + 1 ≤ 1000000 then some (.tup [.lst (xs ++ [.d .non]), .lst []]) else none
  | _ => none
def spoilL : List T → Option (List T)
  | [] => some []
  | t :: r => match spoil1 t, spoilL r with
    | some u, some us => some (u :: us)
    | _, _ => none
def sSpoil (x p : Nat) : DenS := fun ρ M => match ρ[x]? with
  | some (some (.h k)) => (match M[k]? with
    | some (.lst ts) => (match spoilL ts with
      | some us => some (.nx (ρ.set p none), M.set k (.lst us))
      | none => none)
    | _ => none)
  | _ => none
theorem spoilL_len : ∀ {ts us : List T}, spoilL ts = some us → us.length = ts.length
  | [], us, e => by cases e; rfl
  | t :: r, us, e => by
    unfold spoilL at e
    split at e
    · rename_i u us' h1 h2
      cases e
      simp [spoilL_len h2]
    · cases e
theorem spoilL_at : ∀ {ts us : List T} {i : Nat} {t : T}, spoilL ts = some us → ts[i]? = some t → ∃ u, spoil1 t = some u ∧ us[i]? = some u
  | [], us, i, t, e, h => by simp at h
  | t' :: r, us, i, t, e, h => by
    unfold spoilL at e
    split at e
    · rename_i u us' h1 h2
      cases e
      cases i with
      | zero => simp at h; subst h; exact ⟨u, h1, rfl⟩
      | succ i =>
        obtain ⟨u', k1, k2⟩ := spoilL_at h2 (by simpa using h)
        exact ⟨u', k1, by simpa using k2⟩
    · cases e
/-- the first i are spoilt -/
def mixT (i : Nat) (us ts : List T) : List T := us.take i ++ ts.drop i
theorem mix_at {i : Nat} {us ts : List T} (hl : us.length = ts.length) (hi : i < ts.length) : (mixT i us ts)[i]? = ts[i]? := by
  unfold mixT
  rw [List.getElem?_append_right (by rw [List.length_take]; omega), List.length_take, List.getElem?_drop]
  congr 1
  omega
theorem mix_next {i : Nat} {us ts : List T} {u : T} (hl : us.length = ts.length) (hi : i < ts.length) (hu : us[i]? = some u) : (mixT i us ts).set i u = mixT (i + 1) us ts := by
  unfold mixT
  rw [List.set_append_right _ _ (by rw [List.length_take]; omega), List.length_take, Nat.min_eq_left (by omega), Nat.sub_self, List.drop_eq_getElem_cons hi, List.set_cons_zero, List.take_add_one, hu]
  simp
section
variable {X : Cx} {W : WX} {σ : L2.St} {w w2 : Wd} {H H2 : Hp} {M M2 : Mst}
theorem pair_at {k i : Nat} {ts : List T} {xs ys : List T} (hM : M[k]? = some (.lst ts)) (h : ts[i]? = some (.tup [.lst xs, .lst ys])) : atL M (k, [.i i]) = some (.tup [.lst xs, .lst ys]) ∧ atL M (k, [.i i, .i 0]) = some (.lst xs) ∧ atL M (k, [.i i, .i 1]) = some (.lst ys) := by
  refine ⟨?_, ?_, ?_⟩ <;>
  · unfold atL
    show (match M[k]? with
      | some t => subT _ t
      | none => none) = _
    rw [hM]
    show (match ts[i]? with
      | some t => subT _ t
      | none => none) = _
    rw [h]; rfl
theorem set_pair0 {k i : Nat} {ts : List T} {xs ys xs' : List T} (hM : M[k]? = some (.lst ts)) (h : ts[i]? = some (.tup [.lst xs, .lst ys])) : setL M (k, [.i i, .i 0]) (.lst xs') = M.set k (.lst (ts.set i (.tup [.lst xs', .lst ys]))) := by
  unfold setL
  show (match M[k]? with
    | some t => M.set k (setP [.i i, .i 0] t (.lst xs'))
    | none => M) = _
  rw [hM]
  show M.set k (match ts[i]? with
    | some t => .lst (ts.set i (setP [.i 0] t (.lst xs')))
    | none => .lst ts) = _
  rw [h]; rfl
theorem set_pair1 {k i : Nat} {ts : List T} {xs ys ys' : List T} (hM : M[k]? = some (.lst ts)) (h : ts[i]? = some (.tup [.lst xs, .lst ys])) : setL M (k, [.i i, .i 1]) (.lst ys') = M.set k (.lst (ts.set i (.tup [.lst xs, .lst ys']))) := by
  unfold setL
  show (match M[k]? with
    | some t => M.set k (setP [.i i, .i 1] t (.lst ys'))
    | none => M) = _
  rw [hM]
  show M.set k (match ts[i]? with
    | some t => .lst (ts.set i (setP [.i 1] t (.lst ys')))
    | none => .lst ts) = _
  rw [h]; rfl
/-- where the i-th pair stands -/
theorem pair_v {k i : Nat} {ts : List T} {xs ys : List T} (m : MR X.K X.mg w H M) (hM : M[k]? = some (.lst ts)) (h : ts[i]? = some (.tup [.lst xs, .lst ys])) :
    ∃ vs b a1 a2, H (w.α k) = some (.lst vs) ∧ vs.length = ts.length ∧ vs[i]? = some (.ref b) ∧ H b = some (.tup [.ref a1, .ref a2]) ∧ pathV H [.i i, .i 0] (.ref (w.α k)) = some (.ref a1) ∧ pathV H [.i i, .i 1] (.ref (w.α k)) = some (.ref a2) := by
  obtain ⟨q, _⟩ := m.obj k _ hM
  generalize hα : w.α k = α at q
  generalize w.φ k = φ at q
  cases q with
  | @lst _ vs _ fl g1 g2 g3 =>
    obtain ⟨v, f1, fm, f2, e1, _, e3, _⟩ := trl_at g3 h
    cases e3 with
    | @tup b us _ fl' k1 k2 k3 =>
      cases k3 with
      | @cons v1 vs1 _ _ _ _ t1 r1 =>
        cases r1 with
        | @cons v2 vs2 _ _ _ _ t2 r2 =>
          cases r2
          cases t1 with
          | @lst a1 _ _ _ _ _ _ =>
            cases t2 with
            | @lst a2 _ _ _ _ _ _ =>
              refine ⟨vs, b, a1, a2, g1, g3.length, e1, k1, ?_, ?_⟩
              · rw [pathV_lst g1 e1, pathV_tup k1 (show [V.ref a1, V.ref a2][0]? = some (V.ref a1) from rfl)]; rfl
              · rw [pathV_lst g1 e1, pathV_tup k1 (show [V.ref a1, V.ref a2][1]? = some (V.ref a2) from rfl)]; rfl
theorem ds_spoil {tg iter : Expr} {bd : List Stmt} {pos : Pos} {x p : Nat} (hp : PassesOwn (model X.prog X.w) X.A X.env X.xe) (hc : X.calm = true) (hxp : x ≠ p) (hi : PE X iter (tVar x)) (hg : PG X tg (gName p))
    (hb : PSs X bd (tSeq (tDrop (tBM X.K "list" rAppend (tOp (rIx X.K) (tVar p) (tC (.int 0))) (tCons (tC .non) tNil))) (tDrop (tBM0 X.K "list" rClear (tOp (rIx X.K) (tVar p) (tC (.int 1)))))))
    (hs : ∀ x, foldedSetIterable iter X.env x = pure x := by intro _; rfl) (hpN : p < X.N.length := by decide) : DS X W (.For tg iter bd [] pos) (sSpoil x p) := by
  refine ⟨fun pins s σ H Dn I h => (ps_for hp hc (pi_list hi) hg hb hs).run pins s σ H Dn I ?_⟩
  have hpl : p < σ.length := by rw [I.len]; exact hpN
  obtain ⟨w, ρ, M, m, er, q⟩ := h
  unfold sSpoil at q
  split at q
  · rename_i k hk
    split at q
    · rename_i ts hts
      split at q
      · rename_i us hus
        obtain ⟨v, hv, hkl, rfl⟩ := er.at_ x _ hk
        have ul := spoilL_len hus
        obtain ⟨q0, _⟩ := m.obj k _ hts
        have sl : ∃ vs, H (w.α k) = some (.lst vs) := by
          generalize w.α k = α at q0
          generalize w.φ k = φ at q0
          cases q0 with
          | @lst _ vs _ fl g1 g2 g3 => exact ⟨vs, g1⟩
        obtain ⟨vs0, hvs0⟩ := sl
        refine ⟨_, hv, w.α k, rfl, ⟨vs0, SqL.of hvs0⟩, ?_⟩
        have q : ∀ w' H' σ', Ext [] w H M w' H' (M.set k (.lst us)) → MR X.K X.mg w' H' (M.set k (.lst us)) → ER X.K X.mg w' (M.set k (.lst us)) σ' (ρ.set p none) → Dn.nx σ' H' := q
        refine ⟨fun i mm σ' H' => i ≤ ts.length ∧ mm = ts.length - i ∧ σ'.length = σ.length ∧ (∀ j, j ≠ p → σ'[j]? = σ[j]?) ∧ ∃ w', Ext [] w H M w' H' (M.set k (.lst (mixT i us ts))) ∧ MR X.K X.mg w' H' (M.set k (.lst (mixT i us ts))),
          ⟨_, Nat.zero_le _, rfl, rfl, fun _ _ => rfl, w, ?_, ?_⟩, ?_⟩
        · have e0 : M.set k (.lst (mixT 0 us ts)) = M := by
            unfold mixT
            simp only [List.take_zero, List.drop_zero, List.nil_append]
            apply List.ext_getElem?
            intro z
            rw [List.getElem?_set]
            split
            · rename_i e; subst e; first | exact hts.symm | (rw [if_pos hkl]; exact hts.symm)
            · rfl
          rw [e0]; exact Ext.refl m
        · have e0 : M.set k (.lst (mixT 0 us ts)) = M := by
            unfold mixT
            simp only [List.take_zero, List.drop_zero, List.nil_append]
            apply List.ext_getElem?
            intro z
            rw [List.getElem?_set]
            split
            · rename_i e; subst e; first | exact hts.symm | (rw [if_pos hkl]; exact hts.symm)
            · rfl
          rw [e0]; exact m
        · rintro i mm σ' H' ⟨hil, rfl, hσl, hσ, w', e', m'⟩
          have hkl' : k < (M.set k (.lst (mixT i us ts))).length := by rw [List.length_set]; exact hkl
          have hMk : (M.set k (.lst (mixT i us ts)))[k]? = some (.lst (mixT i us ts)) := List.getElem?_set_self hkl
          have hα : w'.α k = w.α k := e'.al k hkl
          by_cases hlt : i < ts.length
          · obtain ⟨t, ht⟩ : ∃ t, ts[i]? = some t := ⟨ts[i], List.getElem?_eq_getElem hlt⟩
            obtain ⟨u, hu1, hu2⟩ := spoilL_at hus ht
            unfold spoil1 at hu1
            split at hu1
            · rename_i xs ys
              split at hu1
              · rename_i hcap
                cases hu1
                have hmi : (mixT i us ts)[i]? = some (.tup [.lst xs, .lst ys]) := (mix_at ul hlt).trans ht
                obtain ⟨vs, b, a1, a2, c1, c2, c3, c4, c5, c6⟩ := pair_v m' hMk hmi
                rw [hα] at c1 c5 c6
                refine .inr ⟨⟨vs, .ref b, SqL.of c1, c3⟩, fun σ2 H2 => σ2.length = σ.length ∧ (∀ j, j ≠ p → σ2[j]? = σ[j]?) ∧ ∃ w2, Ext [] w H M w2 H2 (M.set k (.lst (mixT (i + 1) us ts))) ∧ MR X.K X.mg w2 H2 (M.set k (.lst (mixT (i + 1) us ts))), fun σ2 H2 ⟨z1, z2, z3⟩ => ⟨_, by omega, hlt, rfl, z1, z2, z3⟩, fun v H2 ⟨e2, y⟩ => ?_⟩
                subst e2
                have hvb := y vs (SqL.of c1)
                rw [c3] at hvb
                cases hvb
                have hp' : p < σ'.length := by rw [hσl]; exact hpl
                show tSeq _ _ _ (σ'.set p (some (.ref b))) H2
                obtain ⟨p1, p2, p3⟩ := pair_at hMk hmi
                obtain ⟨a, vs1, fl1, h1, h2, h3, h4, h5, hk6, h6⟩ := put_loc m' p2
                have h1 : pathV H2 [.i i, .i 0] (.ref (w'.α k)) = some (.ref a) := h1
                rw [hα, c5] at h1
                cases h1
                obtain ⟨w4, e4, m4⟩ := h6 (vs1 ++ [.non]) (xs ++ [.d .non]) (fl1 ++ ([] ++ [])) [] (trl_app h3 (.cons (.d .non) .nil)) (by simpa using (List.nodup_cons.mp h4).2) fun b hb => .inl (by simpa using hb)
                rw [set_pair0 hMk hmi, List.set_set] at e4 m4
                refine ⟨.ref b, List.getElem?_set_self hp', .inr (.inl ⟨b, _, 0, .ref a1, rfl, rfl, SqT.of c4, rfl, lst_ty h2, a1, vs1, .non, rfl, rfl, h2, ?_, ?_⟩)⟩
                · rw [h3.length]; have := big_le hcap; omega
                · have hMk2 : (M.set k (.lst ((mixT i us ts).set i (.tup [.lst (xs ++ [.d .non]), .lst ys]))))[k]? = some (.lst ((mixT i us ts).set i (.tup [.lst (xs ++ [.d .non]), .lst ys]))) := List.getElem?_set_self hkl
                  have hil2 : i < (mixT i us ts).length := (List.getElem?_eq_some_iff.mp hmi).1
                  have hmi2 : ((mixT i us ts).set i (.tup [.lst (xs ++ [.d .non]), .lst ys]))[i]? = some (.tup [.lst (xs ++ [.d .non]), .lst ys]) := List.getElem?_set_self hil2
                  have hα4 : w4.α k = w.α k := (e4.al k hkl').trans hα
                  obtain ⟨vs', b', a1', a2', d1, d2, d3, d4, d5, d6⟩ := pair_v m4 hMk2 hmi2
                  rw [hα4] at d1 d5 d6
                  have nb : ∀ {z : Addr} {o : HO}, H2 z = some o → (∀ l, o ≠ .lst l) → upd H2 a1 (.lst (vs1 ++ [.non])) z = some o := fun {z o} hz hn => by
                    rw [upd_ne (fun e => by rw [e, h2] at hz; cases hz; exact hn _ rfl)]; exact hz
                  have na : w.α k ≠ a1 := fun e => by
                    have d0 := pathV_lst (H := H2) (π := [.i 0]) c1 c3
                    rw [c5] at d0
                    have hb4 := nb c4 (fun _ z => nomatch z)
                    rw [e, upd_same] at d1
                    injection d1 with d1
                    injection d1 with d1
                    rw [e, h2] at c1
                    injection c1 with c1
                    injection c1 with c1
                    subst c1
                    have := congrArg List.length d1
                    rw [List.length_append, d2, List.length_set, ← c2] at this
                    simp at this
                  rw [upd_ne na, c1] at d1
                  cases d1
                  rw [c3] at d3
                  cases d3
                  rw [nb c4 (fun _ z => nomatch z)] at d4
                  cases d4
                  obtain ⟨r1, r2, r3⟩ := pair_at hMk2 hmi2
                  obtain ⟨a', vs2, fl2, g1, g2, g3, g4, g5, gk6, g6⟩ := put_loc m4 r3
                  have g1 : pathV (upd H2 a1 (.lst (vs1 ++ [.non]))) [.i i, .i 1] (.ref (w4.α k)) = some (.ref a') := g1
                  rw [hα4, d6] at g1
                  cases g1
                  obtain ⟨w5, e5, m5⟩ := g6 [] [] [] [] .nil List.nodup_nil fun _ z => nomatch z
                  rw [set_pair1 hMk2 hmi2, List.set_set, List.set_set, mix_next ul hlt hu2] at e5 m5
                  refine ⟨.ref b, List.getElem?_set_self hp', .inr (.inl ⟨b, _, 1, .ref a2, rfl, rfl, SqT.of (nb c4 (fun _ z => nomatch z)), rfl, lst_ty g2, a2, vs2, rfl, rfl, g2, ?_⟩)⟩
                  exact ⟨by rw [List.length_set]; exact hσl, fun j hj => by rw [List.getElem?_set_ne (Ne.symm hj)]; exact hσ j hj, w5, (e'.trans0 e4).trans0 e5, m5⟩
              · cases hu1
            · cases hu1
          · have hi' : i = ts.length := by omega
            have em : mixT i us ts = us := by
              unfold mixT
              rw [hi', List.drop_length, List.append_nil, ← ul, List.take_length]
            rw [em] at e' m' hMk
            refine .inl ⟨?_, ?_⟩
            · obtain ⟨q1, _⟩ := m'.obj k _ hMk
              rw [hα] at q1
              generalize hz : w.α k = α at q1
              generalize w'.φ k = φ at q1
              cases q1 with
              | @lst _ vs _ fl g1 g2 g3 => exact ⟨vs, SqL.of g1, by rw [g3.length, ul]; omega⟩
            · refine q w' H' σ' e' m' ⟨by rw [hσl, List.length_set]; exact er.len, fun j y hy => ?_⟩
              have hjp : j ≠ p := fun e => by
                rw [e] at hy
                by_cases z : p < ρ.length
                · rw [List.getElem?_set_self z] at hy; cases hy
                · rw [List.getElem?_eq_none (by simpa using z)] at hy; cases hy
              rw [List.getElem?_set_ne (Ne.symm hjp)] at hy
              obtain ⟨v, h1, h2⟩ := er.at_ j y hy
              exact ⟨v, (hσ j hjp).trans h1, h2.stay e'⟩
      · exact q.elim
    · exact q.elim
  · exact q.elim
end
/-! ### x in (A, B): data of any depth in a tuple -/
section
variable {X : Cx}
def rInT (K : PySem.W.Frag) : R2 := fun x y H Q => ∃ d ds, L2.Dp K H x d ∧ L2.Dp K H y (.tuple ds) ∧ SeqAt.shaped d = true ∧ SeqAt.shaped (.list ds) = true ∧ Q (.bl (ds.any fun z => PyData.eqv z d)) H
theorem op_inT (hu : X.A.units + 65 < cLine) : OpR X (compareOp .In) (rInT X.K) := by
  intro pins s σ H x y v u Q I rx ry h
  obtain ⟨d, ds, hd, he, sd, se, q⟩ := h
  obtain ⟨as, r1⟩ := L2.Dp.reads I d x v hd rx
  obtain ⟨bs, r2⟩ := L2.Dp.reads I (.tuple ds) y u he ry
  exact SeqAt.in_tuple_reads r2 r1 (SeqAt.canLay_of_shaped se) (SeqAt.canLay_of_shaped sd) (room_in_shaped sd hu) ⟨.bl _, H, I, rfl, q⟩
def inTOp (x c : D) : Option D := match c with
  | .tupP _ ds => if okD 12 x = true ∧ okD 12 (.lst ds) = true then some (.bl (memD x ds)) else none
  | _ => none
theorem op2_inT : Op2 X (sc2 inTOp) (rInT X.K) := op2_sc fun F H x y d1 d2 d Q h1 h2 hd q => by
  unfold inTOp at hd
  split at hd
  · split at hd
    · rename_i p ds hk
      cases hd
      have hk2 : okD 12 (.tupP p ds) = true := hk.2
      have h2' := Dp.py 12 h2 hk2
      have s1 := okD_shaped (by decide) hk.1
      have s2 := okD_shaped (by decide) hk.2
      unfold pyd at h2' s2
      exact ⟨_, _, Dp.py 12 h1 hk.1, h2', s1, s2, by rw [mem_py]; exact q _ (.bl _)⟩
    · cases hd
  · cases hd
end
end DL

/-! DL33: methods and classes called by keywords; len and repr by the class's own defs; == with a list; xs[::-1] -/
namespace DL
open PySem L2 PySem.Spec PyProof.Rows
structure MethK (P : Program) (w : World) (K : PySem.W.Frag) (mg : Mg) (base : Heap) (c m : Str) (k : Nat) (ks : List Str) (π : List Nat) (G : Fn) : Prop where
  ex : ∃ C f, mg c = some (.ref C) ∧ Cls K C ∧ Meth K C m f ∧ FOkK P w K mg base k f ks π G
structure MakeK (P : Program) (w : World) (K : PySem.W.Frag) (mg : Mg) (base : Heap) (c : Str) (k : Nat) (ks : List Str) (π : List Nat) (G : Fn) : Prop where
  ex : ∃ C f, mg c = some (.ref C) ∧ Mk K C f ∧ FOkK P w K mg base k f ks π G
def eMethK (c m : Str) (π : List Nat) (G : Fn) (Fo : Den) (A : DenA) : Den := fun ρ M => (Fo ρ M).bind fun r M1 => match insOf M1 r with
  | some (c', ns) => if c' = c ∧ m ∉ ns then (A ρ M1).bind fun rs M2 => if (r :: rs).length = π.length then G (permL π (.d .non) ((r :: rs).map svR)) M2 else .bad else .bad
  | none => .bad
def eMakeK (c : Str) (π : List Nat) (G : Fn) (A : DenA) : Den := fun ρ M => (A ρ M).bind fun rs M1 => if rs.length + 1 = π.length then (cutX M1.length (G (permL π (.d .non) (.h M1.length :: rs.map svR)) (M1 ++ [.ins c []]))).bind fun r M2 => match r with
  | .t (.d .non) => .ok (.t (M2.getD M1.length (.d .non))) (M2.take M1.length)
  | _ => .bad
  else .bad
section
variable {X : Cx} {W : WX} {σ : L2.St} {fs gs : List Addr} {w w2 : Wd} {H H2 : Hp} {M M2 : Mst}
variable {e o : Expr} {es : List Expr} {kws : List Keyword} {Fe Fo Fv : Den} {A : DenA} {pos p apos : Pos} {x m f : Str} {k : Nat} {ps ks : List Str} {π : List Nat} {G : Fn} {cs : List Str} {c : Str}
theorem rd_methK {C : Addr} (hC : X.mg c = some (.ref C)) {Q : VK} (h : rdE X W (eMethK c m π G Fo A) σ H Q) :
    rdE X W Fo σ H fun x H1 => ∃ a dx fs, x = .ref a ∧ H1 a = some (.ins C dx fs) ∧ fs.lookup m = none ∧ rdA X W A σ H1 fun vs H2 => vs.length + 1 = π.length ∧ spD X.K X.mg π.length G (permL π .non (x :: vs)) H2 Q (WE W σ) := by
  obtain ⟨w, ρ, M, wm, er, p⟩ := h
  refine ⟨w, ρ, M, wm, er, p.bindF.imp fun w1 H1 M1 r _ _ z => ?_⟩
  obtain ⟨e1, m1, p1⟩ := z
  intro v fp q hf
  replace p1 := p1 fp hf
  split at p1
  · rename_i c' ns hi
    split at p1
    · rename_i hc
      obtain ⟨rfl, hn⟩ := hc
      obtain ⟨a, C', dx, fs, rfl, ha, hC', hk⟩ := ins_at m1 q hi
      obtain rfl : C = C' := by rw [hC] at hC'; cases hC'; rfl
      refine ⟨a, dx, fs, rfl, ha, no_key (hk ▸ hn), w1, ρ, M1, m1, er.stay e1, (Post.bindF p1).imp fun w2 H2 M2 rs _ _ z => ?_⟩
      obtain ⟨e2, m2, p2⟩ := z
      intro vs f2 q2 hf2
      have dj : ∀ a ∈ fp, a ∉ f2 := q.apart hf2
      have hp : ∀ a ∈ fp ++ f2, Pm fp w1 H1 M1 a := fun a ha => (List.mem_append.mp ha).elim (fun z => .inr (.inr z)) fun z => pm_nil (hf2 a z) _
      have hp' : ∀ a ∈ fp ++ f2, Pm [] w H M a := fun a ha => (List.mem_append.mp ha).elim (hf a) fun z => e1.pm (gs := []) (fun _ z => nomatch z) (hf2 a z)
      replace p2 := p2 _ hp
      split at p2
      · rename_i hl
        have q3 : RRL X.K X.mg w2 H2 M2 (V.ref a :: vs) (r :: rs) (fp ++ f2) := .cons (q.stay e2 fun _ _ z => nomatch z) q2 dj
        obtain ⟨w3, e3, m3, v3⟩ := settleL m2 q3
        exact ⟨by rw [← hl, ← q3.length]; rfl, w3, _, M2, m3, perm_sv v3 π, by simp [permL], PostC.of p2 (e1.trans0 e2) hp' e3⟩
      · exact p2.elim
    · exact p1.elim
  · exact p1.elim
/-- o.m(k = e, ..) -/
theorem de_methK {pl : Sem Bool} (D : MethK X.prog X.w X.K X.mg X.base c m k ks π G) (hr : Room k X.A) (tk : Takes X W) (ho : DE X W o Fo) (hkw : DK X W kws A)
    (hl : 1 + ks.length = π.length := by rfl) (hall : (backToKw pos (keywordEach kws X.env)).all (·.1.isSome) = true := by rfl) (hks : (backToKw pos (keywordEach kws X.env)).filterMap (·.1) = ks := by rfl)
    (hpl : ((backTo pos (starEach [] X.env)).any (·.1) || (backToKw pos (keywordEach kws X.env)).any (·.1.isNone)) = false := by rfl)
    (ht : eval (.Call (.Attribute o m apos) [] kws pos) X.env = (do
      let ov ← eval o X.env
      standAt apos.atName
      let (f, first) ← holding [ov] (getMethod ov m pl)
      callWith pos f first (backTo pos (starEach [] X.env)) (backToKw pos (keywordEach kws X.env))) := by rfl) :
    DE X W (.Call (.Attribute o m apos) [] kws pos) (eMethK c m π G Fo A) := by
  obtain ⟨C, f, hC, cl, hm, F⟩ := D.ex
  refine ⟨fun pins s σ H Q I h => ?_⟩
  refine PySem.W.methodCall_KW (pl := pl) (thn (ho.run pins s σ H _ I (rd_methK hC h)) fun u s1 ⟨x, H1, I1, rx, a, dx, fs, ex, ea, l, q⟩ => ?_) ht
  subst ex
  obtain rfl : u = Value.ref a := rx
  refine getmeth_ok I1 ea cl hm l ?_
  refine PySem.W.callWith_KW0 (first := [.ref a]) (h₀ := X.base) I.ok.mod.kin hm.kp hall (thn (hkw.run pos pins s1 σ H1 _ I1 q) fun ws s2 ⟨zs, H2, I2, rz, hn, q2⟩ => ⟨I2.kIn, ?_⟩) hpl
  rw [hks]
  exact run_K F hr tk I2 (us := [.ref a]) (vs := [.ref a]) (.cons rfl .nil) rz hl (by rw [← rz.length]; omega) q2
theorem run_makeK {C f : Addr} (Mk' : Mk X.K C f) (F : FOkK X.prog X.w X.K X.mg X.base k f ks π G) (hr : Room (k + 1) X.A) (tk : Takes X W) {pins : List (Addr × Obj)} {s : Shared} {Q : VK} {ws : List Value} {zs : List V} (I : Inv X pins σ H s) (rz : Vals zs ws) (h1 : 1 + ks.length = π.length) (h2 : ws.length = ks.length)
    (h : ∀ x dx, H x = none → H dx = none → dx ≠ x → spD X.K X.mg π.length G (permL π .non (.ref x :: zs)) (upd (upd H dx (.own x)) x (.ins C dx [])) (fun v H2 => v = .non ∧ Q (.ref x) H2) (WE W σ)) :
    wpAny (model X.prog X.w) X.A (call (.ref C) [] (ks.zip ws)) (EP X pins σ Q) X.xe s := by
  obtain ⟨fd, ps, hps, F, hb⟩ := F
  have hq := h (s.heap.objs.size + 1) s.heap.objs.size (I.hok.fresh (Nat.le_succ _)) (I.hok.fresh (Nat.le_refl _)) (Nat.ne_of_lt (Nat.lt_succ_self _))
  have I2 := Inv.made (C := C) I
  have r2 : Vals (permL π .non (V.ref (s.heap.objs.size + 1) :: zs)) (permL π .none (Value.ref (s.heap.objs.size + 1) :: ws)) := perm_vals (show Vals (V.ref (s.heap.objs.size + 1) :: zs) (Value.ref (s.heap.objs.size + 1) :: ws) from .cons rfl rz) π
  rw [← hps] at hq
  refine wpAny_call (make_map (f := f) I.kIn Mk'.makes Mk'.init (beq_iff_eq.mp Mk'.fn) (codeAny_mono (F.run _ X.stack _ _ ⟨[Value.ref (s.heap.objs.size + 1)], ks.zip ws⟩ (permL π .none ([Value.ref (s.heap.objs.size + 1)] ++ ws)) (permL π .non (V.ref (s.heap.objs.size + 1) :: zs)) _ (WE W σ) (hr.make C [] (ks.zip ws))
    (I2.env0.make C [] (ks.zip ws)) (hb _ [Value.ref (s.heap.objs.size + 1)] ws h1 h2) r2 hq) fun r s' hq' => ?_))
  cases r with
  | error e => exact (passAt tk σ) pins _ _ e s' I2 hq'
  | ok fl =>
    cases fl with
    | ret u =>
      obtain ⟨v, H', I3, rv, ev, q3⟩ := I2.after hq'
      subst ev
      exact ⟨rv, ⟨V.ref (s.heap.objs.size + 1), H', I3, rfl, q3⟩⟩
    | next => exact False.elim hq'
    | brk => exact False.elim hq'
    | cont => exact False.elim hq'
theorem rd_makeK {C : Addr} (hC : X.mg c = some (.ref C)) {Q : VK} (h : rdE X W (eMakeK c π G A) σ H Q) :
    rdA X W A σ H fun vs H1 => vs.length + 1 = π.length ∧ ∀ x dx, H1 x = none → H1 dx = none → dx ≠ x → spD X.K X.mg π.length G (permL π .non (.ref x :: vs)) (upd (upd H1 dx (.own x)) x (.ins C dx [])) (fun v H2 => v = .non ∧ Q (.ref x) H2) (WE W σ) := by
  obtain ⟨w, ρ, M, wm, er, p⟩ := h
  refine ⟨w, ρ, M, wm, er, p.bindF.imp fun w1 H1 M1 rs _ _ z => ?_⟩
  obtain ⟨e1, m1, p1⟩ := z
  intro vs fp q hf
  replace p1 := p1 fp hf
  split at p1
  · rename_i hl
    refine ⟨by rw [q.length]; exact hl, ?_⟩
    intro x dx hx hdx ne
    obtain ⟨w2, e2, m2, v2⟩ := settleL m1 q
    obtain ⟨w3, e3, m3, a3⟩ := ins_new (c := c) (C := C) m2 hC hx hdx ne
    have v3 : VRL X.K X.mg w3 (M1 ++ [.ins c []]) (V.ref x :: vs) (.h M1.length :: rs.map svR) := .cons ⟨by simp, by rw [a3]⟩ (v2.stay e3)
    refine ⟨w3, permL π (.d .non) (.h M1.length :: rs.map svR), _, m3, perm_sv v3 π, by simp [permL], ?_⟩
    have e23 : Ext fp w1 H1 M1 w3 (upd (upd H1 dx (.own x)) x (.ins C dx [])) (M1 ++ [.ins c []]) := e2.trans0 e3
    cases z : G (permL π (.d .non) (.h M1.length :: rs.map svR)) (M1 ++ [.ins c []]) with
    | bad => rw [z] at p1; exact p1
    | exc ex M' =>
      rw [z] at p1
      intro w' H' cls d e' m' xr
      exact p1 w' H' cls d (e23.trans0 e').take (m'.take _) xr
    | ok r M' =>
      rw [z] at p1
      intro w' H' v fp' e' m' q' hq'
      have p1 : Post X W σ fp w1 H1 M1 (match r with
        | .t (.d .non) => .ok (.t (M'.getD M1.length (.d .non))) (M'.take M1.length)
        | _ => .bad) (CE X [] w H M Q) := p1
      split at p1
      · have e4 := e23.trans0 e'
        obtain ⟨g1, _⟩ := rr_dat q'
        cases g1
        refine ⟨rfl, ?_⟩
        have hlt : M1.length < M'.length := Nat.lt_of_lt_of_le (by simp) e'.len
        have hal : w'.α M1.length = x := (e'.al M1.length (by simp)).trans a3
        obtain ⟨f5, r5, g5⟩ := RR.ret (n := M1.length) (r := .h M1.length) (v := .ref (w'.α M1.length)) (fp := []) (Nat.le_of_lt hlt) m' ⟨hlt, rfl, rfl⟩
        rw [show retR M1.length M' (.h M1.length) = .t (M'.getD M1.length (.d .non)) from if_neg (Nat.lt_irrefl _), hal] at r5
        refine p1 w' H' e4.take (m'.take _) _ f5 r5 fun a ha => ?_
        rcases g5 a ha with z | ⟨k, hk, z⟩
        · cases z
        · exact e1.pm hf (e4.ph k hk a z)
      · exact p1.elim
  · exact p1.elim
/-- C(k = e, ..) -/
theorem de_makeK (D : MakeK X.prog X.w X.K X.mg X.base x k ks π G) (hr : Room (k + 1) X.A) (tk : Takes X W) (hg : Gl X x) (hkw : DK X W kws A)
    (hl : 1 + ks.length = π.length := by rfl) (hall : (backToKw pos (keywordEach kws X.env)).all (·.1.isSome) = true := by rfl) (hks : (backToKw pos (keywordEach kws X.env)).filterMap (·.1) = ks := by rfl)
    (hdb : (x == ("__debug__" : Str)) = false := by decide) (hpl : ((backTo pos (starEach [] X.env)).any (·.1) || (backToKw pos (keywordEach kws X.env)).any (·.1.isNone)) = false := by rfl) :
    DE X W (.Call (.Name x p) [] kws pos) (eMakeK x π G A) := by
  obtain ⟨C, f, hC, mk, F⟩ := D.ex
  refine ⟨fun pins s σ H Q I h => ?_⟩
  refine wpAny_Call_Name_kw (ld_glob I hg hC ?_ hdb)
  refine PySem.W.callWith_KW0 (h₀ := X.base) I.ok.mod.kin mk.kp hall (thn (hkw.run pos pins s σ H _ I (rd_makeK hC h)) fun ws s2 ⟨zs, H2, I2, rz, hn, q2⟩ => ⟨I2.kIn, ?_⟩) hpl
  rw [hks]
  exact run_makeK mk F hr tk I2 rz hl (by rw [← rz.length]; omega) q2
/-! ### len(o), repr(o) -/
def rLenO (X : Cx) (C : Addr) (G : Fn) : List V → Hp → VK → Prop := fun xs H Q => ∃ a dx fs, xs = [.ref a] ∧ H a = some (.ins C dx fs) ∧ spD X.K X.mg 1 G [.ref a] H (fun v H' => ∃ n : Int, v = .int n ∧ (0 ≤ n ∧ n < 2 ^ 63) ∧ Q v H') (fun _ _ _ => False)
def rReprO (X : Cx) (C : Addr) (G : Fn) : List V → Hp → VK → Prop := fun xs H Q => ∃ a dx fs, xs = [.ref a] ∧ H a = some (.ins C dx fs) ∧ spD X.K X.mg 1 G [.ref a] H (fun v H' => ∃ x : Str, v = .str x ∧ Q v H') (fun _ _ _ => False)
def lenBk : R → Mst → Out R
  | .t (.d (.int n)), M => if 0 ≤ n ∧ n < 2 ^ 63 then .ok (.t (.d (.int n))) M else .bad
  | _, _ => .bad
def strBk : R → Mst → Out R
  | .t (.d (.str n)), M => .ok (.t (.d (.str n))) M
  | _, _ => .bad
def gLenO (c : Str) (G : Fn) : List R → Mst → Out R := fun rs M => match rs with
  | [r] => if insC c M r = true then (noX (G [svR r] M)).bind lenBk else .bad
  | _ => .bad
def gReprO (c : Str) (G : Fn) : List R → Mst → Out R := fun rs M => match rs with
  | [r] => if insC c M r = true then (noX (G [svR r] M)).bind strBk else .bad
  | _ => .bad
theorem own_in1 {g : Addr} (F : FOk X.prog X.w X.K X.mg X.base k g ps G) (hr : Room (k + 1) X.A) {pins : List (Addr × Obj)} {s : Shared} {Q : VK} {us : List Value} {vs : List V} (I : Inv X pins σ H s) (r : Vals vs us) {E' : Value → Shared → Prop}
    (h : spD X.K X.mg ps.length G vs H Q (fun _ _ _ => False)) : wpAny (model X.prog X.w) X.A.in1 (call (.ref g) us) (EP X pins σ Q) E' s := by
  obtain ⟨fd, F, hb⟩ := F
  have hl : us.length = ps.length := by rw [← r.length]; exact F.len _ _ _ _ h
  have b := hb s us I.kIn (by rw [List.append_nil]; exact hl)
  rw [List.append_nil] at b
  refine wpAny_call (codeAny_mono (F.run X.A.in1 X.stack s H ⟨us, []⟩ us vs Q (fun _ _ _ => False) hr.in1 I.env0.in1 b r h) fun r s' hq => ?_)
  cases r with
  | error er =>
    obtain ⟨_, _, _, _, _, _, _, _, _, _, _, _, z⟩ := hq
    exact z.elim
  | ok fl =>
    cases fl with
    | ret u => exact I.after hq
    | next => exact False.elim hq
    | brk => exact False.elim hq
    | cont => exact False.elim hq
theorem call_lenO {C g : Addr} (hm : Meth X.K C "__len__" g) (F : FOk X.prog X.w X.K X.mg X.base k g ps G) (hl : ps.length = 1) (hr : Room (k + 1) X.A) : CallR X (.builtin "len") (rLenO X C G) := by
  intro pins s σ H xs us Q I r ⟨a, dx, fs, hx, ha, h⟩
  subst hx
  cases r with
  | @cons _ u _ _ r1 r2 =>
    cases r2
    obtain rfl : u = Value.ref a := r1
    obtain ⟨mA, J, _⟩ := ins_get I.hok ha
    obtain ⟨od, J, _⟩ := J.look
    obtain ⟨m', hF⟩ := I.fr
    refine PySem.W.len_K hF I.ok.mod.kin J hm.at_ hm.fn (wpAny_mono (own_in1 F hr I (us := [.ref a]) (vs := [.ref a]) (.cons rfl .nil) (by rw [hl]; exact h)) (fun v s' z => ?_) fun _ _ e => e)
    obtain ⟨v', H', I', rv, n, rfl, hn, q⟩ := z
    obtain ⟨t, rfl⟩ := rv
    exact ⟨hn, .int n, H', I'.tok _, ⟨_, rfl⟩, q⟩
theorem call_reprO {C g : Addr} (hm : Meth X.K C "__repr__" g) (F : FOk X.prog X.w X.K X.mg X.base k g ps G) (hl : ps.length = 1) (hr : Room (k + 1) X.A) : CallR X (.builtin "repr") (rReprO X C G) := by
  intro pins s σ H xs us Q I r ⟨a, dx, fs, hx, ha, h⟩
  subst hx
  cases r with
  | @cons _ u _ _ r1 r2 =>
    cases r2
    obtain rfl : u = Value.ref a := r1
    obtain ⟨mA, J, _⟩ := ins_get I.hok ha
    obtain ⟨od, J, _⟩ := J.look
    obtain ⟨m', hF⟩ := I.fr
    refine PySem.W.repr_K hr.in1.units0 hF I.ok.mod.kin J hm.at_ hm.fn (wpAny_mono (own_in1 F hr I (us := [.ref a]) (vs := [.ref a]) (.cons rfl .nil) (by rw [hl]; exact h)) (fun v s' z => ?_) fun _ _ e => e)
    obtain ⟨v', H', I', rv, x, rfl, q⟩ := z
    obtain ⟨t, rfl⟩ := rv
    exact ⟨.str x, H', I', ⟨_, rfl⟩, q⟩
theorem opL_lenO {C : Addr} (hC : X.mg c = some (.ref C)) : OpL X (gLenO c G) (rLenO X C G) := by
  intro W σ w H M xs rs fp Q m q p
  unfold gLenO at p
  split at p
  · rename_i r
    split at p
    · rename_i hi
      cases q with
      | @cons v vs _ _ f1 f2 q1 q2 dj =>
        have q0 := q2
        cases q2
        obtain ⟨a, dx, fs, rfl, ha⟩ := insC_at hC m q1 hi
        refine ⟨a, dx, fs, rfl, ha, post_own (E := fun _ _ _ => False) (rs := [r]) (X := X) (W := W) (σ := σ) m (.cons q1 .nil dj) ?_⟩
        show Post X W σ _ w H M (noX (G [svR r] M)) _
        cases z : G [svR r] M with
        | bad => rw [z] at p; exact p.elim
        | exc x M' => rw [z] at p; exact p.elim
        | ok r' M' =>
          rw [z] at p
          have p : Post X W σ (f1 ++ []) w H M (lenBk r' M') (CE X (f1 ++ []) w H M Q) := p
          intro w' H' e' m' v fp' q' hf
          unfold lenBk at p
          split at p
          · rename_i n
            split at p
            · rename_i hn
              have q'' := q'
              obtain ⟨g1, _⟩ := rr_dat q''
              cases g1
              exact ⟨_, rfl, hn, p w' H' e' m' _ fp' q' hf⟩
            · exact p.elim
          · exact p.elim
    · exact p.elim
  · exact p.elim
theorem opL_reprO {C : Addr} (hC : X.mg c = some (.ref C)) : OpL X (gReprO c G) (rReprO X C G) := by
  intro W σ w H M xs rs fp Q m q p
  unfold gReprO at p
  split at p
  · rename_i r
    split at p
    · rename_i hi
      cases q with
      | @cons v vs _ _ f1 f2 q1 q2 dj =>
        have q0 := q2
        cases q2
        obtain ⟨a, dx, fs, rfl, ha⟩ := insC_at hC m q1 hi
        refine ⟨a, dx, fs, rfl, ha, post_own (E := fun _ _ _ => False) (rs := [r]) (X := X) (W := W) (σ := σ) m (.cons q1 .nil dj) ?_⟩
        show Post X W σ _ w H M (noX (G [svR r] M)) _
        cases z : G [svR r] M with
        | bad => rw [z] at p; exact p.elim
        | exc x M' => rw [z] at p; exact p.elim
        | ok r' M' =>
          rw [z] at p
          have p : Post X W σ (f1 ++ []) w H M (strBk r' M') (CE X (f1 ++ []) w H M Q) := p
          intro w' H' e' m' v fp' q' hf
          unfold strBk at p
          split at p
          · rename_i n
            have q'' := q'
            obtain ⟨g1, _⟩ := rr_dat q''
            cases g1
            exact ⟨_, rfl, p w' H' e' m' _ fp' q' hf⟩
          · exact p.elim
    · exact p.elim
  · exact p.elim
/-! ### o == a list -/
def rOwnL (X : Cx) (C : Addr) (G : Fn) : R2 := fun x y H Q => ∃ a b dx fs ys, x = .ref a ∧ y = .ref b ∧ H a = some (.ins C dx fs) ∧ SqL X.K H b ys ∧ spD X.K X.mg 2 G [x, y] H Q (fun _ _ _ => False)
def lstC : D → Bool
  | .lst _ => true
  | _ => false
def gOwnL (c : Str) (G : Fn) : R → R → Mst → Out R := fun r1 r2 M => if insC c M r1 = true ∧ lstC (frzR M r2) = true then noX (G [svR r1, svR r2] M) else .bad
theorem lst_at {v : V} {d : D} (h : Dp X.K X.mg H v d) (e : lstC d = true) : ∃ b ys, v = .ref b ∧ SqL X.K H b ys := by
  cases h with
  | lst h1 h2 => exact ⟨_, _, rfl, SqL.of h1⟩
  | _ => cases e
theorem op2_ownL {C : Addr} (hC : X.mg c = some (.ref C)) : Op2 X (gOwnL c G) (rOwnL X C G) := by
  intro W σ w H M x y r1 r2 f1 f2 Q m q1 q2 dj p
  unfold gOwnL at p
  split at p
  · rename_i hi
    obtain ⟨a, dx, fs, rfl, ha⟩ := insC_at hC m q1 hi.1
    obtain ⟨b, ys, rfl, hb⟩ := lst_at (seen m q2) hi.2
    refine ⟨a, b, dx, fs, ys, rfl, rfl, ha, hb, ?_⟩
    have q : RRL X.K X.mg w H M [V.ref a, V.ref b] [r1, r2] (f1 ++ (f2 ++ [])) := .cons q1 (.cons q2 .nil fun _ _ z => nomatch z) (by simpa using dj)
    rw [List.append_nil] at q
    exact post_own m q p
  · exact p.elim
theorem op_ownEqL {a b : Expr} {C g : Addr} (hn : PySem.W.notFirst X.K C (.type "list") = true) (hm : Meth X.K C "__eq__" g) (F : FOk X.prog X.w X.K X.mg X.base k g ps G) (hl : ps.length = 2) (hr : Room k X.A) : OpR X (compareOp .Eq) (rOwnL X C G) := by
  intro pins s σ H x y v u Q I rx ry ⟨a, b, dx, fs, ys, hx, hy, ha, hb, h⟩
  subst hx; subst hy
  cases rx; cases ry
  obtain ⟨mA, J, _⟩ := ins_get I.hok ha
  obtain ⟨od, J, _⟩ := J.look
  obtain ⟨m', hF⟩ := I.fr
  obtain ⟨its, _, pl, _⟩ := I.list hb
  obtain ⟨ob, n, e1, e2, _⟩ := pl
  have LT : PySem.W.Looks (model X.prog X.w) s.heap (typeOf (.ref b)) (.type "list") := fun A Q E s k q => wpAny_typeOf_ref (k _ _ e1) (by rw [e2]; exact q)
  show wpAny (model X.prog X.w) X.A (richCompare .Eq _ _) _ _ _
  refine PySem.W.cmp_K (op := .Eq) (tb := .type "list") hr.units0 hF I.ok.mod.kin J LT hn hm.at_ hm.fn ?_
  exact wpAny_mono (own_run F hr I (us := [.ref a, .ref b]) (vs := [.ref a, .ref b]) (.cons rfl (.cons rfl .nil)) (by rw [hl]; exact h)) (fun u s' z => back_of z) fun _ _ e => e
/-! ### xs[::-1] -/
def revR : R → Mst → Out R := fun r M => match src M r with
  | some (.l ds, M1) => .ok (.t (.lst (ds.reverse.map T.d))) M1
  | _ => .bad
end
end DL

/-! DL34: xs[::-1]; constants of a class; isinstance of a list; fields kept as trees; what is made of things that stay changeable -/
namespace DL
open PySem L2 PySem.Spec PyProof.Rows
section
variable {X : Cx} {W : WX} {σ : L2.St} {fs gs : List Addr} {w w2 : Wd} {H H2 : Hp} {M M2 : Mst}
variable {e o : Expr} {es : List Expr} {F Fe Fo Fv : Den} {A : DenA} {pos p apos p1 p2 p3 : Pos} {x m f : Str} {k : Nat} {ps ks : List Str} {π : List Nat} {G : Fn} {cs : List Str} {c : Str}
/-! ### xs[::-1] -/
theorem de_revL {k : Nat} (he : DE X W e F) : DE X W (.Subscript e (.Slice none none (some (.UnaryOp .USub (.Constant (.int 1) k p1) p2)) p3) pos) (eSeq1 revR F) :=
  (pe_revL he).mono fun σ H Q h => by
    obtain ⟨w, ρ, M, m, er, p⟩ := h
    refine ⟨w, ρ, M, m, er, p.bindF.imp fun w1 H1 M1 r _ _ z => ?_⟩
    obtain ⟨e1, m1, p1⟩ := z
    intro v fp q hf
    have p2 : Post X W σ fp w1 H1 M1 (revR r M1) (CE X fp w1 H1 M1 Q) := (p1 fp hf).imp fun _ _ _ _ _ _ q => q.from e1 hf
    unfold revR at p2
    cases z : src M1 r with
    | none => rw [z] at p2; exact p2.elim
    | some s =>
      obtain ⟨s, M4⟩ := s
      obtain ⟨w4, e4, m4, a4⟩ := src_ok m1 q z
      rw [z] at p2
      cases s with
      | l ds =>
        obtain ⟨a, vs, rfl, h1, h2⟩ := a4
        exact ⟨a, vs, rfl, SqL.of h1, fun q hq => CE.lst p2 e4 m4 hq h2.reverse⟩
      | ro ds => exact p2.elim
      | t ds => exact p2.elim
      | s x => exact p2.elim
end
/-! ### constants of a class -/
structure CCon (K : PySem.W.Frag) (mg : Mg) (c f : Str) (d : D) : Prop where
  ex : ∃ C mc v u, mg c = some (.ref C) ∧ ClX.CRead K C mc ∧ ClX.CVal K C mc f v u ∧ ∀ F, Dp K mg F v d
section
variable {X : Cx} {W : WX} {σ : L2.St} {fs gs : List Addr} {w w2 : Wd} {H H2 : Hp} {M M2 : Mst}
variable {e o : Expr} {es : List Expr} {F Fe Fo Fv : Den} {A : DenA} {pos p apos p1 p2 p3 : Pos} {x m f : Str} {k : Nat} {ps ks : List Str} {π : List Nat} {G : Fn} {cs : List Str} {c : Str}
theorem de_ccon {d : D} (D : CCon X.K X.mg c f d) (hg : Gl X c) (hd : (c == ("__debug__" : Str)) = false := by decide) (hb : attributeBase (.Name c p) f X.env (eval (.Name c p) X.env) = eval (.Name c p) X.env := by rfl) : DE X W (.Attribute (.Name c p) f pos) (eC d) := by
  obtain ⟨C, mc, v, u, hC, hr, hv, hD⟩ := D.ex
  exact (ClX.pe_cval (pe_glob (v := .ref C) hg hC rfl hd) hb).mono fun σ H Q ⟨w, ρ, M, m, er, p⟩ => ⟨C, mc, v, u, rfl, hr, hv, (p.now m) v [] (rr_d (hD _)) fun _ z => nomatch z⟩
end
/-! ### isinstance: an instance, or a list -/
structure IsCL (K : PySem.W.Frag) (mg : Mg) (c : Str) : Prop where
  ex : ∃ C, mg c = some (.ref C) ∧ PySem.W.typeIn K (.ref C) = some (.type "type") ∧ PySem.W.subIn K (.type "list") (.ref C) = some false
def isiC2R (c0 : Str) : List R → Mst → Out R
  | [r, .t (.d (.glo c))], M => if c = c0 ∧ insC c M r = true then .ok (.t (.d (.bl true))) M else if c = c0 ∧ lstC (frzR M r) = true then .ok (.t (.d (.bl false))) M else .bad
  | _, _ => .bad
section
variable {X : Cx} {W : WX} {σ : L2.St} {fs gs : List Addr} {w w2 : Wd} {H H2 : Hp} {M M2 : Mst}
theorem lst_ty2 {v : V} {d : D} (h : Dp X.K X.mg H v d) (e : lstC d = true) : TyX X.K H v (.type "list") := by
  cases h with
  | lst h1 h2 => exact .base (.lst h1)
  | _ => cases e
theorem opL_isiC2 {c0 : Str} (D : IsC X.K X.mg c0) (D2 : IsCL X.K X.mg c0) : OpL X (isiC2R c0) (rIsi X.K) := by
  intro W σ w H M xs rs fp Q m q p
  unfold isiC2R at p
  split at p
  · rename_i r c
    split at p
    · rename_i hi
      refine opL_isiC D W σ w H M xs _ fp Q m q ?_
      show Post X W σ fp w H M (if c = c0 ∧ insC c M r = true then Out.ok (R.t (.d (.bl true))) M else .bad) _
      rw [if_pos hi]
      exact p
    · split at p
      · rename_i hi
        obtain ⟨rfl, hi⟩ := hi
        obtain ⟨v, v', f, f', rfl, q1, q2, _, _⟩ := q.two
        obtain ⟨C, hC, ht, hs⟩ := D2.ex
        obtain ⟨C', hC', cl, _⟩ := D.ex
        obtain rfl : C = C' := by rw [hC] at hC'; cases hC'; rfl
        obtain ⟨q2, _⟩ := rr_dat q2
        cases q2 with
        | @glo _ a' hC2 =>
          obtain rfl : C = a' := by rw [hC] at hC2; cases hC2; rfl
          refine ⟨v, .ref C, .type "list", .ref C, false, rfl, .own C, lst_ty2 (seen m q1) hi, ?_, (p.now m).val (C := fun _ => r) (.bl _)⟩
          obtain ⟨cd, hcd, _⟩ := PySem.W.any_some cl.hd
          unfold PySem.W.kitOne PySem.W.kitCls
          rw [if_neg (by simp)]
          show (if ((PySem.W.clsIn X.K C).isSome && PySem.W.typeIn X.K (Value.ref C) == some (Value.type "type")) = true then PySem.W.subIn X.K (Value.type "list") (Value.ref C) else none) = some false
          rw [hcd, ht, hs]
          rfl
      · exact p.elim
  · exact p.elim
end
/-! ### o.f = value, the value kept as a tree -/
def sFldT (cs : List Str) (f : Str) (Fv : Den) (j : Nat) : DenS := fun ρ M => bindS (Fv ρ M) ρ fun r M1 => match r, ρ[j]? with
  | .t x, some (some (.h k)) => (match M1[k]? with
    | some (.ins c fs) => if cs.contains c = true ∧ fs.length < 1000 ∧ fs.lookup f = none then some (.nx ρ, M1.set k (.ins c (fs ++ [(f, x)]))) else none
    | _ => none)
  | _, _ => none
section
variable {X : Cx} {W : WX} {σ : L2.St} {fs gs : List Addr} {w w2 : Wd} {H H2 : Hp} {M M2 : Mst}
variable {e o : Expr} {es : List Expr} {F Fe Fo Fv : Den} {A : DenA} {pos p apos p1 p2 p3 : Pos} {x m f : Str} {k : Nat} {ps ks : List Str} {π : List Nat} {G : Fn} {cs : List Str} {c : Str}
theorem putF_new {v : V} : ∀ {vs : List (Str × V)}, vs.lookup f = none → putF f v vs = vs ++ [(f, v)]
  | [], _ => rfl
  | (g, u) :: r, h => by
    rw [List.lookup_cons] at h
    split at h
    · cases h
    · rename_i hne
      have ne : ¬ g = f := fun e => by rw [e] at hne; simp at hne
      unfold putF
      rw [if_neg ne, putF_new h]; rfl
theorem trf_app : ∀ {vs ws : List (Str × V)} {ts us : List (Str × T)} {f1 f2 : List Addr} {F : Hp}, TRF X.K X.mg F H vs ts f1 → TRF X.K X.mg F H ws us f2 → TRF X.K X.mg F H (vs ++ ws) (ts ++ us) (f1 ++ f2)
  | _, _, _, _, _, _, _, .nil, s => s
  | _, _, _, _, _, _, _, .cons h r, s => by rw [List.append_assoc]; exact .cons h (trf_app r s)
theorem trf_none {F : Hp} : ∀ {vs : List (Str × V)} {ts : List (Str × T)} {fp : List Addr}, TRF X.K X.mg F H vs ts fp → ts.lookup f = none → vs.lookup f = none
  | _, _, _, .nil, _ => rfl
  | _, _, _, .cons (f := g) h r, e => by
    rw [List.lookup_cons] at e ⊢
    split at e
    · cases e
    · exact trf_none r e
theorem rd_sfldT {j : Nat} (ok : FldOk X.K X.mg cs f) {Dn : Ends} (h : rdS X W (sFldT cs f Fv j) Dn σ H) : sFld X.K (tVar j) (rdE X W Fv) f Dn σ H := by
  obtain ⟨w, ρ, M, m, er, p⟩ := h
  refine ⟨w, ρ, M, m, er, (PostS.bindF p er).imp fun w1 H1 M1 r _ _ z => ?_⟩
  obtain ⟨e1, m1, p1⟩ := z
  have er1 := er.stay e1
  intro v fp q hf
  replace p1 := p1 fp hf
  split at p1
  · rename_i x k hx
    split at p1
    · rename_i c fs hM
      split at p1
      · rename_i hc
        obtain ⟨u, hu, hk, rfl⟩ := er1.at_ j _ hx
        obtain ⟨q1, q2, q3⟩ := q
        obtain ⟨q4, nd4⟩ := m1.obj k _ hM
        generalize hfk : w1.φ k = fk at q4
        generalize hv : V.ref (w1.α k) = va at q4
        cases q4 with
        | @ins a C dx vs _ _ fp4 h1 h2 h3 h4 =>
          cases hv
          obtain ⟨k1, k2⟩ := ok.ok _ (List.contains_iff_mem.mp hc.1) _ h3
          rw [hfk] at nd4
          obtain ⟨n1, n2⟩ := List.nodup_cons.mp nd4
          have inφ : ∀ a ∈ w1.α k :: fp4, a ∈ w1.φ k := fun a ha => by rw [hfk]; exact ha
          have dj : ∀ a ∈ fp, a ∉ w1.α k :: fp4 := fun a ha z => q3 a ha k hk (inφ a z)
          have hn := trf_none h4 hc.2.2
          have hall : TRF X.K X.mg w1.F H1 (vs ++ [(f, v)]) (fs ++ [(f, x)]) (fp4 ++ (fp ++ [])) := trf_app h4 (.cons q1 .nil)
          rw [List.append_nil] at hall
          have ne : ∀ a ∈ fp4 ++ fp, a ≠ w1.α k := fun a ha z => by
            subst z
            rcases List.mem_append.mp ha with z | z
            · exact n1 z
            · exact dj _ z List.mem_cons_self
          obtain ⟨w4, e4, m4, _, _⟩ := put_obj (fs := fp) (o' := .ins C dx (putF f v vs)) (f' := w1.α k :: (fp4 ++ fp)) (t' := .ins c (fs ++ [(f, x)])) m1 hM (inφ _ List.mem_cons_self)
            (by
              rw [putF_new hn]
              exact .ins upd_same h2 h3 (hall.stay (Same.refl _) fun a ha => ⟨(hall.fp a ha).1, fun o ho => by rw [upd_ne (ne a ha)]; exact ho⟩))
            (List.nodup_cons.mpr ⟨fun z => ne _ z rfl, List.nodup_append.mpr ⟨n2, q2, fun a ha b hb z => dj b hb (List.mem_cons_of_mem _ (z ▸ ha))⟩⟩) h2
            (fun a ha i hi hik z => by
              rcases List.mem_cons.mp ha with rfl | ha
              · exact hik (m1.dis i k _ hi hk z (inφ _ List.mem_cons_self))
              · rcases List.mem_append.mp ha with ha | ha
                · exact hik (m1.dis i k _ hi hk z (inφ _ (List.mem_cons_of_mem _ ha)))
                · exact q3 a ha i hi z)
            (fun a ha => by
              rcases List.mem_cons.mp ha with rfl | ha
              · exact .inr (.inl ⟨k, hk, inφ _ List.mem_cons_self⟩)
              · rcases List.mem_append.mp ha with ha | ha
                · exact .inr (.inl ⟨k, hk, inφ _ (List.mem_cons_of_mem _ ha)⟩)
                · exact .inr (.inr ha))
          exact ⟨_, hu, _, C, dx, vs, rfl, h1, k1, k2, by rw [h4.length]; exact hc.2.1, p1 w4 _ σ e4 m4 (er1.stay e4)⟩
      · exact p1.elim
    · exact p1.elim
  · exact p1.elim
theorem ds_fldT {value : Expr} {pos' : Pos} {j : Nat} (ok : FldOk X.K X.mg cs f) (hv : DE X W value Fv) (ho : PE X o (tVar j)) (hs : swapsWith value (some (.Attribute o f pos')) pos.line X.env = pure false := by rfl) :
    DS X W (.Assign [.Attribute o f pos'] value pos) (sFldT cs f Fv j) := (ps_fld ho hv hs).mono fun _ _ _ h => rd_sfldT ok h
end
/-! ### a thing made while all that may change stands still -/
mutual
/-- no tuple within a tree -/
def ntT : T → Bool
  | .d _ => true
  | .lst ts => ntL ts
  | .tup _ => false
  | .ins _ fs => ntF fs
  | .dic fs => ntK fs
  | .tbl _ _ => true
def ntL : List T → Bool
  | [] => true
  | t :: r => ntT t && ntL r
def ntF : List (Str × T) → Bool
  | [] => true
  | (_, t) :: r => ntT t && ntF r
def ntK : List (Key × T) → Bool
  | [] => true
  | (_, t) :: r => ntT t && ntK r
end
mutual
/-- nothing that may be changed in it -/
def ncD : D → Bool
  | .non => true | .bl _ => true | .int _ => true | .str _ => true | .glo _ => true | .ty _ => true
  | .tupP _ ds => ncL ds
  | _ => false
def ncL : List D → Bool
  | [] => true
  | d :: r => ncD d && ncL r
end
mutual
def ncT : T → Bool
  | .d d => ncD d
  | .lst ts => ncTL ts
  | .ins _ fs => ncTF fs
  | _ => false
def ncTL : List T → Bool
  | [] => true
  | t :: r => ncT t && ncTL r
def ncTF : List (Str × T) → Bool
  | [] => true
  | (_, t) :: r => ncT t && ncTF r
end
def eFresh (Fe : Den) : Den := fun ρ M => match Fe (ρ.map (fzS M)) [] with
  | .ok (.t x) _ => if ncT x = true ∧ ntL M = true then .ok (.t x) M else .bad
  | _ => .bad
/-- the trees are frozen for a time -/
def wFz (w : Wd) (H : Hp) (M : Mst) : Wd := ⟨fun a => open Classical in if ∃ k, k < M.length ∧ a ∈ w.φ k then H a else w.F a, fun _ => default, fun _ => []⟩
section
variable {X : Cx} {W : WX} {σ : L2.St} {fs gs : List Addr} {w w2 : Wd} {H H2 : Hp} {M M2 : Mst}
theorem wFz_in {a : Addr} {k : Nat} (hk : k < M.length) (h : a ∈ w.φ k) : (wFz w H M).F a = H a := if_pos ⟨k, hk, h⟩
theorem wFz_out {a : Addr} (h : ∀ k, k < M.length → a ∉ w.φ k) : (wFz w H M).F a = w.F a := if_neg fun ⟨k, hk, z⟩ => h k hk z
theorem wFz_same (m : MR X.K X.mg w H M) : Same w.F (wFz w H M).F := fun a o e => by
  by_cases h : ∃ k, k < M.length ∧ a ∈ w.φ k
  · obtain ⟨k, hk, ha⟩ := h
    obtain ⟨t, ht⟩ : ∃ t, M[k]? = some t := ⟨M[k], List.getElem?_eq_getElem hk⟩
    rw [((m.obj k t ht).1.fp a ha).1] at e; cases e
  · show (if ∃ k, k < M.length ∧ a ∈ w.φ k then H a else w.F a) = some o
    rw [if_neg h]; exact e
theorem mrFz (m : MR X.K X.mg w H M) : MR X.K X.mg (wFz w H M) H [] := ⟨fun a o e => by
  have e : (if ∃ k, k < M.length ∧ a ∈ w.φ k then H a else w.F a) = some o := e
  split at e
  · exact e
  · exact m.sub a o e, fun k t e => by simp at e, fun j k a hj => by simp at hj⟩
theorem erFz {ρ : Ev} (m : MR X.K X.mg w H M) (er : ER X.K X.mg w M σ ρ) : ER X.K X.mg (wFz w H M) [] σ (ρ.map (fzS M)) := ⟨by rw [er.len, List.length_map], fun j x e => by
  rw [List.getElem?_map] at e
  cases z : ρ[j]? with
  | none => rw [z] at e; cases e
  | some y =>
    rw [z] at e
    cases y with
    | none => cases e
    | some y =>
      obtain ⟨v, h1, h2⟩ := er.at_ j y z
      refine ⟨v, h1, ?_⟩
      cases y with
      | d d => cases e; exact Dp.mono (wFz_same m) h2
      | h k =>
        cases e
        obtain ⟨hk, rfl⟩ := h2
        obtain ⟨t, ht⟩ : ∃ t, M[k]? = some t := ⟨M[k], List.getElem?_eq_getElem hk⟩
        show Dp X.K X.mg (wFz w H M).F _ (frz (M.getD k (.d .non)))
        rw [getD_of ht]
        exact (m.obj k t ht).1.seen (wFz_same m) fun a ha o ho => by rw [wFz_in hk ha]; exact ho
      | c k ls => cases e⟩
/-- what is frozen behind it: what was, and what is new -/
def fBack (F0 H F1 : Hp) : Hp := fun a => match H a with
  | none => F1 a
  | some _ => F0 a
theorem fBack_new {F0 H F1 : Hp} {a : Addr} (h : H a = none) : fBack F0 H F1 a = F1 a := by unfold fBack; rw [h]
theorem fBack_old {F0 H F1 : Hp} {a : Addr} {o : HO} (h : H a = some o) : fBack F0 H F1 a = F0 a := by unfold fBack; rw [h]
mutual
theorem tup_free : ∀ {v : V} {t : T} {fp : List Addr} {F : Hp}, TR X.K X.mg F H v t fp → ntT t = true → ∀ a ∈ fp, ∀ xs, H a ≠ some (.tup xs) ∧ ∀ o, H a ≠ some (.frz o (.tup xs))
  | _, _, _, _, .d _, _ => fun _ h => nomatch h
  | _, _, _, _, .lst h n l, e => fun a ha xs => by
    rcases List.mem_cons.mp ha with rfl | ha
    · rw [h]; exact ⟨(fun z => nomatch z), fun _ z => nomatch z⟩
    · exact tup_freeL l e a ha xs
  | _, _, _, _, .tup _ _ _, e => nomatch e
  | _, _, _, _, .ins h n m l, e => fun a ha xs => by
    rcases List.mem_cons.mp ha with rfl | ha
    · rw [h]; exact ⟨(fun z => nomatch z), fun _ z => nomatch z⟩
    · exact tup_freeF l e a ha xs
  | _, _, _, _, .dic h n l, e => fun a ha xs => by
    rcases List.mem_cons.mp ha with rfl | ha
    · rw [h]; exact ⟨(fun z => nomatch z), fun _ z => nomatch z⟩
    · exact tup_freeK l e a ha xs
  | _, _, _, _, .tbl _ h _ _ _, _ => fun a ha xs => by
    rcases List.mem_singleton.mp ha with rfl
    rw [h]; exact ⟨(fun z => nomatch z), fun _ z => nomatch z⟩
theorem tup_freeL : ∀ {v : List V} {t : List T} {fp : List Addr} {F : Hp}, TRL X.K X.mg F H v t fp → ntL t = true → ∀ a ∈ fp, ∀ xs, H a ≠ some (.tup xs) ∧ ∀ o, H a ≠ some (.frz o (.tup xs))
  | _, _, _, _, .nil, _ => fun _ h => nomatch h
  | _, _, _, _, .cons h r, e => fun a ha xs => by
    have e := Bool.and_eq_true_iff.mp e
    rcases List.mem_append.mp ha with ha | ha
    · exact tup_free h e.1 a ha xs
    · exact tup_freeL r e.2 a ha xs
theorem tup_freeF : ∀ {v : List (Str × V)} {t : List (Str × T)} {fp : List Addr} {F : Hp}, TRF X.K X.mg F H v t fp → ntF t = true → ∀ a ∈ fp, ∀ xs, H a ≠ some (.tup xs) ∧ ∀ o, H a ≠ some (.frz o (.tup xs))
  | _, _, _, _, .nil, _ => fun _ h => nomatch h
  | _, _, _, _, .cons h r, e => fun a ha xs => by
    have e := Bool.and_eq_true_iff.mp e
    rcases List.mem_append.mp ha with ha | ha
    · exact tup_free h e.1 a ha xs
    · exact tup_freeF r e.2 a ha xs
theorem tup_freeK : ∀ {v : List (Key × V)} {t : List (Key × T)} {fp : List Addr} {F : Hp}, TRK X.K X.mg F H v t fp → ntK t = true → ∀ a ∈ fp, ∀ xs, H a ≠ some (.tup xs) ∧ ∀ o, H a ≠ some (.frz o (.tup xs))
  | _, _, _, _, .nil, _ => fun _ h => nomatch h
  | _, _, _, _, .cons h r, e => fun a ha xs => by
    have e := Bool.and_eq_true_iff.mp e
    rcases List.mem_append.mp ha with ha | ha
    · exact tup_free h e.1 a ha xs
    · exact tup_freeK r e.2 a ha xs
end
section
variable {F0 F1 : Hp}
/-- tuples behind it -/
theorem rd_back (hk : ∀ a, (∀ xs, F1 a = some (.tup xs) → fBack F0 H F1 a = some (.tup xs)) ∧ ∀ o xs, F1 a = some (.frz o (.tup xs)) → fBack F0 H F1 a = some (.frz o (.tup xs))) {p : Bool} {a : Addr} {xs : List V} (h : SqP X.K F1 p a xs) : SqP X.K (fBack F0 H F1) p a xs := by
  obtain ⟨h1, h2⟩ := h
  refine ⟨?_, fun z => (h2 z).imp fun o q => ⟨q.1.imp (fun y => (hk a).2 o xs y) id, q.2⟩⟩
  rcases h1 with (h1 | ⟨o, h1⟩) | h1
  · exact .inl (.inl ((hk a).1 xs h1))
  · exact .inl (.inr ⟨o, (hk a).2 o xs h1⟩)
  · exact .inr h1
mutual
theorem dp_back (hk : ∀ a, (∀ xs, F1 a = some (.tup xs) → fBack F0 H F1 a = some (.tup xs)) ∧ ∀ o xs, F1 a = some (.frz o (.tup xs)) → fBack F0 H F1 a = some (.frz o (.tup xs))) : ∀ {v : V} {d : D}, Dp X.K X.mg F1 v d → ncD d = true → Dp X.K X.mg (fBack F0 H F1) v d
  | _, _, .non, _ => .non
  | _, _, .bl b, _ => .bl b
  | _, _, .int i, _ => .int i
  | _, _, .str x, _ => .str x
  | _, _, .lst _ _, e => nomatch e
  | _, _, .ro _ _, e => nomatch e
  | _, _, .tupP h l, e => .tupP (rd_back hk h) (dpl_back hk l e)
  | _, _, .ins _ _ _, e => nomatch e
  | _, _, .glo m, _ => .glo m
  | _, _, .ty n, _ => .ty n
  | _, _, .dic _ _, e => nomatch e
  | _, _, .junk _, e => nomatch e
  | _, _, .exn _ _ _ _, e => nomatch e
theorem dpl_back (hk : ∀ a, (∀ xs, F1 a = some (.tup xs) → fBack F0 H F1 a = some (.tup xs)) ∧ ∀ o xs, F1 a = some (.frz o (.tup xs)) → fBack F0 H F1 a = some (.frz o (.tup xs))) : ∀ {v : List V} {d : List D}, DpL X.K X.mg F1 v d → ncL d = true → DpL X.K X.mg (fBack F0 H F1) v d
  | _, _, .nil, _ => .nil
  | _, _, .cons h r, e => .cons (dp_back hk h (Bool.and_eq_true_iff.mp e).1) (dpl_back hk r (Bool.and_eq_true_iff.mp e).2)
end
mutual
theorem tr_back (hk : ∀ a, (∀ xs, F1 a = some (.tup xs) → fBack F0 H F1 a = some (.tup xs)) ∧ ∀ o xs, F1 a = some (.frz o (.tup xs)) → fBack F0 H F1 a = some (.frz o (.tup xs))) : ∀ {v : V} {t : T} {fp : List Addr}, TR X.K X.mg F1 H2 v t fp → ncT t = true → (∀ a ∈ fp, fBack F0 H F1 a = none) → TR X.K X.mg (fBack F0 H F1) H2 v t fp
  | _, _, _, .d h, e, _ => .d (dp_back hk h e)
  | _, _, _, .lst h n l, e, z => .lst h (z _ List.mem_cons_self) (trl_back hk l e fun a ha => z a (List.mem_cons_of_mem _ ha))
  | _, _, _, .tup _ _ _, e, _ => nomatch e
  | _, _, _, .ins h n m l, e, z => .ins h (z _ List.mem_cons_self) m (trf_back hk l e fun a ha => z a (List.mem_cons_of_mem _ ha))
  | _, _, _, .dic _ _ _, e, _ => nomatch e
theorem trl_back (hk : ∀ a, (∀ xs, F1 a = some (.tup xs) → fBack F0 H F1 a = some (.tup xs)) ∧ ∀ o xs, F1 a = some (.frz o (.tup xs)) → fBack F0 H F1 a = some (.frz o (.tup xs))) : ∀ {v : List V} {t : List T} {fp : List Addr}, TRL X.K X.mg F1 H2 v t fp → ncTL t = true → (∀ a ∈ fp, fBack F0 H F1 a = none) → TRL X.K X.mg (fBack F0 H F1) H2 v t fp
  | _, _, _, .nil, _, _ => .nil
  | _, _, _, .cons h r, e, z => .cons (tr_back hk h (Bool.and_eq_true_iff.mp e).1 fun a ha => z a (List.mem_append_left _ ha)) (trl_back hk r (Bool.and_eq_true_iff.mp e).2 fun a ha => z a (List.mem_append_right _ ha))
theorem trf_back (hk : ∀ a, (∀ xs, F1 a = some (.tup xs) → fBack F0 H F1 a = some (.tup xs)) ∧ ∀ o xs, F1 a = some (.frz o (.tup xs)) → fBack F0 H F1 a = some (.frz o (.tup xs))) : ∀ {v : List (Str × V)} {t : List (Str × T)} {fp : List Addr}, TRF X.K X.mg F1 H2 v t fp → ncTF t = true → (∀ a ∈ fp, fBack F0 H F1 a = none) → TRF X.K X.mg (fBack F0 H F1) H2 v t fp
  | _, _, _, .nil, _, _ => .nil
  | _, _, _, .cons h r, e, z => .cons (tr_back hk h (Bool.and_eq_true_iff.mp e).1 fun a ha => z a (List.mem_append_left _ ha)) (trf_back hk r (Bool.and_eq_true_iff.mp e).2 fun a ha => z a (List.mem_append_right _ ha))
end
end
theorem nt_at : ∀ {M : Mst} {k : Nat} {t : T}, ntL M = true → M[k]? = some t → ntT t = true
  | [], _, _, _, h => by simp at h
  | t :: r, 0, _, e, h => by simp at h; subst h; exact (Bool.and_eq_true_iff.mp e).1
  | t :: r, k + 1, _, e, h => nt_at (Bool.and_eq_true_iff.mp e).2 (by simpa using h)
variable {e : Expr} {Fe : Den}
theorem de_fresh (h : DE X W e Fe) : DE X W e (eFresh Fe) := h.mono fun σ H Q ⟨w, ρ, M, m, er, p⟩ => by
  unfold eFresh at p
  split at p
  · rename_i x M1 hd
    split at p
    · rename_i hc
      refine ⟨wFz w H M, _, [], mrFz m, erFz m er, ?_⟩
      rw [hd]
      intro w' H' e1 m1 v fp q hp
      obtain ⟨q1, q2, q3⟩ := q
      -- the heap is kept
      have hs : Same H H' := fun a o h => e1.keep a o h fun z => by
        rcases z with z | ⟨j, hj, _⟩ | z
        · rw [h] at z; cases z
        · exact absurd hj (Nat.not_lt_zero _)
        · cases z
      have gr : ∀ a, w'.F a ≠ none → (wFz w H M).F a ≠ none ∨ H a = none := fun a z => by
        rcases e1.gr a z with y | y | ⟨j, hj, _⟩ | y
        · exact .inl y
        · exact .inr y
        · exact absurd hj (Nat.not_lt_zero _)
        · cases y
      have old : ∀ a o, H a = some o → w'.F a ≠ none → (∀ k, k < M.length → a ∉ w.φ k) → w.F a = w'.F a := fun a o h z no => by
        rcases gr a z with y | y
        · rw [wFz_out no] at y
          cases hw : w.F a with
          | none => exact absurd hw y
          | some u => exact (e1.F a u (by rw [wFz_out no]; exact hw)).symm
        · rw [h] at y; cases y
      have hk : ∀ a, (∀ xs, w'.F a = some (.tup xs) → fBack w.F H w'.F a = some (.tup xs)) ∧ ∀ o xs, w'.F a = some (.frz o (.tup xs)) → fBack w.F H w'.F a = some (.frz o (.tup xs)) := fun a => by
        cases hH : H a with
        | none => rw [fBack_new hH]; exact ⟨fun _ z => z, fun _ _ z => z⟩
        | some u =>
          rw [fBack_old hH]
          have no : ∀ xs, (w'.F a = some (.tup xs) ∨ ∃ o, w'.F a = some (.frz o (.tup xs))) → ∀ k, k < M.length → a ∉ w.φ k := fun xs z k hk' y => by
            obtain ⟨t, ht⟩ : ∃ t, M[k]? = some t := ⟨M[k], List.getElem?_eq_getElem hk'⟩
            have tf := tup_free (m.obj k t ht).1 (nt_at hc.2 ht) a y xs
            have eq : w'.F a = H a := by
              rw [e1.F a u (by rw [wFz_in hk' y]; exact hH), hH]
            rcases z with z | ⟨o, z⟩
            · exact tf.1 (by rw [← eq]; exact z)
            · exact tf.2 o (by rw [← eq]; exact z)
          exact ⟨fun xs z => by rw [old a u hH (by rw [z]; exact fun y => nomatch y) (no xs (.inl z))]; exact z, fun o xs z => by rw [old a u hH (by rw [z]; exact fun y => nomatch y) (no xs (.inr ⟨o, z⟩))]; exact z⟩
      have newfp : ∀ a ∈ fp, H a = none := fun a ha => by
        rcases hp a ha with z | ⟨j, hj, _⟩ | z
        · exact z
        · exact absurd hj (Nat.not_lt_zero _)
        · cases z
      have fpn : ∀ a ∈ fp, fBack w.F H w'.F a = none := fun a ha => by rw [fBack_new (newfp a ha)]; exact (q1.fp a ha).1
      have sF : Same w.F (fBack w.F H w'.F) := fun a o z => by rw [fBack_old (m.sub a o z)]; exact z
      have notφ : ∀ a ∈ fp, ∀ k, k < M.length → a ∉ w.φ k := fun a ha k hk' y => by
        obtain ⟨t, ht⟩ : ∃ t, M[k]? = some t := ⟨M[k], List.getElem?_eq_getElem hk'⟩
        obtain ⟨_, o, z⟩ := (m.obj k t ht).1.fp a y
        rw [newfp a ha] at z; cases z
      refine p ⟨fBack w.F H w'.F, w.α, w.φ⟩ H' ⟨sF, Nat.le_refl _, fun _ _ => rfl, fun a o z _ => hs a o z, fun k hk' a ha => .inr (.inl ⟨k, hk', ha⟩), fun a z => ?_, fun a z => ?_⟩ ⟨fun a o z => ?_, fun k t ht => ?_, m.dis⟩ v fp ⟨tr_back hk q1 hc.1 fpn, q2, notφ⟩ fun a ha => .inl (newfp a ha)
      · cases hH : H a with
        | none => exact .inr (.inl hH)
        | some u =>
          have z : fBack w.F H w'.F a ≠ none := z
          rw [fBack_old hH] at z
          exact .inl z
      · cases hH : H a with
        | none => rfl
        | some u => rw [hs a u hH] at z; cases z
      · cases hH : H a with
        | none =>
          have z : fBack w.F H w'.F a = some o := z
          rw [fBack_new hH] at z
          exact m1.sub a o z
        | some u =>
          have z : fBack w.F H w'.F a = some o := z
          rw [fBack_old hH] at z
          exact hs a o (m.sub a o z)
      · obtain ⟨g1, g2⟩ := m.obj k t ht
        refine ⟨g1.stay sF fun a ha => ⟨?_, fun o ho => hs a o ho⟩, g2⟩
        obtain ⟨n0, o, ho⟩ := g1.fp a ha
        show fBack w.F H w'.F a = none
        rw [fBack_old ho]; exact n0
    · exact p.elim
  · exact p.elim
end
end DL

/-! DL35: len(o), repr(o), o == list, as the generator prints them; isinstance over an instance or a list -/
namespace DL
open PySem L2 PySem.Spec PyProof.Rows
structure OwnL (P : Program) (w : World) (K : PySem.W.Frag) (mg : Mg) (base : Heap) (c : Str) (k : Nat) (ps : List Str) (G : Fn) : Prop where
  ex : ∃ C f, mg c = some (.ref C) ∧ PySem.W.notFirst K C (.type "list") = true ∧ Meth K C "__eq__" f ∧ FOk P w K mg base k f ps G
structure SelfD (P : Program) (w : World) (K : PySem.W.Frag) (mg : Mg) (base : Heap) (c m : Str) (k : Nat) (ps : List Str) (G : Fn) : Prop where
  ex : ∃ C f, mg c = some (.ref C) ∧ Meth K C m f ∧ FOk P w K mg base k f ps G
section
variable {X : Cx} {W : WX} {a b e : Expr} {Fa Fb F : Den} {A : DenA} {pos p : Pos} {c x : Str} {k : Nat} {ps : List Str} {G : Fn}
theorem de_lenO (D : SelfD X.prog X.w X.K X.mg X.base c "__len__" k ps G) (hr : Room (k + 1) X.A) (hg : Gl X "len") (hm : X.mg "len" = none) (ha : DA X W [e] A) (hl : ps.length = 1 := by rfl)
    (he : starEach [e] X.env = (false, eval e X.env) :: starEach [] X.env := by rfl) (hpl : (backTo pos (starEach [] X.env)).any (·.1) = false := by rfl) : DE X W (.Call (.Name "len" p) [e] [] pos) (eB (gLenO c G) A) := by
  obtain ⟨C, f, hC, h1, h2⟩ := D.ex
  exact de_callB (call_lenO h1 h2 hl hr) (opL_lenO hC) hg hm (by decide +kernel) ha (by decide) (by decide) he hpl
theorem de_reprO (D : SelfD X.prog X.w X.K X.mg X.base c "__repr__" k ps G) (hr : Room (k + 1) X.A) (hg : Gl X "repr") (hm : X.mg "repr" = none) (ha : DA X W [e] A) (hl : ps.length = 1 := by rfl)
    (he : starEach [e] X.env = (false, eval e X.env) :: starEach [] X.env := by rfl) (hpl : (backTo pos (starEach [] X.env)).any (·.1) = false := by rfl) : DE X W (.Call (.Name "repr" p) [e] [] pos) (eB (gReprO c G) A) := by
  obtain ⟨C, f, hC, h1, h2⟩ := D.ex
  exact de_callB (call_reprO h1 h2 hl hr) (opL_reprO hC) hg hm (by decide +kernel) ha (by decide) (by decide) he hpl
theorem de_ownEqL (D : OwnL X.prog X.w X.K X.mg X.base c k ps G) (hr : Room k X.A) (ha : DE X W a Fa) (hb : DE X W b Fb) (hl : ps.length = 2 := by rfl) : DE X W (.Compare a [.Eq] [b] pos) (eSeq2 (gOwnL c G) Fa Fb) := by
  obtain ⟨C, g, hC, hn, hm, F⟩ := D.ex
  exact de_cmp (op_ownEqL (a := a) (b := b) hn hm F hl hr) (op2_ownL hC) ha hb (nomark _)
theorem dt_ownEqL (D : OwnL X.prog X.w X.K X.mg X.base c k ps G) (hr : Room k X.A) (ha : DE X W a Fa) (hb : DE X W b Fb) (hl : ps.length = 2 := by rfl) : DT X W (.Compare a [.Eq] [b] pos) (eTB (eSeq2 (gOwnL c G) Fa Fb)) := by
  obtain ⟨C, g, hC, hn, hm, F⟩ := D.ex
  exact dt_cmp (op_ownEqL (a := a) (b := b) hn hm F hl hr) (op2_ownL hC) ha hb (nomark _)
end
section
variable {X : Cx} {W : WX} {a b c : Expr} {A : DenA} {pos : Pos} {x y z : Str}
theorem ds_par3 {G1 G2 G3 : DenG} {i j l : Nat} {px py pz pt : Pos} {kt k2 : Nat} {pt2 : Pos} (g1 : GN X W i G1) (g2 : GN X W j G2) (g3 : GN X W l G3) (hc : X.calm = true) (hN : X.N.Nodup) (hi : X.N[i]? = some x) (hj : X.N[j]? = some y) (hl : X.N[l]? = some z) (hij : i ≠ j) (hil : i ≠ l) (hjl : j ≠ l)
    (hx : X.env.scope.names.lookup x = some .local) (hy : X.env.scope.names.lookup y = some .local) (hz : X.env.scope.names.lookup z = some .local) (ha : DA X W [a, b, c] A)
    (hw : swappedStores [.Tuple [.Name x px, .Name y py, .Name z pz] kt pt] (.Tuple [a, b, c] k2 pt2) X.env = pure (some [x, y, z]))
    (hs : swapsWithSole [.Tuple [.Name x px, .Name y py, .Name z pz] kt pt] (.Tuple [a, b, c] k2 pt2) pos.line X.env = pure false := by rfl) :
    DS X W (.Assign [.Tuple [.Name x px, .Name y py, .Name z pz] kt pt] (.Tuple [a, b, c] k2 pt2) pos) (sPar3 G1 G2 G3 A) := (ps_par3 hc hN hi hj hl hij hil hjl hx hy hz ha hw hs).mono fun Dn σ H h => by
  obtain ⟨w, ρ, M, m, er, p⟩ := h
  refine ⟨w, ρ, M, m, er, (p.bindF er).imp fun w1 H1 M1 rs _ _ z => ?_⟩
  obtain ⟨e1, m1, p1⟩ := z
  intro vs fp q hf
  replace p1 := p1 fp hf
  split at p1
  · rename_i r1 r2 r3
    cases q with
    | @cons v vs _ _ f1 f23 q1 q23 dj1 =>
    cases q23 with
    | @cons v' vs' _ _ f2 f3' q2 q3' dj2 =>
    cases q3' with
    | @cons v'' vs'' _ _ f3 f4 q3 q4 dj3 =>
    cases q4
    refine ⟨v, v', v'', rfl, ?_⟩
    refine g1.rd v σ H1 (fun σ1 H2 => Dn.nx ((σ1.set j (some v')).set l (some v'')) H2) ⟨w1, ρ, M1, r1, f1, m1, er.stay e1, q1, ?_⟩
    cases z1 : G1 r1 ρ M1 with
    | none => rw [z1] at p1; exact p1
    | some s =>
      obtain ⟨ρ1, M2⟩ := s
      rw [z1] at p1
      intro w2 H2 σ2 e2 m2 er2
      have d12 : ∀ a ∈ f2, a ∉ f1 := fun a ha hb => dj1 a hb (List.mem_append_left _ ha)
      have d13 : ∀ a ∈ f3, a ∉ f1 := fun a ha hb => dj1 a hb (List.mem_append_right _ (List.mem_append_left _ ha))
      have d23 : ∀ a ∈ f3, a ∉ f2 := fun a ha hb => dj2 a hb (List.mem_append_left _ ha)
      refine g2.rd v' σ2 H2 (fun σ1 H2 => Dn.nx (σ1.set l (some v'')) H2) ⟨w2, ρ1, M2, r2, f2, m2, er2, q2.stay e2 d12, ?_⟩
      dsimp only at p1
      cases z2 : G2 r2 ρ1 M2 with
      | none => rw [z2] at p1; exact p1
      | some s =>
        obtain ⟨ρ2, M3⟩ := s
        rw [z2] at p1
        intro w3 H3 σ3 e3 m3 er3
        refine g3.rd v'' σ3 H3 Dn.nx ⟨w3, ρ2, M3, r3, f3, m3, er3, (q3.stay e2 d13).stay e3 d23, ?_⟩
        dsimp only at p1
        cases z3 : G3 r3 ρ2 M3 with
        | none => rw [z3] at p1; exact p1
        | some s =>
          obtain ⟨ρ3, M4⟩ := s
          rw [z3] at p1
          have e12 := (e2.mono fun a ha => List.mem_append_left f2 ha).trans e3 fun a ha => .inr (.inr (List.mem_append_right _ ha))
          exact fun w4 H4 σ4 e4 m4 er4 => p1 w4 H4 σ4 ((e12.mono fun a ha => by
            rcases List.mem_append.mp ha with h | h
            · exact List.mem_append_left _ h
            · exact List.mem_append_right _ (List.mem_append_left _ h)).trans e4 fun a ha => .inr (.inr (List.mem_append_right _ (List.mem_append_right _ (List.mem_append_left _ ha))))) m4 er4
  · exact p1.elim
end
end DL

/-! DL36: own exceptions over any built-in class (HandS.ExcInit has them over ValueError): their fields written, the base's __init__ -/
namespace DL
open L2 PySem PyProof.Rows PySem.Spec
/-- how the written part holds an own exception class; bmB: its built-in bases -/
structure OexG (K : PySem.W.Frag) (C : Addr) (newId initId : String) : Prop where
  cls : ∃ nm q N bs bm sn sub ab col dd k0 k1 k2 k3 k5 B bmB, K.lookup C = some (excClassObj nm q C N bs bm true sn sub ab col dd k0 k1 k2 k3 k5 newId) ∧ ExcBaseFacts B newId initId bmB ∧ StoreFacts B bmB "object.__setattr__" "object" ∧ PySem.W.excTail bmB bm = true
  sa : PySem.W.findIn K (.ref C) "__setattr__" = some (some (.builtin "object.__setattr__"))
  exC : PySem.W.subIn K (.ref C) (.type "BaseException") = some true
  tyC : PySem.W.typeIn K (.ref C) = some (.type "type")
  kC : PySem.W.keepIn K (.ref C) = true
section
open Builtin Builtin.ObjectAttr
variable {P : Program} {w : World} {A : Around} {R : Result → Shared → Prop} {s : Shared} {K : PySem.W.Frag} {B : String} {bmB : List Value} {x C dx : Addr} {fv : Array Value} {f : Str} {tk : Tok} {v : Value} {cd : ClassData}
theorem taker0 (hf : PySem.W.findIn K (.ref C) f = some none) : PySem.W.takerIn K C f = some none := by unfold PySem.W.takerIn; rw [hf]; rfl
/-- the first field: a dict is laid for it -/
theorem put1 (SF : StoreFacts B bmB "object.__setattr__" "object") (X : K.In s.heap) (hx : s.heap.get? x = some { cls := .ref C, data := .fields fv }) (hc : PySem.W.clsIn K C = some cd) (hd : cd.hasDict = true) (ho : PySem.W.excOver K C bmB = true) (hf : PySem.W.findIn K (.ref C) f = some none)
    (k : ∀ h2 t2 d, s.heap.objs.size ≤ d → d ≠ x → h2.get? x = some { cls := .ref C, dict := some d, data := .fields fv } → h2.Ns1 d (fun y => if y = f then some v else none) → (∀ b o, b ≠ x → s.heap.get? b = some o → h2.get? b = some o) → R (.ok (.ret .none)) { s with heap := h2, toks := t2 }) :
    codeAny (model P w) A (.call (.builtin "object.__setattr__") ⟨[.ref x, .str f tk, v], []⟩) R s := by
  refine PySem.W.osa_openX SF X (od := none) ⟨hx, rfl, rfl, trivial⟩ ho (taker0 hf) fun b => ?_
  have L := PySem.W.looks_clsIn (M := model P w) X hc
  have far : x ≠ s.heap.objs.size := Nat.ne_of_lt (Heap.lt_size hx)
  obtain ⟨nm, bs, mro, ns, qn, hd', sn, sb, ab, col, del⟩ := cd
  cases (show hd' = true from hd)
  obtain ⟨h0, g, d, t, os⟩ := s
  show wpAny _ _ (storeInOwnDict _ _ _ _ _ _) _ _ _
  unfold storeInOwnDict ownDictForStores
  repeat (first | with_reducible refine PySem.HandSPX.store_in_new ?_ ?_ | with_reducible refine wpAny_loadPart_at hx ?_ | with_reducible refine L.at ?_ | wp_step)
  · exact ⟨_, #[], _, (Heap.get?_update_ne _ _ _ _ far.symm).trans (Heap.get?_push_at rfl rfl), rfl, fun e z => absurd z (by simp), fun _ => rfl⟩
  · intro h2 t2 n2 e2
    have here := Heap.get?_update_self (h := h0.push { cls := .type "dict", data := .dict #[] }) (fun o : Obj => { o with dict := some h0.objs.size }) (Heap.get?_push_of_some _ hx) rfl
    exact k h2 t2 h0.objs.size (Nat.le_refl _) far.symm ((e2.2 x far).trans here) n2 fun b o hb z =>
      (e2.2 b (Nat.ne_of_lt (Heap.lt_size z))).trans ((Heap.get?_update_ne _ _ _ _ hb).trans (Heap.get?_push_of_some _ z))
/-- a further field -/
theorem put2 {m0 : Str → Option Value} {nl : List Str} (SF : StoreFacts B bmB "object.__setattr__" "object") (X : K.In s.heap) (hx : s.heap.get? x = some { cls := .ref C, dict := some dx, data := .fields fv }) (hn : s.heap.Ns1 dx m0) (hw : Within m0 nl) (hz : nl.length ≤ 1000) (hc : PySem.W.clsIn K C = some cd) (hd : cd.hasDict = true) (ho : PySem.W.excOver K C bmB = true) (hf : PySem.W.findIn K (.ref C) f = some none)
    (k : ∀ h2 t2, h2.Ns1 dx (fun y => if y = f then some v else m0 y) → (∀ b o, b ≠ dx → s.heap.get? b = some o → h2.get? b = some o) → R (.ok (.ret .none)) { s with heap := h2, toks := t2 }) :
    codeAny (model P w) A (.call (.builtin "object.__setattr__") ⟨[.ref x, .str f tk, v], []⟩) R s := by
  obtain ⟨od, _, _, hod, _, _⟩ := hn.count hw
  refine PySem.W.osa_openX SF X (od := some od) ⟨hx, rfl, rfl, hod⟩ ho (taker0 hf) fun b => ?_
  have L := PySem.W.looks_clsIn (M := model P w) X hc
  obtain ⟨nm, bs, mro, ns, qn, hd', sn, sb, ab, col, del⟩ := cd
  cases (show hd' = true from hd)
  obtain ⟨h0, g, d, t, os⟩ := s
  show wpAny _ _ (storeInOwnDict _ _ _ _ _ _) _ _ _
  unfold storeInOwnDict ownDictForStores
  repeat (first | with_reducible refine PySem.OEX.store_in_old hn hw hz ?_ | with_reducible refine wpAny_loadPart_at hx ?_ | with_reducible refine L.at ?_ | wp_step)
  exact fun h2 t2 n2 e2 => k h2 t2 n2 fun b o hb z => (e2.2 b hb).trans z
end
section
variable {X : Cx} {pins : List (Addr × Obj)} {σ : L2.St} {H : Hp} {s : Shared} {a C dx : Addr} {f : Str} {y : V} {u : Value} {fs : List (Str × V)} {Q : Unit → Shared → Prop} {E : Value → Shared → Prop} {A : Around} {newId initId : String}
theorem OexG.read (T : OexG X.K C newId initId) : ∃ cd B bmB, PySem.W.clsIn X.K C = some cd ∧ cd.hasDict = true ∧ PySem.W.excOver X.K C bmB = true ∧ StoreFacts B bmB "object.__setattr__" "object" := by
  obtain ⟨nm, q, N, bs, bm, sn, sub, ab, col, dd, k0, k1, k2, k3, k5, B, bmB, hC, _, SF, ht⟩ := T.cls
  have e : PySem.W.clsIn X.K C = some { name := nm, bases := bs, mro := .ref C :: bm, ns := N, qualname := q, hasDict := true, slotNames := sn, subclasses := sub, abstract := ab, collection := col, hasDel := false } := by
    unfold PySem.W.clsIn
    rw [hC]
  refine ⟨_, B, bmB, e, rfl, ?_, SF⟩
  unfold PySem.W.excOver
  rw [e]
  show (C == C && PySem.W.excTail bmB bm) = true
  rw [ht, beq_self_eq_true]; rfl
/-- an ext object is none of the other kinds -/
theorem ext_no {φ : Heap → Prop} {o : HO} (h : ∀ ψ, o ≠ .ext ψ) {b c : Addr} (hb : H b = some (.ext φ)) (hc : H c = some o) : c ≠ b := fun z => by
  rw [z, hb] at hc
  exact h φ (Option.some.inj hc).symm
/-- one ext object written anew at a, one laid at dx -/
theorem two_ext {φ φ1 φ2 : Heap → Prop} {h2 : Heap} {t2 : Nat} (I : Inv X pins σ H s) (ea : H a = some (.ext φ)) (hd : s.heap.objs.size ≤ dx) (ne : dx ≠ a) (k : ∀ b o, b ≠ a → s.heap.get? b = some o → h2.get? b = some o) (hx : ∃ o, h2.get? a = some o)
    (o1 : ObjOk X.prog X.w (upd (upd H dx (.ext φ2)) a (.ext φ1)) h2 a (.ext φ1)) (o2 : ObjOk X.prog X.w (upd (upd H dx (.ext φ2)) a (.ext φ1)) h2 dx (.ext φ2)) :
    Inv X pins σ (upd (upd H dx (.ext φ2)) a (.ext φ1)) { s with heap := h2, toks := t2 } := by
  have fresh : H dx = none := I.hok.fresh hd
  have na : ∀ {b : Addr}, H b = none → b ≠ a := fun {b} n z => by rw [z, ea] at n; exact nomatch n
  have nd : ∀ {b : Addr} {o : Obj}, s.heap.get? b = some o → b ≠ dx := fun {b o} z => Nat.ne_of_lt (Nat.lt_of_lt_of_le (Heap.lt_size z) hd)
  have other : ∀ {b : Addr} {o : HO}, (∀ ψ, o ≠ .ext ψ) → H b = some o → upd (upd H dx (.ext φ2)) a (.ext φ1) b = some o := fun {b o} h z => by
    rw [upd_ne (ext_no h ea z), upd_ne (ne_of_none z fresh)]; exact z
  have U : Un X.fs [] H (upd (upd H dx (.ext φ2)) a (.ext φ1)) s.heap h2 := by
    constructor
    · exact fun b o z n _ _ => k b o (na n) z
    · exact fun b o z n _ _ => ⟨o.slots, k b o (na n) z⟩
    · exact fun b o z n _ => by rw [upd_ne (na n), upd_ne (nd z)]; exact n
    · exact fun b o z _ => if hb : b = a then hb ▸ hx else ⟨o, k b o hb z⟩
    · exact fun b xs z => other (fun _ => by simp) z
    · exact fun b o u z => other (fun _ => by simp) z
    · exact fun b ps z => ⟨#[], by rw [other (fun _ => by simp) z]; simp⟩
  refine I.un (t' := t2) U fun b o z => ?_
  by_cases hb : b = a
  · subst hb
    rw [upd_same] at z
    exact Option.some.inj z ▸ o1
  by_cases hc : b = dx
  · subst hc
    rw [upd_ne hb, upd_same] at z
    exact Option.some.inj z ▸ o2
  rw [upd_ne hb, upd_ne hc] at z
  refine (I.hok b o z).stay (fun c v hw q => k c v ?_ q) (fun c hw => other (fun _ => by simp) hw) fun c xs hw => other (fun _ => by simp) hw
  rcases hw with rfl | hw
  · exact hb
  · exact ext_no (fun _ => by simp) ea hw
theorem ost_newG (T : OexG X.K C newId initId) (I : Inv X pins σ H s) (e : H a = some (exo a C none)) (hno : PySem.W.findIn X.K (.ref C) f = some none) (ry : RelV y u)
    (h : ∀ dx s', H dx = none → dx ≠ a → Inv X pins σ (upd (upd H dx (exd dx [(f, y)])) a (exo a C (some dx))) s' → Q () s') : wpAny (model X.prog X.w) A (setAttr (.ref a) f u) Q E s := by
  obtain ⟨cd, B, bmB, hc, hd, ho, SF⟩ := T.read
  obtain ⟨t1, ha⟩ := exo_at I.hok e
  refine PySem.W.set_plain I.kIn (od := none) ⟨ha, rfl, rfl, trivial⟩ T.sa (put1 SF I.kIn ha hc hd ho hno fun h2 t2 d hsz ne hx hn k => ?_)
  exact h d _ (I.hok.fresh hsz) ne (two_ext (s := s) I e hsz ne k ⟨_, hx⟩ (exo_ok hx) (exd_ok hn (relO_put (fs := []) ry fun _ => True.intro)))
theorem ost_oldG (T : OexG X.K C newId initId) (I : Inv X pins σ H s) (e : H a = some (exo a C (some dx))) (ed : H dx = some (exd dx fs)) (hl : fs.length ≤ 900) (hno : PySem.W.findIn X.K (.ref C) f = some none) (ry : RelV y u)
    (h : ∀ s', Inv X pins σ (upd H dx (exd dx ((f, y) :: fs))) s' → Q () s') : wpAny (model X.prog X.w) A (setAttr (.ref a) f u) Q E s := by
  obtain ⟨cd, B, bmB, hc, hd, ho, SF⟩ := T.read
  obtain ⟨t1, ha⟩ := exo_at I.hok e
  obtain ⟨mA, hn, rel⟩ := exd_at I.hok ed
  have hw := within_of rel
  obtain ⟨od, _, _, hod, _, _⟩ := hn.count hw
  refine PySem.W.set_plain I.kIn (od := some od) ⟨ha, rfl, rfl, hod⟩ T.sa (put2 SF I.kIn ha hn hw (by rw [List.length_map]; omega) hc hd ho hno fun h2 t2 n2 k => ?_)
  have there : ∃ o, h2.get? dx = some o := n2.imp fun o z => by obtain ⟨_, _, z, _⟩ := z; exact z
  exact h _ (I.write (t' := t2) (by rw [ed]; exact True.intro) (.inl rfl) k there (exd_ok n2 (relO_put ry rel)))
theorem oinit_okG {us : List Value} {Q : Value → Shared → Prop} (T : OexG X.K C newId initId) (I : Inv X pins σ H s) (e : H a = some (exo a C none)) (hl : us.length ≤ sizeLine) (h : ∀ s', Inv X pins σ H s' → Q .none s') :
    wpAny (model X.prog X.w) A (call (.builtin initId) (.ref a :: us)) Q E s := by
  obtain ⟨nm, q, N, bs, bm, sn, sub, ab, col, dd, k0, k1, k2, k3, k5, B, bmB, hC, hF, _, ht⟩ := T.cls
  obtain ⟨t1, ha⟩ := exo_at I.hok e
  obtain ⟨h0, g, d, t, os⟩ := s
  refine wpAny_call (PySem.HandSPX.init_base hF (fun Y => PySem.W.excTail_contains Y bm ht) (I.kIn _ _ hC) ha hl fun h2 t2 k hx => ?_)
  have J := I.write (t' := t) (x := a) (by rw [e]; exact True.intro) (.inl rfl) k ⟨_, hx⟩ (exo_ok (H := upd H a (exo a C none)) hx)
  have same : upd H a (exo a C none) = H := funext fun b => if hb : b = a then by rw [hb, upd_same, e] else upd_ne hb
  exact h _ (same ▸ J)
end
/-- W.__init__(self, ..), W an own class that has it from a built-in one -/
def tWi (K : PySem.W.Frag) (newId initId : String) (ta : TA) : TE := fun σ H Q => ta σ H fun vs H1 => ∃ (a C : Addr) (ws : List V), vs = .ref a :: ws ∧ ws.length ≤ 1000 ∧ OexG K C newId initId ∧ H1 a = some (exo a C none) ∧ Q .non H1
/-- self.f = e -/
def tOsG (K : PySem.W.Frag) (newId initId : String) (g : Str) (to te : TE) : TS := fun D σ H => te σ H fun y H1 => to σ H1 fun x H2 => ∃ a C : Addr, x = .ref a ∧ OexG K C newId initId ∧ PySem.W.findIn K (.ref C) g = some none ∧
  ((H2 a = some (exo a C none) ∧ ∀ dx, H2 dx = none → dx ≠ a → D.nx σ (upd (upd H2 dx (exd dx [(g, y)])) a (exo a C (some dx)))) ∨
    ∃ (dx : Addr) (fs : List (Str × V)), H2 a = some (exo a C (some dx)) ∧ H2 dx = some (exd dx fs) ∧ fs.length ≤ 900 ∧ D.nx σ (upd H2 dx (exd dx ((g, y) :: fs))))
section
variable {X : Cx} {o e : Expr} {es : List Expr} {to te : TE} {ta : TA} {f c : Str} {p p' p1 p2 pos : Pos} {newId initId : String} {W : Addr} {mc : Value}
/-- the base's __init__ run behind its arguments -/
theorem run_base {pins : List (Addr × Obj)} {σ : L2.St} {H : Hp} {s : Shared} {Q : VK} (ha : PA X (e :: es) ta) (I : Inv X pins σ H s) (h : tWi X.K newId initId ta σ H Q) (he : starEach (e :: es) X.env = (false, eval e X.env) :: starEach es X.env) (hpl : (backTo pos (starEach es X.env)).any (·.1) = false) :
    wpAny (model X.prog X.w) X.A (callWith pos (Value.builtin initId) [] (backTo pos (starEach (e :: es) X.env)) []) (EP X pins σ Q) X.xe s := by
  refine PyProof.Rows.callWith_method1 (thn (ha.run pos pins _ σ H _ I h) fun us s1 ⟨vs, H1, J, r, a, C, ws, ev, hl, T, ea, q⟩ => ?_) he hpl
  subst ev
  obtain ⟨u0, ur, rfl, r0, r1⟩ : ∃ u0 ur, us = u0 :: ur ∧ RelV (.ref a) u0 ∧ Vals ws ur := by cases r with | cons x y => exact ⟨_, _, rfl, x, y⟩
  cases (show u0 = Value.ref a from r0)
  exact oinit_okG T J ea (by rw [← Paired.length r1, sizeLine_eq]; omega) fun s' J' => ⟨.non, H1, J', rfl, q⟩
theorem pe_winit {pl : Sem Bool} (hg : Gl X c) (hm : X.mg c = some (.ref W)) (r : ClX.CRead X.K W mc) (hv : PySem.W.findCls X.K (.ref W) mc "__init__" = some (.val (.builtin initId))) (hh : PySem.W.handedIn (.builtin initId) = true) (ha : PA X (e :: es) ta)
    (hdb : (c == ("__debug__" : Str)) = false := by decide)
    (hc : eval (.Call (.Attribute (.Name c p1) "__init__" p2) (e :: es) [] pos) X.env = (do
      let ov ← eval (.Name c p1) X.env
      standAt p2.atName
      let (f, first) ← holding [ov] (getMethod ov "__init__" pl)
      callWith pos f first (backTo pos (starEach (e :: es) X.env)) (backToKw pos (keywordEach [] X.env))) := by rfl)
    (he : starEach (e :: es) X.env = (false, eval e X.env) :: starEach es X.env := by rfl) (hpl : (backTo pos (starEach es X.env)).any (·.1) = false := by rfl) :
    PE X (.Call (.Attribute (.Name c p1) "__init__" p2) (e :: es) [] pos) (tWi X.K newId initId ta) :=
  ⟨fun pins s σ H Q I h => PySem.W.methodCall_KW (ld_glob I hg hm (PySem.W.method_cls I.kIn r.ga (PySem.W.cls_value I.kIn r.rd hv hh (run_base ha (I.tok _) h he hpl))) hdb) hc⟩
theorem ps_osG (ho : PE X o to) (he : PE X e te) (hs : swapsWith e (some (.Attribute o f p')) pos.line X.env = pure false := by rfl) : PS X (.Assign [.Attribute o f p'] e pos) (tOsG X.K newId initId f to te) := by
  refine ⟨fun pins s σ H D I h => plainObj_wpAny_Assign_Attribute (thn (he.run pins s σ H _ I h) fun v s1 ⟨y, H1, I1, r1, q1⟩ => thn (ho.run pins s1 σ H1 _ I1 q1) fun u s2 ⟨x, H2, I2, r2, a, C, ex, T, hno, q⟩ => ?_) hs⟩
  cases ex
  cases (show u = Value.ref a from r2)
  exact q.elim (fun q => ost_newG T I2 q.1 hno r1 fun dx s' n ne J => ⟨σ, _, J, q.2 dx n ne⟩) fun ⟨dx, fs, ea, ed, hl, q⟩ => ost_oldG T I2 ea ed hl hno r1 fun s' J => ⟨σ, _, J, q⟩
end
end DL

/-! DL37: an own exception made as a value, by places and by keywords (HandS.Exc: by places) -/
namespace PySem
namespace XMake
open HandSPX
/-- the class object of an own exception lies at C -/
structure Lies (hp : Heap) (C : Addr) (nI iI : String) : Prop where
  ex : ∃ nm q N bs bm hd sn sub ab col dd k0 k1 k2 k3 k5 B bmB, hp.get? C = some (excClassObj nm q C N bs bm hd sn sub ab col dd k0 k1 k2 k3 k5 nI) ∧ ExcBaseFacts B nI iI bmB ∧ ∀ Y : String, bm.contains (.type Y) = bmB.contains (.type Y)
section
variable {P : Program} {w : World} {A : Around} {E : Value → Shared → Prop} {R : Result → Shared → Prop} {s : Shared} {C fI : Addr} {nI iI : String} {us : List Value} {kv : List (Str × Value)}
/-- the heap with the new exception -/
abbrev laid (hp : Heap) (C : Addr) (us : List Value) : Heap := (hp.push (W.kdv_tup us)).push (excO C hp.objs.size)
theorem asked {M : Model} {Q : Unit → Shared → Prop} (Y : Lies s.heap C nI iI) (q : Q () s) : wpAny M A (checkBuiltinCall nI ⟨.ref C :: us, kv⟩) Q E s := by
  obtain ⟨nm, qn, N, bs, bm, hd, sn, sub, ab, col, dd, k0, k1, k2, k3, k5, B, bmB, at_, F, sameT⟩ := Y.ex
  obtain ⟨hp, g, d, t, os⟩ := s
  have inB : (Value.ref C :: bm).contains (.type B) = true := by simp only [List.contains_cons, sameT, F.hasB, Bool.or_true]
  have noStar := F.noStar
  simp only [checkBuiltinCall, F.newRow, F.newSplit, F.newKind]
  repeat (first | refine wpAny_madeBy_exc at_ ?_ | refine wpAny_staticBase_exc at_ ?_ | refine wpAny_loadPart_at at_ ?_ | (refine wpAny_isSubtype_exc at_ ?_; rw [inB]) | simp only [if_false, Bool.false_eq_true, bne_self_eq_false] | wp_step)
  exact q
theorem born (Y : Lies s.heap C nI iI) (few : us.length ≤ sizeLine) (q : R (.ok (.ret (.ref (s.heap.objs.size + 1)))) { s with heap := laid s.heap C us }) : codeAny (model P w) A (.builtin nI ⟨.ref C :: us, kv⟩) R s := by
  obtain ⟨nm, qn, N, bs, bm, hd, sn, sub, ab, col, dd, k0, k1, k2, k3, k5, B, bmB, at_, F, sameT⟩ := Y.ex
  obtain ⟨hp, g, d, t, os⟩ := s
  have ends := F.ends
  have inB : (Value.ref C :: bm).contains (.type B) = true := by simp only [List.contains_cons, sameT, F.hasB, Bool.or_true]
  have noA : (Value.ref C :: bm).contains (.type "AttributeError") = false := by simp only [List.contains_cons, sameT, F.noAttr]; rfl
  have noN : (Value.ref C :: bm).contains (.type "NameError") = false := by simp only [List.contains_cons, sameT, F.noName]; rfl
  refine codeAny_builtinAt F.entry ?_
  unfold Builtin.«BaseException.__new__»
  refine wpAt_bind (show wpAt _ _ _ (stack >>= _) _ _ _ from wpAt_bind (wpAt_stack fun _ _ => wpAt_of_wpAny ?_))
  wp_walk
  refine wpAt_of_wpAny ?_
  rw [F.owner]
  repeat (first | with_reducible refine wpAny_loadPart_at at_ ?_ | with_reducible refine wpAny_madeHere_exc F.canon at_ ?_ | (with_reducible refine wpAny_isSubtype_exc at_ ?_; first | rw [noN] | rw [noA] | rw [inB]) | wp_step)
  show R _ _
  rw [Heap.size_push]
  exact q
theorem called {Q : Fin → Shared → Prop} (Y : Lies s.heap C nI iI) (ini : W.Looks (model P w) s.heap (typeLookup (.ref C) "__init__") (some (.ref fI))) (bnd : ∀ z, W.Looks (model P w) s.heap (bindSpecial (.ref fI) z) (.ref fI, [z])) (few : us.length ≤ sizeLine)
    (q : codeAny (model P w) A (.call (.ref fI) ⟨.ref (s.heap.objs.size + 1) :: us, kv⟩) (fun r s' => match r with
      | .error e => E e s'
      | .ok (.ret v) => v = .none ∧ Q (.done (.ret (.ref (s.heap.objs.size + 1)))) s'
      | .ok _ => False) { s with heap := laid s.heap C us }) : wpAny (model P w) A (Builtin.«type.__call__» ⟨.ref C :: us, kv⟩) Q E s := by
  obtain ⟨nm, qn, N, bs, bm, hd, sn, sub, ab, col, dd, k0, k1, k2, k3, k5, B, bmB, at_, F, sameT⟩ := Y.ex
  obtain ⟨hp, g, d, t, os⟩ := s
  repeat (first | with_reducible refine wpAny_madeBy_exc at_ ?_ | with_reducible refine wpAny_loadPart_at at_ ?_ | wp_step)
  refine codeAny_call_builtin_code (Code.quiet_builtin _ F.quiet) (asked Y (born Y few ?_))
  have keep : ∀ b o, hp.get? b = some o → (laid hp C us).get? b = some o := fun b o z => Heap.get?_push_of_some _ (Heap.get?_push_of_some _ z)
  have new : (laid hp C us).get? (hp.objs.size + 1) = some (excO C hp.objs.size) := by heap_get
  have at2 := keep _ _ at_
  have own : (Value.ref C :: bm).contains (.ref C) = true := by rw [List.contains_cons, beq_self_eq_true]; rfl
  show wpAny _ _ _ _ _ _
  unfold isInstance
  repeat (first | with_reducible refine wpAny_loadPart_at new ?_ | (with_reducible refine wpAny_isSubtype_exc at2 ?_; rw [own]) | wp_step)
  show wpAny _ _ (typeLookup (.ref C) _) _ _ _
  refine (ini.keeps keep).at (wpAny_holding (wpAny_bind (((bnd (.ref (hp.objs.size + 1))).keeps keep).at (wpAny_bind (wpAny_call (codeAny_mono q fun r s' z => ?_))))))
  cases r with
  | error e => exact z
  | ok fl =>
    cases fl with
    | ret v =>
      obtain ⟨hv, z⟩ := z
      cases hv
      first
        | exact wpAny_pure (wpAny_pure z)
        | (wp_walk; exact z)
    | next => exact z.elim
    | brk => exact z.elim
    | cont => exact z.elim
theorem make (Y : Lies s.heap C nI iI) (ini : W.Looks (model P w) s.heap (typeLookup (.ref C) "__init__") (some (.ref fI))) (bnd : ∀ z, W.Looks (model P w) s.heap (bindSpecial (.ref fI) z) (.ref fI, [z])) (few : us.length ≤ sizeLine)
    (q : codeAny (model P w) (A.under (.builtin "type.__call__" ⟨.ref C :: us, kv⟩)) (.call (.ref fI) ⟨.ref (s.heap.objs.size + 1) :: us, kv⟩) (W.InitBack (s.heap.objs.size + 1) R) { s with heap := laid s.heap C us }) : codeAny (model P w) A (.call (.ref C) ⟨us, kv⟩) R s := by
  have Y0 := Y
  obtain ⟨nm, qn, N, bs, bm, hd, sn, sub, ab, col, dd, k0, k1, k2, k3, k5, B, bmB, at_, F, sameT⟩ := Y.ex
  obtain ⟨hp, g, d, t, os⟩ := s
  have g1 := tc_lookup
  have g2 := tc_bind (.ref C)
  have g3 := tc_sub
  have ty : Shared.TypeIs ⟨hp, g, d, t, os⟩ (.ref C) "type" := ⟨_, at_, rfl⟩
  have ask : ∀ {M : Model} {A' : Around} {Q : Unit → Shared → Prop} {E' : Value → Shared → Prop}, Q () ⟨hp, g, d, t, os⟩ → wpAny M A' (checkBuiltinCall "type.__call__" ⟨.ref C :: us, kv⟩) Q E' ⟨hp, g, d, t, os⟩ := by
    intro M A' Q E' z
    simp only [tc_split, tc_kind, checkBuiltinCall]
    repeat (any_goals (first | assumption | with_reducible refine wpAny_map ?_ | with_reducible refine wpAny_onRaise ?_ | with_reducible refine wpAny_loadPart_at at_ ?_ | wp_step))
  refine codeAny_of_tree (show wpAny _ _ (callAny (.ref C) _) _ _ _ from ?_)
  repeat (any_goals (first | assumption | wp_step | with_reducible refine wpAny_loadPart_at at_ ?_))
  refine ⟨rfl, codeAny_call_builtin_at (Code.quiet_builtin _ (by decide +kernel)) entry_typeCall (ask (called Y0 ini bnd few (codeAny_mono q fun r s' z => ?_)))⟩
  rcases r with e | (v | _ | _ | _) <;> exact z
end
end XMake
end PySem
namespace DL
open L2 PySem PyProof.Rows PySem.Spec
/-- what the __init__ of an own exception does: it writes the fields fs -/
def spX (K : PySem.W.Frag) (newId initId : String) (n : Nat) (ns : List Str) (fs : List V → List (Str × V)) : Sp := fun vs H Q _ => vs.length = n ∧ ∃ a C ws, vs = .ref a :: ws ∧ OexG K C newId initId ∧ (∀ f ∈ ns, PySem.W.findIn K (.ref C) f = some none) ∧ H a = some (exo a C none) ∧
  ∀ dx, H dx = none → dx ≠ a → Q .non (upd (upd H dx (exd dx (fs ws))) a (exo a C (some dx)))
theorem upd_eq {H : Hp} {a b : Addr} {o u v : HO} (h : b ≠ a) : upd (upd (upd H b o) a u) b v = upd (upd H b v) a u := by
  funext c
  by_cases h1 : c = a
  · subst h1; rw [upd_ne (Ne.symm h), upd_same, upd_same]
  · by_cases h2 : c = b
    · subst h2; rw [upd_same, upd_ne h1, upd_same]
    · rw [upd_ne h2, upd_ne h1, upd_ne h2, upd_ne h1, upd_ne h2]
section
variable {P : Program} {w : World} {K : PySem.W.Frag} {mg : Mg} {base : Heap} {x qual : Str} {st : Stmt} {f : Addr} {fd : FuncData} {N ps : List Str} {k : Nat} {newId initId : String} {code f1 f2 : Str}
theorem getC {X : Cx} {σ : L2.St} {H : Hp} {Q : VK} {v : V} (h : Q v H) : tC v σ H Q := h
theorem initX0 (F : Fun K x qual st f fd) (S : FnScope N ps (defScope st)) (hn : N.length = 1) (hp : ps.length = 1)
    (h : ∀ (cdv : Value) (A : Around) (outer : List Env) (s : Shared) (H : Hp) (E : XK), PSs (cxOf (L2.CX P w) P w K mg base N qual (defScope st) f cdv A outer s H E) (defBody st) (tSeq (tDrop (tWi K newId initId (tCons (tVar 0) (tCons (tC (.str code)) tNil)))) (tOsG K newId initId "code" (tVar 0) (tC (.str code))))) :
    FnOk P w K mg base (L2.CX P w) (k + 1) f fd ps (spX K newId initId 1 ["code"] fun _ => [("code", .str code)]) := by
  refine F.okX S (fun vs H Q E z => by rw [hp]; exact z.1) (fun cdv A outer s H vs Q E hr hq => ⟨_, h cdv A outer s H E, ?_⟩)
  obtain ⟨hl, a, C, ws, rfl, T, hf, ha, q⟩ := hq
  have hs : (start N (.ref a :: ws))[0]? = some (some (.ref a)) := rfl
  refine ⟨_, hs, a, C, [.str code], rfl, by simp, T, ha, ?_⟩
  refine ⟨_, hs, a, C, rfl, T, hf _ (by simp), .inl ⟨ha, fun dx h1 h2 => q dx h1 h2⟩⟩
theorem initX1 (F : Fun K x qual st f fd) (S : FnScope N ps (defScope st)) (hn : N.length = 2) (hp : ps.length = 2)
    (h : ∀ (cdv : Value) (A : Around) (outer : List Env) (s : Shared) (H : Hp) (E : XK), PSs (cxOf (L2.CX P w) P w K mg base N qual (defScope st) f cdv A outer s H E) (defBody st) (tSeq (tDrop (tWi K newId initId (tCons (tVar 0) (tCons (tC (.str code)) tNil)))) (tSeq (tOsG K newId initId "code" (tVar 0) (tC (.str code))) (tOsG K newId initId f1 (tVar 0) (tVar 1))))) :
    FnOk P w K mg base (L2.CX P w) (k + 1) f fd ps (spX K newId initId 2 ["code", f1] fun ws => [(f1, ws.getD 0 .non), ("code", .str code)]) := by
  refine F.okX S (fun vs H Q E z => by rw [hp]; exact z.1) (fun cdv A outer s H vs Q E hr hq => ⟨_, h cdv A outer s H E, ?_⟩)
  obtain ⟨hl, a, C, ws, rfl, T, hf, ha, q⟩ := hq
  obtain ⟨y, rfl⟩ : ∃ y, ws = [y] := by
    match ws, hl with
    | [y], _ => exact ⟨y, rfl⟩
  have hs : (start N [.ref a, y])[0]? = some (some (.ref a)) := rfl
  have hs1 : (start N [.ref a, y])[1]? = some (some y) := rfl
  refine ⟨_, hs, a, C, [.str code], rfl, by simp, T, ha, ?_⟩
  refine ⟨_, hs, a, C, rfl, T, hf _ (by simp), .inl ⟨ha, fun dx h1 h2 => ?_⟩⟩
  refine ⟨_, hs1, _, hs, a, C, rfl, T, hf _ (by simp), .inr ⟨dx, _, upd_same, by rw [upd_ne h2, upd_same], by simp, ?_⟩⟩
  rw [upd_eq h2]
  exact q dx h1 h2
theorem initX2 (F : Fun K x qual st f fd) (S : FnScope N ps (defScope st)) (hn : N.length = 3) (hp : ps.length = 3)
    (h : ∀ (cdv : Value) (A : Around) (outer : List Env) (s : Shared) (H : Hp) (E : XK), PSs (cxOf (L2.CX P w) P w K mg base N qual (defScope st) f cdv A outer s H E) (defBody st) (tSeq (tDrop (tWi K newId initId (tCons (tVar 0) (tCons (tC (.str code)) tNil)))) (tSeq (tOsG K newId initId "code" (tVar 0) (tC (.str code))) (tSeq (tOsG K newId initId f1 (tVar 0) (tVar 1)) (tOsG K newId initId f2 (tVar 0) (tVar 2)))))) :
    FnOk P w K mg base (L2.CX P w) (k + 1) f fd ps (spX K newId initId 3 ["code", f1, f2] fun ws => [(f2, ws.getD 1 .non), (f1, ws.getD 0 .non), ("code", .str code)]) := by
  refine F.okX S (fun vs H Q E z => by rw [hp]; exact z.1) (fun cdv A outer s H vs Q E hr hq => ⟨_, h cdv A outer s H E, ?_⟩)
  obtain ⟨hl, a, C, ws, rfl, T, hf, ha, q⟩ := hq
  obtain ⟨y, z, rfl⟩ : ∃ y z, ws = [y, z] := by
    match ws, hl with
    | [y, z], _ => exact ⟨y, z, rfl⟩
  have hs : (start N [.ref a, y, z])[0]? = some (some (.ref a)) := rfl
  have hs1 : (start N [.ref a, y, z])[1]? = some (some y) := rfl
  have hs2 : (start N [.ref a, y, z])[2]? = some (some z) := rfl
  refine ⟨_, hs, a, C, [.str code], rfl, by simp, T, ha, ?_⟩
  refine ⟨_, hs, a, C, rfl, T, hf _ (by simp), .inl ⟨ha, fun dx h1 h2 => ?_⟩⟩
  refine ⟨_, hs1, _, hs, a, C, rfl, T, hf _ (by simp), .inr ⟨dx, _, upd_same, by rw [upd_ne h2, upd_same], by simp, ?_⟩⟩
  rw [upd_eq h2]
  refine ⟨_, hs2, _, hs, a, C, rfl, T, hf _ (by simp), .inr ⟨dx, _, upd_same, by rw [upd_ne h2, upd_same], by simp, ?_⟩⟩
  rw [upd_eq h2]
  exact q dx h1 h2
end
section
variable {X : Cx} {pins : List (Addr × Obj)} {σ : L2.St} {H : Hp} {s : Shared} {C fI : Addr} {k : Nat} {fd : FuncData} {ps : List Str} {sp : Sp} {newId initId : String} {us ua : List Value} {kv : List (Str × Value)} {va : List V} {Q : VK}
theorem OexG.lies (T : OexG X.K C newId initId) (hK : X.K.In s.heap) : PySem.XMake.Lies s.heap C newId initId := by
  obtain ⟨nm, q, N, bs, bm, sn, sub, ab, col, dd, k0, k1, k2, k3, k5, B, bmB, hC, hF, _, ht⟩ := T.cls
  exact ⟨nm, q, N, bs, bm, true, sn, sub, ab, col, dd, k0, k1, k2, k3, k5, B, bmB, hK _ _ hC, hF, fun Y => PySem.W.excTail_contains Y bm ht⟩
/-- C(..), as a value: us and kv as they are handed in, ua as the def's parameters have them behind self -/
theorem run_oex (T : OexG X.K C newId initId) (iC : PySem.W.findIn X.K (.ref C) "__init__" = some (some (.ref fI))) (tI : PySem.W.typeIn X.K (.ref fI) = some (.type "function")) (F1 : FnOk X.prog X.w X.K X.mg X.base (L2.CX X.prog X.w) k fI fd ps sp)
    (hb : ∀ (s : Shared) (z : Value), X.K.In s.heap → (z :: ua).length = ps.length → BindsTo s fd ⟨z :: us, kv⟩ (ps.zip (z :: ua))) (hr : Room (k + 1) X.A) (I : Inv X pins σ H s) (r : Vals va ua) (few : us.length ≤ sizeLine)
    (h : ∀ a, H a = none → sp (.ref a :: va) (upd H a (exo a C none)) (fun v H2 => v = .non ∧ Q (.ref a) H2) (fun _ _ _ => False)) : wpAny (model X.prog X.w) X.A (call (.ref C) us kv) (EP X pins σ Q) X.xe s := by
  have Y := T.lies I.kIn
  have nw : H (s.heap.objs.size + 1) = none := I.hok.fresh (Nat.le_succ _)
  have q := h _ nw
  have J : Inv X pins σ (upd H (s.heap.objs.size + 1) (exo (s.heap.objs.size + 1) C none)) { s with heap := PySem.XMake.laid s.heap C us } :=
    I.laid (t' := s.toks) (fun b o z => Heap.get?_push_of_some _ (Heap.get?_push_of_some _ z)) (Nat.le_succ _) (exo_ok (by heap_get))
  have r2 : Vals (V.ref (s.heap.objs.size + 1) :: va) (Value.ref (s.heap.objs.size + 1) :: ua) := .cons rfl r
  have len : (Value.ref (s.heap.objs.size + 1) :: ua).length = ps.length := r2.length.symm.trans (F1.len _ _ _ _ q)
  refine wpAny_call (PySem.XMake.make Y (PySem.W.looks_findIn I.kIn iC) (fun z => PySem.W.bind_fn I.kIn z tI) few
    (codeAny_mono (F1.run _ X.stack _ _ _ _ _ _ (fun _ _ _ => False) (hr.make C us kv) (J.env0.make C us kv) (hb _ _ J.kIn len) r2 q) fun r s' q' => ?_))
  cases r with
  | error er =>
    obtain ⟨_, _, _, _, _, _, _, _, _, _, _, _, z⟩ := q'
    exact z.elim
  | ok fl =>
    cases fl with
    | ret u =>
      obtain ⟨v, H2, J2, rv, ev, q2⟩ := J.after q'
      cases ev
      exact ⟨rv, ⟨V.ref (s.heap.objs.size + 1), H2, J2, rfl, q2⟩⟩
    | next => exact False.elim q'
    | brk => exact False.elim q'
    | cont => exact False.elim q'
end
end DL

/-! DL38: own exceptions as data: made, their fields read, asked for their class -/
namespace DL
open PySem L2 PySem.Spec PyProof.Rows
structure ExcD (P : Program) (w : World) (K : PySem.W.Frag) (mg : Mg) (base : Heap) (c : Str) (k n : Nat) (fs : List D → List (Str × D)) : Prop where
  ex : ∃ C fI fd ps newId initId ns fsV, mg c = some (.ref C) ∧ OexG K C newId initId ∧ PySem.W.findIn K (.ref C) "__init__" = some (some (.ref fI)) ∧ PySem.W.typeIn K (.ref fI) = some (.type "function") ∧
    FnOk P w K mg base (L2.CX P w) k fI fd ps (spX K newId initId n ns fsV) ∧ Binds K fd ps [] ∧ (∀ f ∈ ns, PySem.W.findIn K (.ref C) f = some none) ∧ ∀ F vs ds, DpL K mg F vs ds → vs.length + 1 = n → DpF K mg F (fsV vs) (fs ds)
def datR : List R → Option (List D)
  | [] => some []
  | .t x :: r => (datR r).map (frz x :: ·)
  | .h _ :: _ => none
def eExn (c : Str) (n : Nat) (fs : List D → List (Str × D)) (A : DenA) : Den := fun ρ M => (A ρ M).bind fun rs M1 => match datR rs with
  | some ds => if rs.length + 1 = n ∧ n ≤ 900 then .ok (.t (.d (.exn c (fs ds)))) M1 else .bad
  | none => .bad
section
variable {X : Cx} {W : WX} {σ : L2.St} {fs gs : List Addr} {w w2 : Wd} {H H2 : Hp} {M M2 : Mst}
theorem datR_vr : ∀ {rs : List R} {ds : List D} {vs : List V}, datR rs = some ds → VRL X.K X.mg w M vs (rs.map svR) → DpL X.K X.mg w.F vs ds
  | [], ds, vs, h, v => by cases h; cases v; exact .nil
  | .h _ :: _, _, _, h, _ => nomatch h
  | .t x :: r, ds, vs, h, v => by
    have h : (datR r).map (frz x :: ·) = some ds := h
    cases z : datR r with
    | none => rw [z] at h; cases h
    | some d =>
      rw [z] at h
      cases h
      cases v with
      | cons h1 h2 => exact .cons h1 (datR_vr z h2)
/-- two things that nobody may change, laid anew -/
theorem ext_add (m : MR X.K X.mg w H M) {a b : Addr} (ha : H a = none) (hb : H b = none) (u v : HO) : Ext [] w H M ⟨fun c => if c = a then some u else if c = b then some v else w.F c, w.α, w.φ⟩ (upd (upd H b v) a u) M ∧ MR X.K X.mg ⟨fun c => if c = a then some u else if c = b then some v else w.F c, w.α, w.φ⟩ (upd (upd H b v) a u) M ∧
    Same w.F (fun c => if c = a then some u else if c = b then some v else w.F c) := by
  have old : ∀ c o, H c = some o → c ≠ a ∧ c ≠ b := fun c o h => ⟨fun z => (by rw [z, ha] at h; cases h), fun z => (by rw [z, hb] at h; cases h)⟩
  have hs : Same H (upd (upd H b v) a u) := fun c o h => by rw [upd_ne (old c o h).1, upd_ne (old c o h).2]; exact h
  have sF : Same w.F (fun c => if c = a then some u else if c = b then some v else w.F c) := fun c o h => by
    have k := old c o (m.sub c o h)
    show (if c = a then some u else if c = b then some v else w.F c) = some o
    rw [if_neg k.1, if_neg k.2]; exact h
  refine ⟨⟨sF, Nat.le_refl _, fun _ _ => rfl, fun c o h _ => hs c o h, fun k hk c hc => .inr (.inl ⟨k, hk, hc⟩), fun c z => ?_, fun c z => ?_⟩, ⟨fun c o h => ?_, fun k t ht => ?_, m.dis⟩, sF⟩
  · have z : (if c = a then some u else if c = b then some v else w.F c) ≠ none := z
    by_cases h1 : c = a
    · exact .inr (.inl (by rw [h1]; exact ha))
    · rw [if_neg h1] at z
      by_cases h2 : c = b
      · exact .inr (.inl (by rw [h2]; exact hb))
      · rw [if_neg h2] at z; exact .inl z
  · cases h : H c with
    | none => rfl
    | some o => rw [hs c o h] at z; cases z
  · have h : (if c = a then some u else if c = b then some v else w.F c) = some o := h
    by_cases h1 : c = a
    · rw [if_pos h1] at h; rw [h1, upd_same]; exact h
    · rw [if_neg h1] at h
      rw [upd_ne h1]
      by_cases h2 : c = b
      · rw [if_pos h2] at h; rw [h2, upd_same]; exact h
      · rw [if_neg h2] at h; rw [upd_ne h2]; exact m.sub c o h
  · obtain ⟨g1, g2⟩ := m.obj k t ht
    refine ⟨g1.stay sF fun c hc => ?_, g2⟩
    obtain ⟨n0, o, ho⟩ := g1.fp c hc
    refine ⟨?_, fun o h => hs c o h⟩
    show (if c = a then some u else if c = b then some v else w.F c) = none
    rw [if_neg (old c o ho).1, if_neg (old c o ho).2]; exact n0
variable {e : Expr} {es : List Expr} {A : DenA} {pos p apos : Pos} {x m f c : Str} {k n : Nat} {fd : List D → List (Str × D)}
theorem rd_exn {C : Addr} {newId initId : String} {ns : List Str} {fsV : List V → List (Str × V)} (hC : X.mg c = some (.ref C)) (T : OexG X.K C newId initId) (hf : ∀ f ∈ ns, PySem.W.findIn X.K (.ref C) f = some none) (hd : ∀ F vs ds, DpL X.K X.mg F vs ds → vs.length + 1 = n → DpF X.K X.mg F (fsV vs) (fd ds)) {Q : VK} (h : rdE X W (eExn c n fd A) σ H Q) :
    rdA X W A σ H fun vs H1 => vs.length ≤ 1000 ∧ ∀ a, H1 a = none → spX X.K newId initId n ns fsV (.ref a :: vs) (upd H1 a (exo a C none)) (fun v H2 => v = .non ∧ Q (.ref a) H2) (fun _ _ _ => False) := by
  obtain ⟨w, ρ, M, wm, er, p⟩ := h
  refine ⟨w, ρ, M, wm, er, p.bindF.imp fun w1 H1 M1 rs _ _ z => ?_⟩
  obtain ⟨e1, m1, p1⟩ := z
  intro vs fp q hf'
  replace p1 := p1 fp hf'
  split at p1
  · rename_i ds hds
    split at p1
    · rename_i hl
      have hlen := q.length
      refine ⟨by omega, fun a ha => ⟨by rw [List.length_cons, hlen]; exact hl.1, a, C, vs, rfl, T, hf, upd_same, fun dx h1 h2 => ⟨rfl, ?_⟩⟩⟩
      obtain ⟨w2, e2, m2, v2⟩ := settleL m1 q
      have hdx : H1 dx = none := by rw [upd_ne h2] at h1; exact h1
      obtain ⟨e3, m3, sF⟩ := ext_add m2 ha hdx (exo a C (some dx)) (exd dx (fsV vs))
      have hdp := datR_vr hds v2
      have eu : upd (upd (upd H1 a (exo a C none)) dx (exd dx (fsV vs))) a (exo a C (some dx)) = upd (upd H1 dx (exd dx (fsV vs))) a (exo a C (some dx)) := by
        funext b
        by_cases z : b = a
        · subst z; rw [upd_same, upd_same]
        · rw [upd_ne z, upd_ne z]
          by_cases y : b = dx
          · subst y; rw [upd_same, upd_same]
          · rw [upd_ne y, upd_ne y, upd_ne z]
      rw [eu]
      refine p1 _ _ (e2.trans0 e3) m3 _ [] (rr_d (.exn (C := C) (dx := dx) (fs := fsV vs) (if_pos rfl) ?_ hC (DpF.mono sF (hd _ _ _ hdp (by rw [hlen]; exact hl.1))))) fun _ z => nomatch z
      show (if dx = a then _ else if dx = dx then _ else _) = _
      rw [if_neg h2, if_pos rfl]
    · exact p1.elim
  · exact p1.elim
theorem run_oexP {pins : List (Addr × Obj)} {s : Shared} {C fI : Addr} {fd' : FuncData} {ps : List Str} {sp : Sp} {newId initId : String} {us : List Value} {vs : List V} {Q : VK} (T : OexG X.K C newId initId) (iC : PySem.W.findIn X.K (.ref C) "__init__" = some (some (.ref fI))) (tI : PySem.W.typeIn X.K (.ref fI) = some (.type "function")) (F : FnOk X.prog X.w X.K X.mg X.base (L2.CX X.prog X.w) k fI fd' ps sp) (hb : Binds X.K fd' ps []) (hr : Room (k + 1) X.A) (I : Inv X pins σ H s) (r : Vals vs us) (hv : vs.length ≤ 1000)
    (h : ∀ a, H a = none → sp (.ref a :: vs) (upd H a (exo a C none)) (fun v H2 => v = .non ∧ Q (.ref a) H2) (fun _ _ _ => False)) : wpAny (model X.prog X.w) X.A (call (.ref C) us) (EP X pins σ Q) X.xe s :=
  run_oex T iC tI F (fun s z kin len => by
    have b := hb s (z :: us) kin (by rw [List.append_nil]; exact len)
    rw [List.append_nil] at b
    exact b) hr I r (by rw [← Paired.length r, sizeLine_eq]; omega) h
theorem de_exn (D : ExcD X.prog X.w X.K X.mg X.base x k n fd) (hr : Room (k + 1) X.A) (hg : Gl X x) (ha : DA X W (e :: es) A)
    (hdb : (x == ("__debug__" : Str)) = false := by decide) (he : starEach (e :: es) X.env = (false, eval e X.env) :: starEach es X.env := by rfl) (hpl : (backTo pos (starEach es X.env)).any (·.1) = false := by rfl) :
    DE X W (.Call (.Name x p) (e :: es) [] pos) (eExn x n fd A) := by
  obtain ⟨C, fI, fd', ps, newId, initId, ns, fsV, hC, T, iC, tI, F, hb, hf, hd⟩ := D.ex
  refine ⟨fun pins s σ H Q I h => ?_⟩
  refine wpAny_Call_Name_kw (ld_glob I hg hC ?_ hdb)
  refine PySem.W.callWith_K (h₀ := X.base) I.ok.mod.kin T.kC (thn (ha.run pos pins s σ H _ I (rd_exn hC T hf hd h)) fun us s1 ⟨vs, H1, I1, r, hl, q⟩ => ⟨I1.kIn, ?_⟩) he hpl
  exact run_oexP T iC tI F hb hr I1 r hl q
theorem de_exn0 (D : ExcD X.prog X.w X.K X.mg X.base x k n fd) (hr : Room (k + 1) X.A) (hg : Gl X x) (hdb : (x == ("__debug__" : Str)) = false := by decide) :
    DE X W (.Call (.Name x p) [] [] pos) (eExn x n fd eNil) := by
  obtain ⟨C, fI, fd', ps, newId, initId, ns, fsV, hC, T, iC, tI, F, hb, hf, hd⟩ := D.ex
  refine ⟨fun pins s σ H Q I h => ?_⟩
  refine wpAny_Call_Name_kw (ld_glob I hg hC ?_ hdb)
  obtain ⟨w, ρ, M, wm, er, p⟩ := rd_exn hC T hf hd h
  have z := p.now wm [] [] .nil fun _ z => nomatch z
  exact PySem.W.callWith_K0 I.kIn T.kC (run_oexP (us := []) T iC tI F hb hr I .nil z.1 z.2)
end
end DL

/-! DL39: fields of an own exception that is held as a value; isinstance of it  -/
namespace DL
open PySem L2 PySem.Spec PyProof.Rows
theorem exo_inst {P : Program} {w : World} {H : Hp} {h : Heap} {a C dx : Addr} {fs : List (Str × V)} (hok : HOk P w H h) (ha : H a = some (exo a C (some dx))) (hd : H dx = some (exd dx fs)) : ∃ ox od, PySem.W.InstAt h a ox C (some od) ∧ ∀ n v, fs.lookup n = some v → ∃ u, PySem.W.lookIn n od = some (some u) ∧ RelV v u := by
  obtain ⟨t1, ho⟩ := exo_at hok ha
  obtain ⟨mA, hns, hr⟩ := exd_at hok hd
  obtain ⟨od, hod, hl⟩ := lookIn_ns hns
  refine ⟨_, od, ⟨ho, rfl, rfl, hod⟩, fun n v l => ?_⟩
  obtain ⟨u, hu, ru⟩ := RelO.some_of (v := v) (o := mA n) (by rw [← l]; exact hr n)
  exact ⟨u, by rw [hl, hu], ru⟩
/-- e.f, e an own exception held as a value -/
def tXfv (K : PySem.W.Frag) (f : Str) (te : TE) : TE := fun σ H Q => te σ H fun x H1 => ∃ (a C dx : Addr) (fs : List (Str × V)) (v : V), x = .ref a ∧ XfC K C ∧ PySem.W.findIn K (.ref C) f = some none ∧ H1 a = some (exo a C (some dx)) ∧ H1 dx = some (exd dx fs) ∧ fs.lookup f = some v ∧ Q v H1
theorem pe_xfv {X : Cx} {e : Expr} {te : TE} {pos : Pos} {n : Str} (he : PE X e te) (hb : attributeBase e n X.env (eval e X.env) = eval e X.env := by rfl) : PE X (.Attribute e n pos) (tXfv X.K n te) := by
  refine ⟨fun pins s σ H Q I h => ?_⟩
  refine attr_of hb (thn (he.run pins s σ H _ I h) fun u s1 hh => ?_)
  obtain ⟨x, H1, I1, rx, a, C, dx, fs, v, ex, T, hno, ea, ed, l, q⟩ := hh
  subst ex
  obtain rfl : u = Value.ref a := rx
  obtain ⟨ox, od, J, hl⟩ := exo_inst I1.hok ea ed
  obtain ⟨u, hu, ru⟩ := hl n v l
  exact HandSPX.exc_get I1.kIn J T.ga T.gg T.exC (PySem.W.findObj_own T.hdC hno rfl hu) (handed_of ru) ⟨v, H1, I1.tok _, ru, q⟩
/-- isinstance(e, c) -/
def rIsX (K : PySem.W.Frag) : List V → Hp → VK → Prop := fun xs H Q => ∃ (a C dx : Addr) (fs : List (Str × V)) (c : V) (cv : Value) (b : Bool), xs = [.ref a, c] ∧ ExcC K C ∧ H a = some (exo a C (some dx)) ∧ H dx = some (exd dx fs) ∧ (∀ u, RelV c u → u = cv) ∧ PySem.W.kitOne K (.ref C) cv = some b ∧ Q (.bl b) H
theorem call_isX {X : Cx} : CallR X (.builtin "isinstance") (rIsX X.K) := by
  intro pins s σ H xs us Q I r h
  obtain ⟨a, D, dx, fs, c, cv, b, rfl, C, ea, ed, hcv, e, q⟩ := h
  cases r with
  | cons rx rr =>
    cases rr with
    | cons rt rr =>
      cases rr
      cases rx
      have ec := hcv _ rt
      subst ec
      obtain ⟨ox, od, J, _⟩ := exo_inst I.hok ea ed
      exact PySem.W.kia_one (PySem.W.kitx_exc (by obtain ⟨cd, hc, _⟩ := PySem.W.any_some C.hd; rw [hc]; rfl) C.hg C.hk C.hs C.ha C.hn C.ht C.hm) I.kIn J e (fun z => nomatch z) fun tk => ⟨.bl b, H, I.kept (t' := tk) fun _ _ z => z, rfl, q⟩
/-! ### by data -/
/-- the fields f of instances of the classes cs -/
structure XFld (K : PySem.W.Frag) (mg : Mg) (cs : List Str) (f : Str) : Prop where
  at_ : ∀ c ∈ cs, ∃ C, mg c = some (.ref C) ∧ XfC K C ∧ PySem.W.findIn K (.ref C) f = some none
theorem XFld.nil {K : PySem.W.Frag} {mg : Mg} {f : Str} : XFld K mg [] f := ⟨fun _ h => nomatch h⟩
theorem XFld.cons {K : PySem.W.Frag} {mg : Mg} {f c : Str} {cs : List Str} {C : Addr} (h1 : mg c = some (.ref C)) (h2 : XfC K C) (h3 : PySem.W.findIn K (.ref C) f = some none) (h : XFld K mg cs f) : XFld K mg (c :: cs) f := ⟨fun d hd => by
  rcases List.mem_cons.mp hd with rfl | hd
  · exact ⟨C, h1, h2, h3⟩
  · exact h.at_ d hd⟩
def xfR (cs : List Str) (f : Str) : R → Mst → Out R := fun r M => match r with
  | .t (.d (.exn c gs)) => if c ∈ cs then (match gs.lookup f with
    | some d => .ok (.t (.d d)) M
    | none => .bad) else .bad
  | _ => .bad
/-- which class is below which -/
structure XIs (K : PySem.W.Frag) (mg : Mg) (tb : List (Str × List (D × Bool))) : Prop where
  at_ : ∀ c l, tb.lookup c = some l → ∃ C, mg c = some (.ref C) ∧ ExcC K C ∧ ∀ d b, (d, b) ∈ l → ∃ cv, (∀ (F : Hp) (v : V) (u : Value), Dp K mg F v d → RelV v u → u = cv) ∧ PySem.W.kitOne K (.ref C) cv = some b
def clsD : D → D → Bool
  | .glo x, .glo y => decide (x = y)
  | .ty x, .ty y => decide (x = y)
  | _, _ => false
def xisR (tb : List (Str × List (D × Bool))) : List R → Mst → Out R := fun rs M => match rs with
  | [.t (.d (.exn c _)), .t (.d d)] => (match tb.lookup c with
    | some l => (match l.find? fun p => clsD p.1 d with
      | some p => .ok (.t (.d (.bl p.2))) M
      | none => .bad)
    | none => .bad)
  | _ => .bad
theorem clsD_eq : ∀ {a b : D}, clsD a b = true → a = b
  | .glo x, .glo y, h => by rw [of_decide_eq_true (show decide (x = y) = true from h)]
  | .ty x, .ty y, h => by rw [of_decide_eq_true (show decide (x = y) = true from h)]
section
variable {X : Cx} {W : WX} {σ : L2.St} {w : Wd} {H : Hp} {M : Mst} {o : Expr} {Fo : Den} {pos : Pos} {f : Str} {cs : List Str} {tb : List (Str × List (D × Bool))}
theorem lookup_dpF {F : Hp} : ∀ {vs : List (Str × V)} {xs : List (Str × D)} {d : D}, DpF X.K X.mg F vs xs → xs.lookup f = some d → ∃ v, vs.lookup f = some v ∧ Dp X.K X.mg F v d := fun h e => DpF.get h e
theorem de_xfv (ok : XFld X.K X.mg cs f) (he : DE X W o Fo) (hb : attributeBase o f X.env (eval o X.env) = eval o X.env := by rfl) : DE X W (.Attribute o f pos) (eSeq1 (xfR cs f) Fo) :=
  (pe_xfv he hb).mono fun σ H Q ⟨w, ρ, M, m, er, p⟩ => by
    refine ⟨w, ρ, M, m, er, p.bindF.imp fun w1 H1 M1 r _ _ z => ?_⟩
    obtain ⟨e1, m1, p1⟩ := z
    intro v fp q hf
    replace p1 := p1 fp hf
    unfold xfR at p1
    split at p1
    · rename_i c gs
      split at p1
      · rename_i hc
        split at p1
        · rename_i d hd
          obtain ⟨g1, g2⟩ := rr_dat q
          obtain ⟨C, hC, T, hno⟩ := ok.at_ c hc
          cases g1 with
          | @exn a C' dx fs _ _ h1 h2 h3 h4 =>
            obtain rfl : C = C' := by rw [hC] at h3; cases h3; rfl
            obtain ⟨v', l, dv⟩ := lookup_dpF h4 hd
            exact ⟨a, C, dx, fs, v', rfl, T, hno, m1.sub _ _ h1, m1.sub _ _ h2, l, (p1.now m1) v' [] (rr_d dv) fun _ z => nomatch z⟩
        · exact p1.elim
      · exact p1.elim
    · exact p1.elim
theorem opL_xis (D : XIs X.K X.mg tb) : OpL X (xisR tb) (rIsX X.K) := by
  intro W σ w H M xs rs fp Q m q p
  unfold xisR at p
  split at p
  · rename_i c gs d
    split at p
    · rename_i l hl
      split at p
      · rename_i pr hp
        obtain ⟨v, v', f, f', rfl, q1, q2, _, _⟩ := q.two
        obtain ⟨g1, _⟩ := rr_dat q1
        obtain ⟨g2, _⟩ := rr_dat q2
        obtain ⟨C, hC, T, hk⟩ := D.at_ c l hl
        have e := clsD_eq (show clsD pr.1 d = true from List.find?_some (p := fun p : DL.D × Bool => clsD p.1 d) hp)
        have hm := List.mem_of_find?_eq_some hp
        obtain ⟨d', b⟩ := pr
        dsimp only at e
        subst e
        obtain ⟨cv, h1, h2⟩ := hk d' b hm
        cases g1 with
        | @exn a C' dx fs _ _ k1 k2 k3 k4 =>
          obtain rfl : C = C' := by rw [hC] at k3; cases k3; rfl
          exact ⟨a, C, dx, fs, v', cv, b, rfl, T, m.sub _ _ k1, m.sub _ _ k2, fun u hu => h1 _ v' u g2 hu, h2, (p.now m).val (C := fun _ => R.t (.d (.exn c gs))) (.bl _)⟩
      · exact p.elim
    · exact p.elim
  · exact p.elim
end
end DL

/-! DL40: own exceptions made by keywords; __init__ of a built-in class -/
namespace DL
open PySem L2 PySem.Spec PyProof.Rows
def kpi (κ : List Nat) : List Nat := 0 :: κ.map (· + 1)
theorem kpi_perm {α : Type} (κ : List Nat) (d x : α) (xs : List α) : permL (kpi κ) d (x :: xs) = x :: κ.map fun i => xs.getD i d := by
  unfold permL kpi
  rw [List.map_cons, List.map_map]
  rfl
theorem dpl_pick {K : PySem.W.Frag} {mg : Mg} {F : Hp} {vs : List V} {ds : List D} (h : DpL K mg F vs ds) : ∀ κ : List Nat, DpL K mg F (κ.map fun i => vs.getD i .non) (κ.map fun i => ds.getD i .non)
  | [] => .nil
  | i :: κ => by
    refine .cons ?_ (dpl_pick h κ)
    cases e : ds[i]? with
    | some x =>
      obtain ⟨v, h1, h2⟩ := DpL.get h e
      show Dp K mg F (vs.getD i .non) (ds.getD i .non)
      rw [List.getD_eq_getElem?_getD, List.getD_eq_getElem?_getD, h1, e]; exact h2
    | none =>
      have e2 : vs[i]? = none := by
        rw [List.getElem?_eq_none_iff] at e ⊢
        rw [h.length]; exact e
      show Dp K mg F (vs.getD i .non) (ds.getD i .non)
      rw [List.getD_eq_getElem?_getD, List.getD_eq_getElem?_getD, e2, e]; exact .non
structure ExcK (P : Program) (w : World) (K : PySem.W.Frag) (mg : Mg) (base : Heap) (c : Str) (k n : Nat) (fs : List D → List (Str × D)) (ks : List Str) (κ : List Nat) : Prop where
  ex : ∃ C fI fd ps newId initId ns fsV, mg c = some (.ref C) ∧ OexG K C newId initId ∧ PySem.W.findIn K (.ref C) "__init__" = some (some (.ref fI)) ∧ PySem.W.typeIn K (.ref fI) = some (.type "function") ∧
    FnOk P w K mg base (L2.CX P w) k fI fd ps (spX K newId initId n ns fsV) ∧ (∀ (s : Shared) (us ws : List Value), us.length + ks.length = (kpi κ).length → ws.length = ks.length → BindsTo s fd ⟨us, ks.zip ws⟩ (ps.zip (permL (kpi κ) .none (us ++ ws)))) ∧ (∀ f ∈ ns, PySem.W.findIn K (.ref C) f = some none) ∧
    (∀ F vs ds, DpL K mg F vs ds → vs.length + 1 = n → DpF K mg F (fsV vs) (fs ds)) ∧ ks.length = κ.length ∧ κ.length + 1 = n
def eExnK (c : Str) (κ : List Nat) (fs : List D → List (Str × D)) (A : DenA) : Den := fun ρ M => (A ρ M).bind fun rs M1 => match datR rs with
  | some ds => if rs.length = κ.length ∧ rs.length ≤ 900 then .ok (.t (.d (.exn c (fs (κ.map fun i => ds.getD i .non))))) M1 else .bad
  | none => .bad
section
variable {X : Cx} {W : WX} {pins : List (Addr × Obj)} {σ : L2.St} {H : Hp} {s : Shared} {C fI : Addr} {k n : Nat} {fd : FuncData} {ps ks : List Str} {κ : List Nat} {sp : Sp} {newId initId : String} {us : List Value} {vs : List V} {Q : VK} {c x : Str} {A : DenA} {kws : List Keyword} {p pos : Pos} {fx : List D → List (Str × D)}
theorem run_oexK (T : OexG X.K C newId initId) (iC : PySem.W.findIn X.K (.ref C) "__init__" = some (some (.ref fI))) (tI : PySem.W.typeIn X.K (.ref fI) = some (.type "function"))
    (F1 : FnOk X.prog X.w X.K X.mg X.base (L2.CX X.prog X.w) k fI fd ps sp) (hb : ∀ (s : Shared) (us ws : List Value), us.length + ks.length = (kpi κ).length → ws.length = ks.length → BindsTo s fd ⟨us, ks.zip ws⟩ (ps.zip (permL (kpi κ) .none (us ++ ws)))) (hk : ks.length = κ.length)
    (hr : Room (k + 1) X.A) (I : Inv X pins σ H s) (r : Vals vs us) (hu : us.length = ks.length)
    (h : ∀ a, H a = none → sp (.ref a :: κ.map fun i => vs.getD i .non) (upd H a (exo a C none)) (fun v H2 => v = .non ∧ Q (.ref a) H2) (fun _ _ _ => False)) :
    wpAny (model X.prog X.w) X.A (call (.ref C) [] (ks.zip us)) (EP X pins σ Q) X.xe s := by
  have r2 : Vals (κ.map fun i => vs.getD i .non) (κ.map fun i => us.getD i .none) := perm_vals r κ
  refine run_oex (ua := κ.map fun i => us.getD i .none) T iC tI F1 (fun s z _ _ => ?_) hr I r2 (by rw [sizeLine_eq]; decide) h
  have b := hb s [z] us (by rw [hk]; show 1 + κ.length = (κ.map (· + 1)).length + 1; rw [List.length_map]; omega) hu
  rw [show [z] ++ us = z :: us from rfl, kpi_perm] at b
  exact b
theorem rd_exnK {ns : List Str} {fsV : List V → List (Str × V)} (hC : X.mg c = some (.ref C)) (T : OexG X.K C newId initId) (hf : ∀ f ∈ ns, PySem.W.findIn X.K (.ref C) f = some none) (hd : ∀ F vs ds, DpL X.K X.mg F vs ds → vs.length + 1 = n → DpF X.K X.mg F (fsV vs) (fx ds)) (hn : κ.length + 1 = n) {Q : VK} (h : rdE X W (eExnK c κ fx A) σ H Q) :
    rdA X W A σ H fun vs H1 => vs.length = κ.length ∧ ∀ a, H1 a = none → spX X.K newId initId n ns fsV (.ref a :: κ.map fun i => vs.getD i .non) (upd H1 a (exo a C none)) (fun v H2 => v = .non ∧ Q (.ref a) H2) (fun _ _ _ => False) := by
  obtain ⟨w, ρ, M, wm, er, p⟩ := h
  refine ⟨w, ρ, M, wm, er, p.bindF.imp fun w1 H1 M1 rs _ _ z => ?_⟩
  obtain ⟨e1, m1, p1⟩ := z
  intro vs fp q hf'
  replace p1 := p1 fp hf'
  split at p1
  · rename_i ds hds
    split at p1
    · rename_i hl
      have hlen := q.length
      refine ⟨by omega, fun a ha => ⟨by rw [List.length_cons, List.length_map]; exact hn, a, C, _, rfl, T, hf, upd_same, fun dx h1 h2 => ⟨rfl, ?_⟩⟩⟩
      obtain ⟨w2, e2, m2, v2⟩ := settleL m1 q
      have hdx : H1 dx = none := by rw [upd_ne h2] at h1; exact h1
      obtain ⟨e3, m3, sF⟩ := ext_add m2 ha hdx (exo a C (some dx)) (exd dx (fsV (κ.map fun i => vs.getD i .non)))
      have hdp := dpl_pick (datR_vr hds v2) κ
      have eu : ∀ o : HO, upd (upd (upd H1 a (exo a C none)) dx o) a (exo a C (some dx)) = upd (upd H1 dx o) a (exo a C (some dx)) := fun o => by
        funext b
        by_cases z : b = a
        · subst z; rw [upd_same, upd_same]
        · rw [upd_ne z, upd_ne z]
          by_cases y : b = dx
          · subst y; rw [upd_same, upd_same]
          · rw [upd_ne y, upd_ne y, upd_ne z]
      rw [eu]
      refine p1 _ _ (e2.trans0 e3) m3 _ [] (rr_d (.exn (C := C) (dx := dx) (fs := fsV (κ.map fun i => vs.getD i .non)) (if_pos rfl) ?_ hC (DpF.mono sF (hd _ _ _ hdp (by rw [List.length_map]; exact hn))))) fun _ z => nomatch z
      show (if dx = a then _ else if dx = dx then _ else _) = _
      rw [if_neg h2, if_pos rfl]
    · exact p1.elim
  · exact p1.elim
theorem de_exnK (D : ExcK X.prog X.w X.K X.mg X.base x k n fx ks κ) (hr : Room (k + 1) X.A) (hg : Gl X x) (hkw : DK X W kws A)
    (hall : (backToKw pos (keywordEach kws X.env)).all (·.1.isSome) = true := by rfl) (hks : (backToKw pos (keywordEach kws X.env)).filterMap (·.1) = ks := by rfl)
    (hdb : (x == ("__debug__" : Str)) = false := by decide) (hpl : ((backTo pos (starEach [] X.env)).any (·.1) || (backToKw pos (keywordEach kws X.env)).any (·.1.isNone)) = false := by rfl) :
    DE X W (.Call (.Name x p) [] kws pos) (eExnK x κ fx A) := by
  obtain ⟨C, fI, fd', ps, newId, initId, ns, fsV, hC, T, iC, tI, F, hb, hf, hd, h1, h2⟩ := D.ex
  refine ⟨fun pins s σ H Q I h => ?_⟩
  refine wpAny_Call_Name_kw (ld_glob I hg hC ?_ hdb)
  refine PySem.W.callWith_KW0 (h₀ := X.base) I.ok.mod.kin T.kC hall (thn (hkw.run pos pins s σ H _ I (rd_exnK hC T hf hd h2 h)) fun ws s2 ⟨zs, H2, I2, rz, hl, q2⟩ => ⟨I2.kIn, ?_⟩) hpl
  rw [hks]
  exact run_oexK T iC tI F hb h1 hr I2 rz (by rw [← rz.length, hl, h1]) q2
end
section
variable {X : Cx} {e : Expr} {es : List Expr} {ta : TA} {B : Str} {p1 p2 pos : Pos} {newId initId T : String}
/-- B.__init__(self, ..), B built in -/
theorem pe_binit {pl : Sem Bool} (hg : Gl X B) (hm : X.mg B = none) (hv : bootBuiltins B = some (.type T)) (ty : typeOf (.type T) = pure (.type "type")) (vV : PySem.W.findCls X.K (.type T) (.type "type") "__init__" = some (.val (.builtin initId))) (hh : PySem.W.handedIn (.builtin initId) = true) (ha : PA X (e :: es) ta)
    (hst : Manifest.isStub T = false) (hn : B ≠ "__name__" := by decide) (hdb : (B == ("__debug__" : Str)) = false := by decide)
    (hc : eval (.Call (.Attribute (.Name B p1) "__init__" p2) (e :: es) [] pos) X.env = (do
      let ov ← eval (.Name B p1) X.env
      standAt p2.atName
      let (f, first) ← holding [ov] (getMethod ov "__init__" pl)
      callWith pos f first (backTo pos (starEach (e :: es) X.env)) (backToKw pos (keywordEach [] X.env))) := by rfl)
    (he : starEach (e :: es) X.env = (false, eval e X.env) :: starEach es X.env := by rfl) (hpl : (backTo pos (starEach es X.env)).any (·.1) = false := by rfl) :
    PE X (.Call (.Attribute (.Name B p1) "__init__" p2) (e :: es) [] pos) (tWi X.K newId initId ta) :=
  ⟨fun pins s σ H Q I h => PySem.W.methodCall_KW (ld_blt I hg hm hv (let ⟨_, fr⟩ := I.fr; PySem.W.method_type fr I.ok.mod.kin ty hst vV hh (run_base ha (I.tok _) h he hpl)) hn hdb) hc⟩
end
end DL

/-! DL41: own exceptions as the generator prints them -/
namespace DL
open PySem L2 PySem.Spec PyProof.Rows
/-- a class that has its __init__ from a built-in one -/
structure WIn (K : PySem.W.Frag) (mg : Mg) (c : Str) (initId : String) : Prop where
  ex : ∃ W mc, mg c = some (.ref W) ∧ ClX.CRead K W mc ∧ PySem.W.findCls K (.ref W) mc "__init__" = some (.val (.builtin initId)) ∧ PySem.W.handedIn (.builtin initId) = true
section
variable {X : Cx} {e : Expr} {es : List Expr} {ta : TA} {c : Str} {p1 p2 pos : Pos} {newId initId : String}
theorem pe_win {pl : Sem Bool} (D : WIn X.K X.mg c initId) (hg : Gl X c) (ha : PA X (e :: es) ta) (hdb : (c == ("__debug__" : Str)) = false := by decide)
    (hc : eval (.Call (.Attribute (.Name c p1) "__init__" p2) (e :: es) [] pos) X.env = (do
      let ov ← eval (.Name c p1) X.env
      standAt p2.atName
      let (f, first) ← holding [ov] (getMethod ov "__init__" pl)
      callWith pos f first (backTo pos (starEach (e :: es) X.env)) (backToKw pos (keywordEach [] X.env))) := by rfl)
    (he : starEach (e :: es) X.env = (false, eval e X.env) :: starEach es X.env := by rfl) (hpl : (backTo pos (starEach es X.env)).any (·.1) = false := by rfl) :
    PE X (.Call (.Attribute (.Name c p1) "__init__" p2) (e :: es) [] pos) (tWi X.K newId initId ta) := by
  obtain ⟨W, mc, hC, r, hv, hh⟩ := D.ex
  exact pe_winit hg hC r hv hh ha hdb hc he hpl
end
/-- IndexError's own __init__ -/
def IxIn (K : PySem.W.Frag) : Prop := PySem.W.findCls K (.type "IndexError") (.type "type") "__init__" = some (.val (.builtin "IndexError.__init__"))
theorem typ_IE : typeOf (.type "IndexError") = pure (.type "type") := by kernel_rfl
section
variable {X : Cx} {e : Expr} {es : List Expr} {ta : TA} {p1 p2 pos : Pos} {newId : String}
theorem pe_ixin {pl : Sem Bool} (vV : IxIn X.K) (hg : Gl X "IndexError") (hm : X.mg "IndexError" = none) (ha : PA X (e :: es) ta)
    (hc : eval (.Call (.Attribute (.Name "IndexError" p1) "__init__" p2) (e :: es) [] pos) X.env = (do
      let ov ← eval (.Name "IndexError" p1) X.env
      standAt p2.atName
      let (f, first) ← holding [ov] (getMethod ov "__init__" pl)
      callWith pos f first (backTo pos (starEach (e :: es) X.env)) (backToKw pos (keywordEach [] X.env))) := by rfl)
    (he : starEach (e :: es) X.env = (false, eval e X.env) :: starEach es X.env := by rfl) (hpl : (backTo pos (starEach es X.env)).any (·.1) = false := by rfl) :
    PE X (.Call (.Attribute (.Name "IndexError" p1) "__init__" p2) (e :: es) [] pos) (tWi X.K newId "IndexError.__init__" ta) :=
  pe_binit (T := "IndexError") hg hm (by decide +kernel) typ_IE vV rfl ha (by decide +kernel) (by decide) (by decide) hc he hpl
end
section
variable {P : Program} {w : World} {K : PySem.W.Frag} {mg : Mg} {base : Heap} {c code f1 f2 : Str} {k : Nat} {C fI W : Addr} {fd : FuncData} {ps ks : List Str} {κ : List Nat} {newId initId : String}
theorem dpf0 {F : Hp} : DpF K mg F [("code", V.str code)] [("code", D.str code)] := .cons (.str _) .nil
theorem dpf1 {F : Hp} {vs : List V} {ds : List D} (h : DpL K mg F vs ds) : DpF K mg F [(f1, vs.getD 0 .non), ("code", V.str code)] [(f1, ds.getD 0 .non), ("code", D.str code)] := by
  have := dpl_pick h [0]
  cases this with
  | cons h1 _ => exact .cons h1 dpf0
theorem dpf2 {F : Hp} {vs : List V} {ds : List D} (h : DpL K mg F vs ds) : DpF K mg F [(f2, vs.getD 1 .non), (f1, vs.getD 0 .non), ("code", V.str code)] [(f2, ds.getD 1 .non), (f1, ds.getD 0 .non), ("code", D.str code)] := by
  have := dpl_pick h [1]
  cases this with
  | cons h1 _ => exact .cons h1 (dpf1 h)
abbrev fx0 (code : Str) : List D → List (Str × D) := fun _ => [("code", .str code)]
abbrev fx1 (f1 code : Str) : List D → List (Str × D) := fun ds => [(f1, ds.getD 0 .non), ("code", .str code)]
abbrev fx2 (f1 f2 code : Str) : List D → List (Str × D) := fun ds => [(f2, ds.getD 1 .non), (f1, ds.getD 0 .non), ("code", .str code)]
abbrev sx0 (K : PySem.W.Frag) (newId initId : String) (code : Str) : Sp := spX K newId initId 1 ["code"] fun _ => [("code", .str code)]
abbrev sx1 (K : PySem.W.Frag) (newId initId : String) (f1 code : Str) : Sp := spX K newId initId 2 ["code", f1] fun ws => [(f1, ws.getD 0 .non), ("code", .str code)]
abbrev sx2 (K : PySem.W.Frag) (newId initId : String) (f1 f2 code : Str) : Sp := spX K newId initId 3 ["code", f1, f2] fun ws => [(f2, ws.getD 1 .non), (f1, ws.getD 0 .non), ("code", .str code)]
theorem mem0 {C : Addr} (h0 : PySem.W.findIn K (.ref C) "code" = some none) : ∀ f ∈ (["code"] : List Str), PySem.W.findIn K (.ref C) f = some none := fun f hf => by
  rcases List.mem_cons.mp hf with rfl | hf
  · exact h0
  · cases hf
theorem mkX0 (hC : mg c = some (.ref C)) (T : OexG K C newId initId) (iC : PySem.W.findIn K (.ref C) "__init__" = some (some (.ref fI))) (tI : PySem.W.isFn K (.ref fI) = true) (G : FnOk P w K mg base (L2.CX P w) k fI fd ps (sx0 K newId initId code)) (hb : Binds K fd ps [])
    (h0 : PySem.W.findIn K (.ref C) "code" = some none) : ExcD P w K mg base c k 1 (fx0 code) :=
  ⟨⟨C, fI, fd, ps, newId, initId, _, _, hC, T, iC, beq_iff_eq.mp tI, G, hb, mem0 h0, fun _ _ _ _ _ => dpf0⟩⟩
theorem mem1 {C : Addr} (h0 : PySem.W.findIn K (.ref C) "code" = some none) (h1 : PySem.W.findIn K (.ref C) f1 = some none) : ∀ f ∈ (["code", f1] : List Str), PySem.W.findIn K (.ref C) f = some none := fun f hf => by
  rcases List.mem_cons.mp hf with rfl | hf
  · exact h0
  · rcases List.mem_cons.mp hf with rfl | hf
    · exact h1
    · cases hf
theorem mem2 {C : Addr} (h0 : PySem.W.findIn K (.ref C) "code" = some none) (h1 : PySem.W.findIn K (.ref C) f1 = some none) (h2 : PySem.W.findIn K (.ref C) f2 = some none) : ∀ f ∈ (["code", f1, f2] : List Str), PySem.W.findIn K (.ref C) f = some none := fun f hf => by
  rcases List.mem_cons.mp hf with rfl | hf
  · exact h0
  · rcases List.mem_cons.mp hf with rfl | hf
    · exact h1
    · rcases List.mem_cons.mp hf with rfl | hf
      · exact h2
      · cases hf
theorem mkX1 (hC : mg c = some (.ref C)) (T : OexG K C newId initId) (iC : PySem.W.findIn K (.ref C) "__init__" = some (some (.ref fI))) (tI : PySem.W.isFn K (.ref fI) = true) (G : FnOk P w K mg base (L2.CX P w) k fI fd ps (sx1 K newId initId f1 code)) (hb : Binds K fd ps [])
    (h0 : PySem.W.findIn K (.ref C) "code" = some none) (h1 : PySem.W.findIn K (.ref C) f1 = some none) : ExcD P w K mg base c k 2 (fx1 f1 code) :=
  ⟨⟨C, fI, fd, ps, newId, initId, _, _, hC, T, iC, beq_iff_eq.mp tI, G, hb, mem1 h0 h1, fun _ _ _ h _ => dpf1 h⟩⟩
theorem mkX2 (hC : mg c = some (.ref C)) (T : OexG K C newId initId) (iC : PySem.W.findIn K (.ref C) "__init__" = some (some (.ref fI))) (tI : PySem.W.isFn K (.ref fI) = true) (G : FnOk P w K mg base (L2.CX P w) k fI fd ps (sx2 K newId initId f1 f2 code)) (hb : Binds K fd ps [])
    (h0 : PySem.W.findIn K (.ref C) "code" = some none) (h1 : PySem.W.findIn K (.ref C) f1 = some none) (h2 : PySem.W.findIn K (.ref C) f2 = some none) : ExcD P w K mg base c k 3 (fx2 f1 f2 code) :=
  ⟨⟨C, fI, fd, ps, newId, initId, _, _, hC, T, iC, beq_iff_eq.mp tI, G, hb, mem2 h0 h1 h2, fun _ _ _ h _ => dpf2 h⟩⟩
theorem mkK1 (hC : mg c = some (.ref C)) (T : OexG K C newId initId) (iC : PySem.W.findIn K (.ref C) "__init__" = some (some (.ref fI))) (tI : PySem.W.isFn K (.ref fI) = true) (G : FnOk P w K mg base (L2.CX P w) k fI fd ps (sx1 K newId initId f1 code))
    (h0 : PySem.W.findIn K (.ref C) "code" = some none) (h1 : PySem.W.findIn K (.ref C) f1 = some none) (hb : ∀ (s : Shared) (us ws : List Value), us.length + ks.length = (kpi [0]).length → ws.length = ks.length → BindsTo s fd ⟨us, ks.zip ws⟩ (ps.zip (permL (kpi [0]) .none (us ++ ws)))) (hk : ks.length = 1) : ExcK P w K mg base c k 2 (fx1 f1 code) ks [0] :=
  ⟨⟨C, fI, fd, ps, newId, initId, _, _, hC, T, iC, beq_iff_eq.mp tI, G, hb, mem1 h0 h1, fun _ _ _ h _ => dpf1 h, hk, rfl⟩⟩
theorem mkK2 (hC : mg c = some (.ref C)) (T : OexG K C newId initId) (iC : PySem.W.findIn K (.ref C) "__init__" = some (some (.ref fI))) (tI : PySem.W.isFn K (.ref fI) = true) (G : FnOk P w K mg base (L2.CX P w) k fI fd ps (sx2 K newId initId f1 f2 code))
    (h0 : PySem.W.findIn K (.ref C) "code" = some none) (h1 : PySem.W.findIn K (.ref C) f1 = some none) (h2 : PySem.W.findIn K (.ref C) f2 = some none) (hb : ∀ (s : Shared) (us ws : List Value), us.length + ks.length = (kpi κ).length → ws.length = ks.length → BindsTo s fd ⟨us, ks.zip ws⟩ (ps.zip (permL (kpi κ) .none (us ++ ws)))) (hk : ks.length = κ.length) (h3 : κ.length + 1 = 3) : ExcK P w K mg base c k 3 (fx2 f1 f2 code) ks κ :=
  ⟨⟨C, fI, fd, ps, newId, initId, _, _, hC, T, iC, beq_iff_eq.mp tI, G, hb, mem2 h0 h1 h2, fun _ _ _ h _ => dpf2 h, hk, h3⟩⟩
/-! ### the table of classes -/
inductive NmL (mg : Mg) : List Str → List Addr → Prop
  | nil : NmL mg [] []
  | cons {x : Str} {a : Addr} {xs : List Str} {as : List Addr} : mg x = some (.ref a) → NmL mg xs as → NmL mg (x :: xs) (a :: as)
def XRow (K : PySem.W.Frag) (mg : Mg) (C : Addr) (l : List (D × Bool)) : Prop := ∀ d b, (d, b) ∈ l → ∃ cv, (∀ (F : Hp) (v : V) (u : Value), Dp K mg F v d → RelV v u → u = cv) ∧ PySem.W.kitOne K (.ref C) cv = some b
theorem xrow_ty : ∀ (ts : List String) (bs : List Bool), ts.map (fun t => PySem.W.kitOne K (.ref C) (.type t)) = bs.map some → XRow K mg C ((ts.map D.ty).zip bs)
  | [], bs, _ => fun _ _ h => by cases bs <;> cases h
  | t :: ts, [], h => by cases h
  | t :: ts, b :: bs, h => by
    obtain ⟨h1, h2⟩ := List.cons.inj h
    intro d b' hm
    rcases List.mem_cons.mp hm with e | hm
    · cases e
      exact ⟨.type t, fun F v u hv hu => by cases hv; exact hu, h1⟩
    · exact xrow_ty ts bs h2 d b' hm
theorem xrow_of : ∀ {ns : List Str} {as : List Addr}, NmL mg ns as → ∀ (bs : List Bool) {l : List (D × Bool)}, as.map (fun a => PySem.W.kitOne K (.ref C) (.ref a)) = bs.map some → XRow K mg C l → XRow K mg C ((ns.map D.glo).zip bs ++ l)
  | _, _, .nil, bs, l, _, hl => by cases bs <;> exact hl
  | _, _, .cons h r, [], l, e, hl => by cases e
  | _, _, .cons (x := x) (a := a) h r, b :: bs, l, e, hl => by
    obtain ⟨h1, h2⟩ := List.cons.inj e
    intro d b' hm
    rcases List.mem_cons.mp hm with e | hm
    · cases e
      exact ⟨.ref a, fun F v u hv hu => by
        cases hv with
        | glo hx => rw [h] at hx; cases hx; exact hu, h1⟩
    · exact xrow_of r bs h2 hl d b' hm
theorem XIs.nil : XIs K mg [] := ⟨fun _ _ h => by simp at h⟩
theorem XIs.cons {l : List (D × Bool)} {tb : List (Str × List (D × Bool))} (hC : mg c = some (.ref C)) (T : ExcC K C) (h : XRow K mg C l) (r : XIs K mg tb) : XIs K mg ((c, l) :: tb) := ⟨fun c' l' e => by
  rw [List.lookup_cons] at e
  split at e
  · rename_i hc
    obtain rfl : c' = c := beq_iff_eq.mp hc
    cases e
    exact ⟨C, hC, T, h⟩
  · exact r.at_ c' l' e⟩
theorem mkOex {nm q : Str} {N : Addr} {bs bm : List Value} {sn : List Str} {sub : List Value} {ab : Bool} {col : Option Bool} {dd : Option Addr} {k0 k1 k2 k3 k5 : Option Value} {B : String} {bmB : List Value} (h : K.lookup C = some (excClassObj nm q C N bs bm true sn sub ab col dd k0 k1 k2 k3 k5 newId)) (F : ExcBaseFacts B newId initId bmB) (S : StoreFacts B bmB "object.__setattr__" "object") (ht : PySem.W.excTail bmB bm = true)
    (sa : PySem.W.findIn K (.ref C) "__setattr__" = some (some (.builtin "object.__setattr__"))) (exC : PySem.W.subIn K (.ref C) (.type "BaseException") = some true) (tyC : PySem.W.typeIn K (.ref C) = some (.type "type")) (kC : PySem.W.keepIn K (.ref C) = true) : OexG K C newId initId :=
  ⟨⟨nm, q, N, bs, bm, sn, sub, ab, col, dd, k0, k1, k2, k3, k5, B, bmB, h, F, S, ht⟩, sa, exC, tyC, kC⟩
end
end DL

/-! DL42: raise C(..), C an own exception class -/
namespace DL
open PySem L2 PySem.Spec PyProof.Rows
def sRaise (c : Str) (n : Nat) (fs : List D → List (Str × D)) (A : DenA) : DenS := fun ρ M => bindS (A ρ M) ρ fun rs M1 => match datR rs with
  | some ds => if rs.length + 1 = n ∧ n ≤ 900 then some (.xc ⟨c, fs ds⟩ ρ, M1) else none
  | none => none
section
variable {X : Cx} {W : WX} {σ : L2.St} {fs gs : List Addr} {w w2 : Wd} {H H2 : Hp} {M M2 : Mst}
theorem ext_one (m : MR X.K X.mg w H M) {b : Addr} (hb : H b = none) (v : HO) : Ext [] w H M w (upd H b v) M ∧ MR X.K X.mg w (upd H b v) M := by
  have hs : Same H (upd H b v) := fun c o h => by
    have ne : c ≠ b := fun z => by rw [z, hb] at h; cases h
    rw [upd_ne ne]; exact h
  refine ⟨⟨Same.refl _, Nat.le_refl _, fun _ _ => rfl, fun c o h _ => hs c o h, fun k hk c hc => .inr (.inl ⟨k, hk, hc⟩), fun c z => .inl z, fun c z => ?_⟩, ⟨fun c o h => hs c o (m.sub c o h), fun k t ht => ?_, m.dis⟩⟩
  · cases h : H c with
    | none => rfl
    | some o => rw [hs c o h] at z; cases z
  · obtain ⟨g1, g2⟩ := m.obj k t ht
    exact ⟨g1.stay (Same.refl _) fun c hc => ⟨(g1.fp c hc).1, fun o h => hs c o h⟩, g2⟩
variable {e : Expr} {es : List Expr} {A : DenA} {pos p p2 apos : Pos} {x m f c : Str} {k n : Nat} {fd : List D → List (Str × D)}
/-- what a raised C(..) leaves: its dict, in flight -/
def tRaise (C : Addr) (n : Nat) (fsV : List V → List (Str × V)) (ta : TA) : L2.St → Hp → XK → Prop := fun σ H Q => ta σ H fun vs H1 => vs.length ≤ 1000 ∧ vs.length + 1 = n ∧ ∀ dx, H1 dx = none → Q (.ref C) (some dx) (upd H1 dx (.xd (fsV vs)))
/-- the exception made by C(us), to be raised -/
theorem run_raise {pins : List (Addr × Obj)} {s : Shared} {C fI : Addr} {fd' : FuncData} {ps ns : List Str} {newId initId : String} {us : List Value} {vs : List V} {fsV : List V → List (Str × V)} {Q : XK} (T : OexG X.K C newId initId) (iC : PySem.W.findIn X.K (.ref C) "__init__" = some (some (.ref fI))) (tI : PySem.W.typeIn X.K (.ref fI) = some (.type "function"))
    (F1 : FnOk X.prog X.w X.K X.mg X.base (L2.CX X.prog X.w) k fI fd' ps (spX X.K newId initId n ns fsV)) (hb : Binds X.K fd' ps []) (hf : ∀ f ∈ ns, PySem.W.findIn X.K (.ref C) f = some none) (hr : Room (k + 1) X.A) (I : Inv X pins σ H s) (r : Vals vs us) (h1 : vs.length ≤ 1000) (h2 : vs.length + 1 = n)
    (h : ∀ dx, H dx = none → Q (.ref C) (some dx) (upd H dx (.xd (fsV vs)))) : wpAny (model X.prog X.w) X.A (call (.ref C) us) (MkP X pins σ Q) X.xe s := by
  have Y := T.lies I.kIn
  have few : us.length ≤ sizeLine := by rw [← Paired.length r, sizeLine_eq]; omega
  have nw : H (s.heap.objs.size + 1) = none := I.hok.fresh (Nat.le_succ _)
  obtain ⟨hp, g, dr, tk, os⟩ := s
  have kk : ∀ b o, hp.get? b = some o → (PySem.XMake.laid hp C us).get? b = some o := fun b o z => Heap.get?_push_of_some _ (Heap.get?_push_of_some _ z)
  have J : Inv X pins σ (upd H (hp.objs.size + 1) (exo (hp.objs.size + 1) C none)) ⟨PySem.XMake.laid hp C us, g, dr, tk, os⟩ :=
    I.laid (t' := tk) kk (Nat.le_succ _) (exo_ok (by heap_get))
  have q : spX X.K newId initId n ns fsV (.ref (hp.objs.size + 1) :: vs) (upd H (hp.objs.size + 1) (exo (hp.objs.size + 1) C none)) (fun v H2 => v = .non ∧ ∃ dx, H dx = none ∧ H2 (hp.objs.size + 1) = some (exo (hp.objs.size + 1) C (some dx)) ∧ H2 dx = some (exd dx (fsV vs)) ∧ Q (.ref C) (some dx) (upd (del H2 (hp.objs.size + 1)) dx (.xd (fsV vs)))) (fun _ _ _ => False) := by
    refine ⟨by rw [List.length_cons]; exact h2, _, C, vs, rfl, T, hf, upd_same, fun dx n1 ne => ⟨rfl, dx, ?_, upd_same, by rw [upd_ne ne, upd_same], ?_⟩⟩
    · rw [upd_ne ne] at n1; exact n1
    · rw [upd_ne ne] at n1
      have e : upd (del (upd (upd (upd H (hp.objs.size + 1) (exo (hp.objs.size + 1) C none)) dx (exd dx (fsV vs))) (hp.objs.size + 1) (exo (hp.objs.size + 1) C (some dx))) (hp.objs.size + 1)) dx (.xd (fsV vs)) = upd H dx (.xd (fsV vs)) := by
        funext b
        by_cases y : b = dx
        · subst y; rw [upd_same, upd_same]
        · rw [upd_ne y, upd_ne y]
          by_cases z : b = hp.objs.size + 1
          · subst z; rw [del_same]; exact nw.symm
          · rw [del_ne z, upd_ne z, upd_ne y, upd_ne z]
      rw [e]
      exact h dx n1
  have r2 : Vals (V.ref (hp.objs.size + 1) :: vs) (Value.ref (hp.objs.size + 1) :: us) := .cons rfl r
  have len : (Value.ref (hp.objs.size + 1) :: us ++ []).length = ps.length := by rw [List.append_nil]; exact r2.length.symm.trans (F1.len _ _ _ _ q)
  have b := hb _ (Value.ref (hp.objs.size + 1) :: us) J.kIn len
  rw [List.append_nil] at b
  refine wpAny_call (PySem.XMake.make Y (PySem.W.looks_findIn I.kIn iC) (fun z => PySem.W.bind_fn I.kIn z tI) few
    (codeAny_mono (F1.run _ X.stack _ _ _ _ _ _ (fun _ _ _ => False) (hr.make C us []) (J.env0.make C us []) b r2 q) fun r s' q' => ?_))
  cases r with
  | error er =>
    obtain ⟨_, _, _, _, _, _, _, _, _, _, _, _, z⟩ := q'
    exact z.elim
  | ok fl =>
    cases fl with
    | ret u =>
      obtain ⟨v, H2, os2, bare2, un2, hok2, rv, ev, dx, n1, ea, ed, q2⟩ := q'
      cases ev
      obtain ⟨h2, g2, d2, t2, os'⟩ := s'
      exact ⟨rv, mk_end (raises_own T.exC T.tyC) I (Nat.le_succ _) kk un2 hok2 os2 bare2 ea ed n1 q2⟩
    | next => exact False.elim q'
    | brk => exact False.elim q'
    | cont => exact False.elim q'
theorem rd_raise {C : Addr} {fsV : List V → List (Str × V)} (hC : X.mg c = some (.ref C)) (hd : ∀ F vs ds, DpL X.K X.mg F vs ds → vs.length + 1 = n → DpF X.K X.mg F (fsV vs) (fd ds)) {Dn : Ends} (h : rdS X W (sRaise c n fd A) Dn σ H) :
    tRaise C n fsV (rdA X W A) σ H fun cls d H' => W cls d σ H' := by
  obtain ⟨w, ρ, M, m, er, p⟩ := h
  refine ⟨w, ρ, M, m, er, (p.bindF er).imp fun w1 H1 M1 rs _ _ z => ?_⟩
  obtain ⟨e1, m1, p1⟩ := z
  intro vs fp q hf
  replace p1 := p1 fp hf
  split at p1
  · rename_i ds hds
    split at p1
    · rename_i hl
      have hlen := q.length
      refine ⟨by omega, by rw [hlen]; exact hl.1, fun dx hdx => ?_⟩
      obtain ⟨w2, e2, m2, v2⟩ := settleL m1 q
      obtain ⟨e3, m3⟩ := ext_one m2 hdx (.xd (fsV vs))
      have hdp := datR_vr hds v2
      exact p1 w2 _ σ (.ref C) (some dx) (e2.trans0 e3) m3 ((er.stay e1).stay (e2.trans0 e3)) ⟨C, dx, fsV vs, rfl, hC, rfl, upd_same, hd _ _ _ hdp (by rw [hlen]; exact hl.1)⟩
    · exact p1.elim
  · exact p1.elim
theorem pmk_raise {C fI : Addr} {fd' : FuncData} {ps ns : List Str} {newId initId : String} {fsV : List V → List (Str × V)} {ta : TA} (hC : X.mg x = some (.ref C)) (T : OexG X.K C newId initId) (iC : PySem.W.findIn X.K (.ref C) "__init__" = some (some (.ref fI))) (tI : PySem.W.typeIn X.K (.ref fI) = some (.type "function"))
    (F1 : FnOk X.prog X.w X.K X.mg X.base (L2.CX X.prog X.w) k fI fd' ps (spX X.K newId initId n ns fsV)) (hb : Binds X.K fd' ps []) (hf : ∀ f ∈ ns, PySem.W.findIn X.K (.ref C) f = some none) (hr : Room (k + 1) X.A) (hg : Gl X x) (ha : PA X (e :: es) ta)
    (hdb : (x == ("__debug__" : Str)) = false := by decide) (he : starEach (e :: es) X.env = (false, eval e X.env) :: starEach es X.env := by rfl) (hpl : (backTo pos (starEach es X.env)).any (·.1) = false := by rfl) : PMk X (.Call (.Name x p) (e :: es) [] pos) (tRaise C n fsV ta) := fun pins s σ H Q I h =>
  wpAny_Call_Name_kw (ld_glob I hg hC (PySem.W.callWith_K (h₀ := X.base) I.ok.mod.kin T.kC (thn (ha.run pos pins s σ H _ I h) fun us s1 ⟨vs, H1, I1, r, l1, l2, q⟩ => ⟨I1.kIn, run_raise T iC tI F1 hb hf hr I1 r l1 l2 q⟩) he hpl) hdb)
theorem pmk_raise0 {C fI : Addr} {fd' : FuncData} {ps ns : List Str} {newId initId : String} {fsV : List V → List (Str × V)} (hC : X.mg x = some (.ref C)) (T : OexG X.K C newId initId) (iC : PySem.W.findIn X.K (.ref C) "__init__" = some (some (.ref fI))) (tI : PySem.W.typeIn X.K (.ref fI) = some (.type "function"))
    (F1 : FnOk X.prog X.w X.K X.mg X.base (L2.CX X.prog X.w) k fI fd' ps (spX X.K newId initId n ns fsV)) (hb : Binds X.K fd' ps []) (hf : ∀ f ∈ ns, PySem.W.findIn X.K (.ref C) f = some none) (hr : Room (k + 1) X.A) (hg : Gl X x) (hdb : (x == ("__debug__" : Str)) = false := by decide) : PMk X (.Call (.Name x p) [] [] pos) (tRaise C n fsV tNil) := fun pins s σ H Q I h =>
  wpAny_Call_Name_kw (ld_glob I hg hC (PySem.W.callWith_K0 I.kIn T.kC (run_raise (us := []) (vs := []) T iC tI F1 hb hf hr I .nil h.1 h.2.1 h.2.2)) hdb)
theorem ds_raise (D : ExcD X.prog X.w X.K X.mg X.base x k n fd) (hr : Room (k + 1) X.A) (hc : X.calm = true) (tk : Takes X W) (hg : Gl X x) (ha : DA X W (e :: es) A)
    (hdb : (x == ("__debug__" : Str)) = false := by decide) (he : starEach (e :: es) X.env = (false, eval e X.env) :: starEach es X.env := by rfl) (hpl : (backTo pos (starEach es X.env)).any (·.1) = false := by rfl) : DS X W (.Raise (some (.Call (.Name x p) (e :: es) [] pos)) none p2) (sRaise x n fd A) := by
  obtain ⟨C, fI, fd', ps, newId, initId, ns, fsV, hC, T, iC, tI, F, hb, hf, hd⟩ := D.ex
  exact (ps_raise hc tk (pmk_raise hC T iC tI F hb hf hr hg ha hdb he hpl)).mono fun Dn σ H h => rd_raise hC hd h
theorem ds_raise0 (D : ExcD X.prog X.w X.K X.mg X.base x k n fd) (hr : Room (k + 1) X.A) (hc : X.calm = true) (tk : Takes X W) (hg : Gl X x) (hdb : (x == ("__debug__" : Str)) = false := by decide) : DS X W (.Raise (some (.Call (.Name x p) [] [] pos)) none p2) (sRaise x n fd eNil) := by
  obtain ⟨C, fI, fd', ps, newId, initId, ns, fsV, hC, T, iC, tI, F, hb, hf, hd⟩ := D.ex
  refine (ps_raise hc tk (pmk_raise0 hC T iC tI F hb hf hr hg hdb)).mono fun Dn σ H h => ?_
  obtain ⟨w, ρ, M, m, er, p⟩ := rd_raise (fsV := fsV) (c := x) (C := C) hC hd h
  exact p.now m [] [] .nil fun _ z => nomatch z
end
end DL

/-! DL43: xs.insert(i, y) of a held list -/
namespace DL
open PySem L2 PySem.Spec PyProof.Rows
def eInsV (i : Nat) (Fi : Den) (Fv : DenV) : Den := fun ρ M => match ρ[i]? with
  | some (some (.h k)) => (match M[k]? with
    | some (.lst _) => (Fi ρ M).bind fun r M1 => (match r, Fv ρ M1, M1[k]? with
      | .t (.d (.int n)), some d, some (.lst ts) => if 0 ≤ n ∧ n < 1000000 ∧ ts.length + 1 ≤ 1000000 then .ok (.t (.d .non)) (M1.set k (.lst (ts.take n.toNat ++ .d d :: ts.drop n.toNat))) else .bad
      | _, _, _ => .bad)
    | _ => .bad)
  | _ => .bad
section
variable {X : Cx} {W : WX} {σ : L2.St} {fs gs : List Addr} {w w2 : Wd} {H H2 : Hp} {M M2 : Mst}
variable {e e2 o : Expr} {Fe Fi : Den} {Fv : DenV} {pos p apos cpos : Pos}
theorem trl_split : ∀ {vs : List V} {ts : List T} {f : List Addr} (n : Nat), TRL X.K X.mg w.F H vs ts f → ∃ f1 f2, f = f1 ++ f2 ∧ TRL X.K X.mg w.F H (vs.take n) (ts.take n) f1 ∧ TRL X.K X.mg w.F H (vs.drop n) (ts.drop n) f2
  | _, _, _, 0, h => ⟨[], _, rfl, .nil, h⟩
  | _, _, _, n + 1, .nil => ⟨[], [], rfl, .nil, .nil⟩
  | _, _, _, n + 1, .cons (f1 := g) h r => by
    obtain ⟨f1, f2, rfl, h1, h2⟩ := trl_split n r
    exact ⟨g ++ f1, f2, by rw [List.append_assoc], .cons h h1, h2⟩
theorem de_insV (i : Nat) (ho : PE X o (tVar i)) (hi : DE X W e Fi) (hv : DV X e2 Fv) (hbase : attributeBase o "insert" X.env (eval o X.env) = eval o X.env := by rfl)
    (hfew : ((backTo cpos (starEach [e, e2] X.env)).all (fun x => !x.1) && (backToKw cpos (keywordEach [] X.env)).all (fun x => x.1.isSome)
      && decide ([e, e2].length + ([] : List Keyword).length + (if ([] : List Keyword).isEmpty then 0 else 1) < 30)) = true := by rfl)
    (hline : (apos.endLine == cpos.line) = true := by rfl) (hs : starEach [e, e2] X.env = (false, eval e X.env) :: starEach [e2] X.env := by rfl) (hs2 : starEach [e2] X.env = (false, eval e2 X.env) :: starEach [] X.env := by rfl) (hplain : (backTo cpos (starEach [e2] X.env)).any (·.1) = false := by rfl) :
    DE X W (.Call (.Attribute o "insert" apos) [e, e2] [] cpos) (eInsV i Fi Fv) :=
  (pe_bm PySem.F.plainAttrs_list PySem.F.slot_list_insert PySem.F.type_list_insert mt_insert ho (pa_cons hi (pa_cons hv pa_nil hs2) hs) hbase hfew hline hs hplain).mono fun σ H Q ⟨w, ρ, M, m, er, p⟩ => by
    unfold eInsV at p
    split at p
    · rename_i k hk
      obtain ⟨v, hv1, hv2, hv3⟩ := er.at_ i _ hk
      split at p
      · rename_i ts0 hts0
        obtain ⟨vs0, fk0, b1, _⟩ := open_lst m hts0
        refine ⟨v, hv1, by rw [hv3]; exact lst_ty b1, ?_⟩
        refine ⟨w, ρ, M, m, er, p.bindF.imp fun w1 H1 M1 r _ _ z => ?_⟩
        obtain ⟨e1, m1, p1⟩ := z
        intro u fp q hf
        replace p1 := p1 fp hf
        split at p1
        · rename_i n d ts hd hts
          split at p1
          · rename_i hn
            obtain ⟨q0, q0f⟩ := rr_dat q
            cases q0
            subst q0f
            refine ⟨w1, ρ, M1, m1, er.stay e1, d, hd, fun y hy => ?_⟩
            have hk3 : k < M1.length := (List.getElem?_eq_some_iff.mp hts).1
            obtain ⟨vs, fk, g1, g2, g3, g4, g5, g6⟩ := open_lst m1 hts
            have hal : w1.α k = w.α k := e1.al k hv2
            obtain ⟨f1, f2, hf12, k1, k2⟩ := trl_split n.toNat g4
            have t4 : TRL X.K X.mg w1.F H1 (vs.take n.toNat ++ y :: vs.drop n.toNat) (ts.take n.toNat ++ .d d :: ts.drop n.toNat) (f1 ++ ([] ++ f2)) := trl_app k1 (.cons (.d hy) k2)
            have hfe : f1 ++ ([] ++ f2) = fk := by rw [List.nil_append, hf12]
            rw [hfe] at t4
            obtain ⟨w4, e4, m4, _, _⟩ := put_lst (fs := []) (ts' := ts.take n.toNat ++ .d d :: ts.drop n.toNat) (vs' := vs.take n.toNat ++ y :: vs.drop n.toNat) m1 hts t4 g5
              (fun a ha j hj hjk => g6 a (List.mem_cons_of_mem _ ha) j hj hjk) fun a ha => .inr (.inl ⟨k, hk3, by rw [g3]; exact List.mem_cons_of_mem _ ha⟩)
            refine ⟨w1.α k, vs, n, y, by rw [hv3, hal], rfl, g1, by have := big_le hn.2.2; rw [g4.length]; omega, hn.1, Int.lt_trans hn.2.1 (by decide +kernel), ?_⟩
            have e : vs.take n.toNat ++ [y] ++ vs.drop n.toNat = vs.take n.toNat ++ y :: vs.drop n.toNat := by rw [List.append_assoc]; rfl
            rw [e]
            exact p1 w4 _ e4 m4 .non [] (rr_d .non) fun _ z => nomatch z
          · exact p1.elim
        · exact p1.elim
      · exact p.elim
    · exact p.elim
end
end DL

/-! DL44: o.f, f a constant of o's class -/
namespace DL
open PySem L2 PySem.Spec PyProof.Rows
/-- the constants f of instances: tb says which by the class's name -/
structure ConI (K : PySem.W.Frag) (mg : Mg) (tb : List (Str × D)) (f : Str) : Prop where
  at_ : ∀ c d, tb.lookup c = some d → ∃ C v u, mg c = some (.ref C) ∧ Cls K C ∧ Con K C f v u ∧ ∀ F, Dp K mg F v d
theorem ConI.nil {K : PySem.W.Frag} {mg : Mg} {f : Str} : ConI K mg [] f := ⟨fun _ _ h => by simp at h⟩
theorem ConI.cons {K : PySem.W.Frag} {mg : Mg} {f c : Str} {d : D} {tb : List (Str × D)} {C : Addr} {v : V} {u : Value} (h1 : mg c = some (.ref C)) (h2 : Cls K C) (h3 : Con K C f v u) (h4 : ∀ F, Dp K mg F v d) (r : ConI K mg tb f) : ConI K mg ((c, d) :: tb) f := ⟨fun c' d' e => by
  rw [List.lookup_cons] at e
  split at e
  · rename_i hc
    obtain rfl : c' = c := beq_iff_eq.mp hc
    cases e
    exact ⟨C, v, u, h1, h2, h3, h4⟩
  · exact r.at_ c' d' e⟩
def conR (tb : List (Str × D)) (f : Str) : R → Mst → Out R := fun r M => match insOf M r with
  | some (c, ns) => if f ∈ ns then .bad else (match tb.lookup c with
    | some d => .ok (.t (.d d)) M
    | none => .bad)
  | none => .bad
section
variable {X : Cx} {W : WX} {o : Expr} {Fo : Den} {pos : Pos} {f : Str} {tb : List (Str × D)}
theorem de_con (ok : ConI X.K X.mg tb f) (he : DE X W o Fo) (hb : attributeBase o f X.env (eval o X.env) = eval o X.env := by rfl) : DE X W (.Attribute o f pos) (eSeq1 (conR tb f) Fo) :=
  (pe_con he hb).mono fun σ H Q ⟨w, ρ, M, m, er, p⟩ => by
    refine ⟨w, ρ, M, m, er, p.bindF.imp fun w1 H1 M1 r _ _ z => ?_⟩
    obtain ⟨e1, m1, p1⟩ := z
    intro v fp q hf
    replace p1 := p1 fp hf
    unfold conR at p1
    split at p1
    · rename_i c ns hi
      split at p1
      · exact p1.elim
      · rename_i hn
        split at p1
        · rename_i d hd
          obtain ⟨a, C', dx, fs, rfl, ha, hC', hk⟩ := ins_at m1 q hi
          obtain ⟨C, v, u, hC, cl, k, hv⟩ := ok.at_ c d hd
          obtain rfl : C = C' := by rw [hC] at hC'; cases hC'; rfl
          exact ⟨a, C, dx, fs, v, u, rfl, ha, cl, k, no_key (hk ▸ hn), (p1.now m1) v [] (rr_d (hv _)) fun _ z => nomatch z⟩
        · exact p1.elim
    · exact p1.elim
end
end DL

/-! DL45: list(range(n)) -/
namespace DL
open PySem L2 PySem.Spec PyProof.Rows
def eListRg (F : Den) : Den := fun ρ M => (F ρ M).bind fun r M1 => match r with
  | .t (.d (.int n)) => if 0 ≤ n ∧ n ≤ 1000000 then .ok (.t (.lst ((rangeD 0 n.toNat).map T.d))) M1 else .bad
  | _ => .bad
section
variable {X : Cx} {W : WX} {e : Expr} {F : Den} {p p2 pos pos2 : Pos}
theorem dpl_ints {H : Hp} : ∀ l : List Nat, DpL X.K X.mg H (l.map fun i => V.int (0 + (i : Nat))) (l.map fun i => D.int (0 + (i : Nat)))
  | [] => .nil
  | i :: l => .cons (.int _) (dpl_ints l)
theorem de_listRg (hc : X.calm = true) (hg : Gl X "list") (hm : X.mg "list" = none) (hg2 : Gl X "range") (hm2 : X.mg "range" = none) (he : DE X W e F)
    (h1 : starEach [e] X.env = (false, eval e X.env) :: starEach [] X.env := by rfl) (h2 : starEach [.Call (.Name "range" p2) [e] [] pos2] X.env = (false, eval (.Call (.Name "range" p2) [e] [] pos2) X.env) :: starEach [] X.env := by rfl) :
    DE X W (.Call (.Name "list" p) [.Call (.Name "range" p2) [e] [] pos2] [] pos) (eListRg F) :=
  (pe_listRg hc hg hm (prg_1 hg2 hm2 he h1) h2).mono fun σ H Q ⟨w, ρ, M, m, er, p⟩ => by
    refine ⟨w, ρ, M, m, er, p.bindF.imp fun w1 H1 M1 r _ _ z => ?_⟩
    obtain ⟨e1, m1, p1⟩ := z
    intro v fp q hf
    replace p1 := p1 fp hf
    split at p1
    · rename_i n
      split at p1
      · rename_i hn
        obtain ⟨g1, _⟩ := rr_dat q
        cases g1
        refine ⟨n, rfl, RgOk.of_le (Int.le_refl _) (by omega) (by omega) hn.1, fun q hq => ?_⟩
        have dp : DpL X.K X.mg w1.F (rgV 0 n) (rangeD 0 n.toNat) := by
          unfold rgV rangeD
          rw [Int.sub_zero]
          exact dpl_ints _
        obtain ⟨e3, m3⟩ := ext_one m1 hq (.lst (rgV 0 n))
        refine p1 w1 _ (e3.mono fun _ z => nomatch z) m3 (.ref q) [q] (new_lst m1 hq dp) fun a ha => ?_
        obtain rfl : a = q := by simpa using ha
        exact .inl (e1.there _ hq)
      · exact p1.elim
    · exact p1.elim
end
end DL

/-! DL46: xs.index(y) of a list of texts -/
namespace DL
open PySem L2 PySem.Spec PyProof.Rows
def eIdxL (Fo Fe : Den) : Den := fun ρ M => (Fo ρ M).bind fun r M1 => match r with
  | .t (.d (.lst ds)) => (Fe ρ M1).bind fun r2 M2 => (match strsD ds, frzR M2 r2 with
    | some ys, .str z => (match idxS ys z with
      | some j => .ok (.t (.d (.int (j : Nat)))) M2
      | none => .bad)
    | _, _ => .bad)
  | _ => .bad
section
variable {X : Cx} {W : WX} {e o : Expr} {Fo Fe : Den} {apos cpos : Pos}
theorem de_idxL (ho : DE X W o Fo) (he : DE X W e Fe) (hbase : attributeBase o "index" X.env (eval o X.env) = eval o X.env := by rfl)
    (hfew : ((backTo cpos (starEach [e] X.env)).all (fun x => !x.1) && (backToKw cpos (keywordEach [] X.env)).all (fun x => x.1.isSome)
      && decide ([e].length + ([] : List Keyword).length + (if ([] : List Keyword).isEmpty then 0 else 1) < 30)) = true := by rfl)
    (hline : (apos.endLine == cpos.line) = true := by rfl) (hs : starEach [e] X.env = (false, eval e X.env) :: starEach [] X.env := by rfl) (hplain : (backTo cpos (starEach [] X.env)).any (·.1) = false := by rfl) :
    DE X W (.Call (.Attribute o "index" apos) [e] [] cpos) (eIdxL Fo Fe) :=
  (pe_bm PySem.F.plainAttrs_list PySem.F.slot_list_index PySem.F.type_list_index mt_index ho (pa_cons he pa_nil hs) hbase hfew hline hs hplain).mono fun σ H Q ⟨w, ρ, M, m, er, p⟩ => by
    refine ⟨w, ρ, M, m, er, p.bindF.imp fun w1 H1 M1 r _ _ z => ?_⟩
    obtain ⟨e1, m1, p1⟩ := z
    intro v fp q hf
    replace p1 := p1 [] fun _ z => nomatch z
    split at p1
    · rename_i ds
      obtain ⟨q, _⟩ := rr_dat q
      cases q with
      | @lst a xs _ h l =>
        refine ⟨lst_ty (m1.sub _ _ h), w1, ρ, M1, m1, er.stay e1, (Post.bindF p1).imp fun w2 H2 M2 r2 _ _ z => ?_⟩
        obtain ⟨e2, m2, p2⟩ := z
        intro v2 f2 q2 hf2
        replace p2 := p2 [] fun _ z => nomatch z
        have s := seen m2 q2
        split at p2
        · rename_i ys z2 hy hz
          rw [hz] at s
          cases s
          split at p2
          · rename_i j hj
            obtain ⟨k1, k2⟩ := idxS_ok hj
            refine ⟨a, ys.map V.str, .str z2, j, .str z2, rfl, rfl, ?_, rfl, ?_, by rw [List.getElem?_map, k1]; rfl, decide_eq_true rfl, fun n z' hn hz' => ?_, p2 w2 H2 (Ext.refl m2) m2 _ [] (rr_d (.int _)) fun _ z => nomatch z⟩
            · rw [← strs_at l hy]
              exact SqL.of (m2.sub _ _ (e2.F _ _ h))
            · rw [List.all_eq_true]
              intro x hx
              obtain ⟨y, _, rfl⟩ := List.mem_map.mp hx
              rfl
            · rw [List.getElem?_map] at hz'
              cases hy' : ys[n]? with
              | none => rw [hy'] at hz'; cases hz'
              | some y =>
                rw [hy'] at hz'
                cases hz'
                exact decide_eq_false fun z => k2 n hn (by rw [hy', z])
          · exact p2.elim
        · exact p2.elim
    · exact p1.elim
end
end DL

/-! DL47: try: .. except (A, B, C) as n: .. (HandS.Exc's ps_try_as has one class; the clause's tuple is a new object) -/
namespace DL
open PySem L2 PySem.Spec PyProof.Rows
theorem flying_keeps {B h h2 : Heap} {l : List Env} {e : Addr} {Z : Obj → Prop} (f : HandSPX.FlyingZ B l e Z h) (k : ∀ b o, h.get? b = some o → h2.get? b = some o) : HandSPX.FlyingZ B l e Z h2 := by
  obtain ⟨f1, f2, f3, oe, vs, T, oT, ts, q1, q2, q3, q4, q5, q6, q7, q8, q9⟩ := f
  exact ⟨fun b o z => k b o (f1 b o z), f2, Heap.FunFrames.of_keeps (fun b o z _ => ⟨o, k b o z, rfl⟩) f3, oe, vs, T, oT, ts, k _ _ q1, q2, q3, q4, q5, q6, k _ _ q7, q8, q9⟩
/-- the ends of a suite whose name is let go behind it -/
def offE (i : Nat) (D : Ends) : Ends := { nx := fun σ H => D.nx (σ.set i none) H, rt := D.rt, bk := fun σ H => D.bk (σ.set i none) H, ct := fun σ H => D.ct (σ.set i none) H }
def wAs3 (K : PySem.W.Frag) (cs : List Value) (i : Nat) (ts : Addr → Value → Option Addr → TS) (Wout : WX) (D : Ends) : WX := fun cls d σ H =>
  ∃ b, PySem.W.exmAny K cls cs = some b ∧ (b = true → ∀ a, H a = none → ts a cls d (offE i D) (σ.set i (some (.ref a))) H) ∧ (b = false → Wout cls d σ H)
section
variable {X : Cx} {x1 x2 x3 n : Str} {C1 C2 C3 : Addr} {i kt : Nat} {body suite : List Stmt} {b₀ : Stmt} {p1 p2 p3 tp pos pos' : Pos} {tb : WX → TS} {ts : Addr → Value → Option Addr → TS} {Wout : WX}
theorem ps_try3 (hs : X.stack = X.env :: X.outer) (hf : X.env.frame = some X.env.locals) (hN : X.N.Nodup) (hi : X.N[i]? = some n) (hln : X.env.kindOf n = some .local)
    (g1 : Gl X x1) (g2 : Gl X x2) (g3 : Gl X x3) (m1 : X.mg x1 = some (.ref C1)) (m2 : X.mg x2 = some (.ref C2)) (m3 : X.mg x3 = some (.ref C3)) (tk : Takes X Wout)
    (hb : ∀ (W : WX) (pn : List (Addr × Obj)) (xe : Value → Shared → Prop), Takes (X.tr pn xe) W → PassesOwn (model X.prog X.w) X.A X.env xe → PSs (X.tr pn xe) body (tb W))
    (hsu : ∀ (a : Addr) (oe : Obj) (cls : Value) (d : Option Addr) (pn : List (Addr × Obj)), Zc cls d oe → (∃ vs, oe.data = .fields vs) → PSs (X.suite a ((a, oe) :: pn)) (b₀ :: suite) (ts a cls d))
    (d1 : (x1 == ("__debug__" : Str)) = false := by decide) (d2 : (x2 == ("__debug__" : Str)) = false := by decide) (d3 : (x3 == ("__debug__" : Str)) = false := by decide) :
    PS X (.Try body [.ExceptHandler (some (.Tuple [.Name x1 p1, .Name x2 p2, .Name x3 p3] kt tp)) (some n) (b₀ :: suite) pos'] [] [] pos) (fun D σ H => tb (wAs3 X.K [.ref C1, .ref C2, .ref C3] i ts Wout D) D σ H) := by
  refine ⟨fun pins s σ H D I h => wpAny_Try_except ?_⟩
  have ok := I.ok
  have top : X.A.frames = some (X.env :: X.outer) := ok.frames.trans (by rw [hs])
  refine wpAny_mono ((hb (wAs3 X.K [.ref C1, .ref C2, .ref C3] i ts Wout D) (X.pn ++ pins) _ (fun u s1 hx => ?_) PassesOwn.looking).run [] s σ H D (I.toTry _) h) (fun f s1 z => ?_) fun _ _ z => z
  · -- caught
    obtain ⟨a, B, sI, pins', σ1, H1, cls, d, rfl, J0, nb, up, sky, na, os, ag, b, hb1, yes, no⟩ := hx
    have J : Inv X pins σ1 H1 sI := J0.ofTry ok
    have sky1 : Sky B (X.env :: X.outer) a (Zc cls d) X.env.locals s1.heap := hs ▸ sky
    refine Sky.land Zc.steady top hf sky1 fun h2 fl2 up2 => ?_
    obtain ⟨oe2, vs2, ha2, hz2, hd2⟩ := fl2.there
    have J2 : Inv X pins σ1 H1 { s1 with heap := h2 } := J.landed nb fl2.1 (up.trans up2) os ag
    have out : a ∉ frs (X.env :: X.outer) := fun z => by
      obtain ⟨_, o, e, hno⟩ := fl2.2.2.1.mem z
      rw [ha2] at e
      cases e
      exact hno _ hd2
    have aL : a ≠ X.env.locals := fun z => out (List.mem_filterMap.mpr ⟨X.env, List.mem_cons_self, by rw [hf, z]⟩)
    have aF : a ∉ X.fs := fun z => by
      obtain ⟨e, he, q⟩ := List.mem_filterMap.mp z
      exact out (List.mem_filterMap.mpr ⟨e, List.mem_cons_of_mem _ he, q⟩)
    have S2 := J2.suite ha2 hd2 na aL aF
    refine wpAny_handleBy_cons (codeAny_handlers_test ?_) (by intro q; cases q)
    -- the clause's tuple
    refine Tuple_ ?_
    show wpAny _ _ (spliced ((false, eval (.Name x1 p1) X.env) :: backTo tp (starEach [.Name x2 p2, .Name x3 p3] X.env))) _ _ _
    refine Calls.spliced_cons (ld_glob (X := X.suite a ((a, oe2) :: (X.pn ++ pins))) S2 g1 m1 ?_ d1)
    show wpAny _ _ (spliced ((false, eval (.Name x2 p2) X.env) :: backTo tp (starEach [.Name x3 p3] X.env))) _ _ _
    refine Calls.spliced_cons (ld_glob (X := X.suite a ((a, oe2) :: (X.pn ++ pins))) S2 g2 m2 ?_ d2)
    show wpAny _ _ (spliced ((false, eval (.Name x3 p3) X.env) :: backTo tp (starEach [] X.env))) _ _ _
    refine Calls.spliced_cons (ld_glob (X := X.suite a ((a, oe2) :: (X.pn ++ pins))) S2 g3 m3 ?_ d3)
    refine Calls.spliced_nil (wpAny_newObj_type ?_ (by show 3 ≤ sizeLine; decide))
    have kp : ∀ b o, h2.get? b = some o → (h2.push { cls := .type "tuple", data := .seq [Value.ref C1, .ref C2, .ref C3].toArray }).get? b = some o := fun b o z => Heap.get?_push_of_some _ z
    have tpl : (h2.push { cls := .type "tuple", data := .seq [Value.ref C1, .ref C2, .ref C3].toArray }).get? h2.objs.size = some { cls := .type "tuple", data := .seq [Value.ref C1, .ref C2, .ref C3].toArray } := Heap.get?_push_size h2 rfl
    have fl3 := flying_keeps fl2 kp
    have up3 : s1.heap.UpToSlots (h2.push { cls := .type "tuple", data := .seq [Value.ref C1, .ref C2, .ref C3].toArray }) := up2.trans (Heap.UpToSlots.of_keeps kp)
    generalize h2.push { cls := .type "tuple", data := .seq [Value.ref C1, .ref C2, .ref C3].toArray } = h3 at kp tpl fl3 up3 ⊢
    have J3 : Inv X pins σ1 H1 { s1 with heap := h3 } := J.landed nb fl3.1 (up.trans up3) os ag
    have LT : PySem.W.Looks (model X.prog X.w) h3 (typeOf (.ref a)) cls := fun A Q E s k q => wpAny_typeOf_ref (k _ _ (kp _ _ ha2)) (by rw [hz2.1]; exact q)
    refine (PySem.W.exm_tup3 (M := model X.prog X.w) J3.kIn LT tpl hb1).here ?_
    cases b with
    | true =>
      refine codeAny_handlers_suite_as (HandSPX.lands_againZ fl3 fun h4 fl4 up4 => ?_)
      obtain ⟨oe4, vs4, ha4, hz4, hd4⟩ := fl4.there
      have J4 : Inv X pins σ1 H1 { s1 with heap := h4 } := J.landed nb fl4.1 ((up.trans up3).trans up4) os ag
      have S4 := J4.suite ha4 hd4 na aL aF
      refine store_ok (X := X.suite a ((a, oe4) :: (X.pn ++ pins))) (v := .ref a) S4 hN hi (.inl hln) rfl (fun s5 S5 => ?_) (.inr hln)
      refine wpAny_mono ((hsu a oe4 cls d (X.pn ++ pins) hz4 ⟨_, hd4⟩).run [] s5 _ H1 _ S5 (yes rfl a na)) (fun f s6 z => ?_) fun _ _ z => False.elim z
      have off : ∀ {σ6 : L2.St} {H6 : Hp} {Q : Shared → Prop}, Inv (X.suite a ((a, oe4) :: (X.pn ++ pins))) [] σ6 H6 s6 → (∀ s7, Inv X pins (σ6.set i none) H6 s7 → Q s7) → wpAny (model X.prog X.w) X.A (do bindName X.env n .none; unbindBehindTheSuite X.env n pos') (fun _ s7 => Q s7) X.xe s6 :=
        fun {σ6 H6 Q} S6 k => gone_ok (S6.unsuite ok) hN hi hln k
      cases f with
      | ret u =>
        obtain ⟨v, σ6, H6, S6, r, q⟩ := z
        exact off S6 fun s7 J7 => ⟨_, _, _, J7, r, q⟩
      | next =>
        obtain ⟨σ6, H6, S6, q⟩ := z
        exact off S6 fun s7 J7 => ⟨_, _, J7, q⟩
      | brk =>
        obtain ⟨σ6, H6, S6, q⟩ := z
        exact off S6 fun s7 J7 => ⟨_, _, J7, q⟩
      | cont =>
        obtain ⟨σ6, H6, S6, q⟩ := z
        exact off S6 fun s7 J7 => ⟨_, _, J7, q⟩
    | false =>
      refine wpAny_handleBy_nil (A := X.A) ?_
      obtain ⟨_, _, _, oe, vs, T, oT, _, he, _, hd, h1, _⟩ := id fl3
      unfold PySem.passOn
      refine wpAny_bind (wpAny_field he hd h1 ?_)
      rw [if_neg (show ¬ ((Value.ref T == Value.none) = true) from by simp)]
      have fin : wpAny (model X.prog X.w) X.A (setFlight (.ref a) X.env.frame) (fun _ s4 => wpAny (model X.prog X.w) X.A (throw (.ref a) : Sem Flow) (SP X pins D) X.xe s4) X.xe { s1 with heap := h3 } := by
        rw [hf]
        exact HandSPX.setFlight_upZ fl3 fun h4 hh4 up4 => wpAny_throw (tk _ _ ⟨a, B, sI, pins, σ1, H1, cls, d, rfl, J, nb, (up.trans up3).trans up4, .inr (.inr (by rw [hs]; exact hh4)), na, os, ag, no rfl⟩)
      first
        | exact wpAny_bind (wpAny_pure (wpAny_bind fin))
        | exact wpAny_bind fin
  · cases f with
    | next =>
      obtain ⟨σ1, H1, J, q⟩ := z
      exact wpAny_execs_nil ⟨σ1, H1, J.ofTry ok, q⟩
    | brk =>
      obtain ⟨σ1, H1, J, q⟩ := z
      exact ⟨σ1, H1, J.ofTry ok, q⟩
    | cont =>
      obtain ⟨σ1, H1, J, q⟩ := z
      exact ⟨σ1, H1, J.ofTry ok, q⟩
    | ret u =>
      obtain ⟨v, σ1, H1, J, r, q⟩ := z
      exact ⟨v, σ1, H1, J.ofTry ok, r, q⟩
end
end DL

/-! DL48: a def called while an exception is handled (HandS.HotCalls asks that the exception's context is None, for the sake of raises; these raise nothing); the handled exception's fields -/
namespace DL
open PySem L2 PySem.Spec PyProof.Rows L2H
/-- what such a def promises; p: the handled exception's object, as it stands -/
structure FnP (P : Program) (w : World) (K : PySem.W.Frag) (mg : Mg) (base : Heap) (k : Nat) (f : Addr) (fd : FuncData) (ps : List Str) (sp : Addr × Obj → Sp) : Prop where
  len : ∀ p vs H Q E, sp p vs H Q E → vs.length = ps.length
  run : ∀ (A : Around) (outer : List Env) (s : Shared) (H : Hp) (us : List Value) (vs : List V) (Q : VK) (p : Addr × Obj), RoomH k A → PinOk outer H s p → Env0 P w K mg base A outer s H → BindsTo s fd ⟨us, []⟩ (ps.zip us) → Vals vs us → sp p vs H Q (fun _ _ _ => False) →
    codeAny (model P w) A (.call (.ref f) ⟨us, []⟩) (CR (L2.CX P w) outer P w H s Q fun _ _ _ => False) s
theorem fn_ofP {P : Program} {w : World} {K : PySem.W.Frag} {mg : Mg} {base : Heap} {k : Nat} {f : Addr} {fd : FuncData} {x qual : Str} {st : Stmt} {N ps : List Str} {sp : Addr × Obj → Sp} (F : Fun K x qual st f fd) (S : FnScope N ps (defScope st)) (len : ∀ p vs H Q E, sp p vs H Q E → vs.length = ps.length)
    (body : ∀ (cdv : Value) (A : Around) (outer : List Env) (s : Shared) (H : Hp) (vs : List V) (Q : VK) (p : Addr × Obj), RoomH k (A.deeper (envOfC qual (defScope st) s.heap.objs.size f cdv)) → sp p vs H Q (fun _ _ _ => False) →
      ∃ t, PSs (cxH (L2.CX P w) P w K mg base N qual (defScope st) f cdv A outer s H (fun _ _ _ => False) p) (defBody st) t ∧ t { nx := fun _ H' => Q .non H', rt := Q } (L2.start N vs) H) : FnP P w K mg base (k + 1) f fd ps sp := by
  obtain ⟨oc, od, kV, doc, pm, an, cdv, ct, osl, rfl, lk, hcd⟩ := F.ex
  refine ⟨len, fun A outer s H us vs Q p hr pin e0 hb r hq => ?_⟩
  have hl := len _ _ _ _ _ hq
  have kin : K.In s.heap := e0.mod.kin.keeps fun b o e => (e0.bs b o e).1
  have lim : s.heap.NoLimit := e0.mod.nolimit.keeps fun b o e => (e0.bs b o e).1
  refine codeAny_call_function hr.depth (kin _ _ lk) rfl S.co S.gen rfl (PySem.W.codeRec_of kin hcd) (hb _ _ _ _ ?_)
  refine wpAny_newFunctionEnv_cells S.kind (fun y hy => (S.par y.1 (List.of_mem_zip (a := y.1) (b := y.2) hy).1).imp id fun q => ⟨q, PySem.W.cellsFrom_some _ _ _ (.inl q)⟩) fun env he s1 x => ?_
  cases he
  refine ⟨lim.keeps x.toInCall.keep, codeAny_func ?_⟩
  obtain ⟨t, ht, hq⟩ := body cdv A outer s H vs Q p (hr.deeper _) hq
  have J := inv_startH (CX := L2.CX P w) (E := fun _ _ _ => False) (f := f) (cd := cdv) (A := A) S pin e0 hl r x
  refine wpAny_mono (ht.run [] s1 (L2.start N vs) H _ J hq) (fun fl s2 z => ?_) fun e s2 z => z
  cases fl with
  | ret u =>
    obtain ⟨v, σ2, H2, J2, rv, q⟩ := z
    exact ⟨v, H2, J2.os, J2.bare, J2.base, J2.hok, rv, q⟩
  | next =>
    obtain ⟨σ2, H2, J2, q⟩ := z
    exact ⟨.non, H2, J2.os, J2.bare, J2.base, J2.hok, rfl, q⟩
  | brk =>
    obtain ⟨_, _, _, q⟩ := z
    exact q.elim
  | cont =>
    obtain ⟨_, _, _, q⟩ := z
    exact q.elim
section
variable {X : Cx} {k : Nat} {f : Addr} {fd : FuncData} {ps : List Str} {sp : Addr × Obj → Sp} {x : Str} {q pos : Pos} {e : Expr} {es : List Expr} {t : TA} {p : Addr × Obj}
/-- x(e, ..) in the suite that handles p -/
theorem pe_callP (F : FnP X.prog X.w X.K X.mg X.base k f fd ps sp) (hr : RoomH k X.A) (hp : p ∈ X.pn) (hg : Gl X x) (hm : X.mg x = some (.ref f)) (hk : PySem.W.keepIn X.K (.ref f) = true) (hb : Binds X.K fd ps []) (ha : PA X (e :: es) t)
    (hdb : (x == ("__debug__" : Str)) = false := by decide) (he : starEach (e :: es) X.env = (false, eval e X.env) :: starEach es X.env := by rfl) (hpl : (backTo pos (starEach es X.env)).any (·.1) = false := by rfl) :
    PE X (.Call (.Name x q) (e :: es) [] pos) (fun σ H Q => t σ H fun vs H1 => sp p vs H1 Q fun _ _ _ => False) := by
  refine ⟨fun pins s σ H Q I h => wpAny_Call_Name_kw (ld_glob I hg hm (PySem.W.callWith_K (h₀ := X.base) I.ok.mod.kin hk (thn (ha.run pos pins s σ H _ I h) fun us s1 ⟨vs, H1, J, r, h1⟩ => ⟨J.kIn, ?_⟩) he hpl) hdb)⟩
  have hl : (us ++ []).length = ps.length := by rw [List.append_nil, ← r.length]; exact F.len _ _ _ _ _ h1
  have b := hb s1 us J.kIn hl
  rw [List.append_nil] at b
  have P1 := J.pin p (List.mem_append_left _ hp)
  have pin : PinOk X.stack H1 s1 p := ⟨P1.1, P1.2.1, fun z => (List.mem_cons.mp (J.stkSub p.1 z)).elim P1.2.2.1 P1.2.2.2.1, P1.2.2.2.2⟩
  refine wpAny_call (codeAny_mono (F.run X.A X.stack s1 H1 us vs Q p hr pin J.env0 b r h1) fun r s' z => ?_)
  cases r with
  | error e =>
    obtain ⟨_, _, _, _, _, _, _, _, _, _, _, _, y⟩ := z
    exact y.elim
  | ok fl =>
    cases fl with
    | ret u => exact J.after z
    | next => exact False.elim z
    | brk => exact False.elim z
    | cont => exact False.elim z
/-- e.n, e the handled exception -/
theorem pe_xfP {a C dd : Addr} {oe : Obj} {te : TE} {n : Str} (hp : (a, oe) ∈ X.pn) (T : XfC X.K C) (hno : PySem.W.findIn X.K (.ref C) n = some none) (hz : Zc (.ref C) (some dd) oe) (hf : ∃ vs, oe.data = .fields vs) (he : PE X e te) (hb : attributeBase e n X.env (eval e X.env) = eval e X.env := by rfl) :
    PE X (.Attribute e n pos) (fun σ H Q => te σ H fun x H1 => x = .ref a ∧ ∃ (fs : List (Str × V)) (v : V), H1 dd = some (.xd fs) ∧ fs.lookup n = some v ∧ Q v H1) := by
  refine ⟨fun pins s σ H Q I h => attr_of hb (thn (he.run pins s σ H _ I h) fun u s1 hh => ?_)⟩
  obtain ⟨x, H1, J, rx, ex, fs, v, ea, l, q⟩ := hh
  cases ex
  cases (show u = Value.ref a from rx)
  obtain ⟨vs, hd⟩ := hf
  have ox : ObjOk X.prog X.w H1 s1.heap dd (.xd fs) := J.hok dd _ ea
  obtain ⟨mA, hns, hr⟩ := ox
  obtain ⟨od, ho, hl⟩ := lookIn_ns hns
  obtain ⟨u, hu, ru⟩ := RelO.some_of (v := v) (o := mA n) (by rw [← l]; exact hr n)
  have I2 : PySem.W.InstAt s1.heap a oe C (some od) := ⟨(J.pin (a, oe) (List.mem_append_left _ hp)).1, hz.1, by unfold PySem.W.notCls; rw [hd] <;> rfl, by rw [hz.2]; exact ho⟩
  exact HandSPX.exc_get J.kIn I2 T.ga T.gg T.exC (PySem.W.findObj_own T.hdC hno rfl (by rw [hl, hu])) (handed_of ru) ⟨v, H1, J.tok _, ru, q⟩
end
end DL

/-! DL49: the walk of a def that tells an exception by its code: ifs over e.code, each handing back a tuple of e's fields -/
namespace DL
open PySem L2 PySem.Spec PyProof.Rows L2H
/-- the names of the fields told: the first clause that holds the code -/
def pick : List (List Str × List Str) → List Str → Str → List Str
  | [], last, _ => last
  | (ls, ns) :: r, last, c => if ls.any (· == c) then ns else pick r last c
inductive Lks (fs : List (Str × V)) : List Str → List V → Prop
  | nil : Lks fs [] []
  | cons {n : Str} {v : V} {ns : List Str} {vs : List V} : fs.lookup n = some v → Lks fs ns vs → Lks fs (n :: ns) (v :: vs)
theorem Lks.length {fs : List (Str × V)} {ns : List Str} {vs : List V} (h : Lks fs ns vs) : vs.length = ns.length := by induction h with
  | nil => rfl
  | cons _ _ ih => rw [List.length_cons, List.length_cons, ih]
inductive LitsOf : List Expr → List Str → Prop
  | nil : LitsOf [] []
  | cons {l : Str} {j : Nat} {p : Pos} {es : List Expr} {ls : List Str} : LitsOf es ls → LitsOf (.Constant (.str l) j p :: es) (l :: ls)
inductive FldsOf (x : Str) : List Expr → List Str → Prop
  | nil : FldsOf x [] []
  | cons {n : Str} {q p : Pos} {es : List Expr} {ns : List Str} : FldsOf x es ns → FldsOf x (.Attribute (.Name x q) n p :: es) (n :: ns)
structure HotE (X : Cx) (x : Str) (a : Addr) (oe : Obj) (C dd : Addr) : Prop where
  pin : (a, oe) ∈ X.pn
  T : XfC X.K C
  z : Zc (.ref C) (some dd) oe
  fl : ∃ vs, oe.data = .fields vs
  at_ : X.N[0]? = some x
  vis : Vis X.env.scope x
  hd : (x == ("__debug__" : Str)) = false
  hcd : (x == ("__classdict__" : Str)) = false
section
variable {X : Cx} {x : Str} {a C dd : Addr} {oe : Obj} {n : Str} {q pos p1 p2 p3 p4 : Pos} {es es2 : List Expr} {ls ns ns2 last : List Str} {cl : List (List Str × List Str)} {test : Expr} {rest : List Stmt}
def tFldP (a dd : Addr) (n : Str) : TE := fun σ H Q => σ[0]? = some (some (.ref a)) ∧ ∃ (fs : List (Str × V)) (v : V), H dd = some (.xd fs) ∧ fs.lookup n = some v ∧ Q v H
theorem pe_fldP (h : HotE X x a oe C dd) (hno : PySem.W.findIn X.K (.ref C) n = some none) : PE X (.Attribute (.Name x q) n pos) (tFldP a dd n) :=
  (pe_xfP h.pin h.T hno h.z h.fl (pe_var h.at_ h.vis h.hd h.hcd)).mono fun σ H Q ⟨h1, fs, v, h2, h3, h4⟩ => ⟨_, h1, rfl, fs, v, h2, h3, h4⟩
theorem pa_lits (h : LitsOf es ls) : PA X es (fun σ H Q => Q (ls.map V.str) H) := by
  induction h with
  | nil => exact pa_nil
  | cons _ ih => exact pa_cons pe_str ih
theorem pa_flds (h : HotE X x a oe C dd) (hf : FldsOf x es ns) (hno : ∀ n ∈ ns, PySem.W.findIn X.K (.ref C) n = some none) :
    PA X es (fun σ H Q => σ[0]? = some (some (.ref a)) ∧ ∃ (fs : List (Str × V)) (xs : List V), H dd = some (.xd fs) ∧ Lks fs ns xs ∧ Q xs H) := by
  induction hf with
  | nil =>
    refine ⟨fun pos pins s σ H Q I z => pa_nil.run pos pins s σ H Q I ?_⟩
    obtain ⟨_, fs, xs, _, l, k⟩ := z
    cases l
    exact k
  | cons _ ih =>
    refine ⟨fun pos pins s σ H Q I z => (pa_cons (pe_fldP h (hno _ List.mem_cons_self)) (ih fun n hn => hno n (List.mem_cons_of_mem _ hn))).run pos pins s σ H Q I ?_⟩
    obtain ⟨h1, fs, xs, h2, l, k⟩ := z
    cases l with
    | cons l1 l2 => exact ⟨h1, fs, _, h2, l1, h1, fs, _, h2, l2, k⟩
def tIsP (a dd : Addr) (ls : List Str) : TT := fun σ H Q => σ[0]? = some (some (.ref a)) ∧ ∃ (fs : List (Str × V)) (c : Str), H dd = some (.xd fs) ∧ fs.lookup ("code" : Str) = some (.str c) ∧ ∀ H1, Same H H1 → Q (ls.any (· == c)) H1
theorem same_upd {H : Hp} {b : Addr} {u : HO} (h : H b = none) : Same H (upd H b u) := fun c o e => by rw [upd_ne (ne_of_none e h)]; exact e
theorem all_flat : ∀ ls : List Str, (ls.map V.str).all flatV = true
  | [] => rfl
  | _ :: ls => by rw [List.map_cons, List.all_cons, all_flat ls]; rfl
theorem inV_lits (c : Str) : ∀ ls : List Str, inV (.str c) (ls.map V.str) = ls.any (· == c)
  | [] => rfl
  | l :: ls => by
    have := inV_lits c ls
    unfold inV at this ⊢
    rw [List.map_cons, List.any_cons, List.any_cons, this]
    rfl
inductive TestOf (x : Str) : Expr → List Str → Prop
  | eq {q p1 p2 p3 : Pos} {l : Str} {j : Nat} : TestOf x (.Compare (.Attribute (.Name x q) "code" p1) [.Eq] [.Constant (.str l) j p2] p3) [l]
  | isin {q p1 p2 p3 : Pos} {es : List Expr} {ls : List Str} {k : Nat} : LitsOf es ls → ls.length ≤ sizeLine → TestOf x (.Compare (.Attribute (.Name x q) "code" p1) [.In] [.Tuple es k p2] p3) ls
theorem pt_isP (h : HotE X x a oe C dd) (hno : PySem.W.findIn X.K (.ref C) "code" = some none) (ht : TestOf x test ls) : PT X test (tIsP a dd ls) := by
  cases ht with
  | @eq _ _ _ _ l _ =>
    refine (pt_cmpR op_eq (pe_fldP h hno) pe_str (nomark _)).mono fun σ H Q z => ?_
    obtain ⟨h1, fs, c, h2, h3, k⟩ := z
    refine ⟨h1, fs, .str c, h2, h3, rfl, _, rfl, ?_⟩
    have := k H (Same.refl H)
    rw [List.any_cons, List.any_nil, Bool.or_false] at this
    rw [dec_str, show (c == l) = (l == c) from BEq.comm]
    exact this
  | isin hl hz =>
    refine (pt_cmpR op_in_seq (pe_fldP h hno) (pe_tup (pa_lits hl)) rfl).mono fun σ H Q z => ?_
    obtain ⟨h1, fs, c, h2, h3, k⟩ := z
    refine ⟨h1, fs, .str c, h2, h3, by rw [List.length_map]; exact hz, fun p hp => ⟨p, _, rfl, .inr (.inl (.inl upd_same)), rfl, all_flat _, _, rfl, ?_⟩⟩
    rw [inV_lits]
    exact k _ (same_upd hp)
def tPick (a dd : Addr) (cl : List (List Str × List Str)) (last : List Str) : TS := fun D σ H => σ[0]? = some (some (.ref a)) ∧ ∃ (fs : List (Str × V)) (c : Str) (xs : List V), H dd = some (.xd fs) ∧ fs.lookup ("code" : Str) = some (.str c) ∧ Lks fs (pick cl last c) xs ∧
  ∀ (q : Addr) (H' : Hp), Same H H' → H' q = some (.tup xs) → D.rt (.ref q) H'
inductive ClausesOf (x : Str) : List Stmt → List (List Str × List Str) → List Str → Prop
  | last {test : Expr} {es es2 : List Expr} {ls ns ns2 : List Str} {k1 k2 : Nat} {p1 p2 p3 p4 : Pos} : TestOf x test ls → FldsOf x es ns → FldsOf x es2 ns2 → ns.length ≤ sizeLine → ns2.length ≤ sizeLine →
      ClausesOf x [.Return (some (.IfExp test (.Tuple es k1 p1) (.Tuple es2 k2 p2) p3)) p4] [(ls, ns)] ns2
  | step {test : Expr} {es : List Expr} {rest : List Stmt} {ls ns last : List Str} {cl : List (List Str × List Str)} {k1 : Nat} {p1 p2 p3 : Pos} : TestOf x test ls → FldsOf x es ns → ns.length ≤ sizeLine → ClausesOf x rest cl last →
      ClausesOf x (.If test [.Return (some (.Tuple es k1 p1)) p2] [] p3 :: rest) ((ls, ns) :: cl) last
theorem pss_clauses {body : List Stmt} (h : HotE X x a oe C dd) (hc : ClausesOf x body cl last) (hcode : PySem.W.findIn X.K (.ref C) "code" = some none) (hno : ∀ n ∈ last ++ cl.flatMap (·.2), PySem.W.findIn X.K (.ref C) n = some none) :
    PSs X body (tPick a dd cl last) := by
  induction hc with
  | @last _ _ _ ls ns ns2 _ _ _ _ _ _ ht f1 f2 z1 z2 =>
    have a1 := pa_flds h f1 fun n hn => hno n (List.mem_append_right _ (by simpa using hn))
    have a2 := pa_flds h f2 fun n hn => hno n (List.mem_append_left _ hn)
    refine ⟨fun pins s σ H D I z => (pss_one (ps_ret (pe_ifExp (pt_isP h hcode ht) (pe_tup a1) (pe_tup a2)))).run pins s σ H D I ?_⟩
    obtain ⟨h1, fs, c, xs, h2, h3, l, k⟩ := z
    refine ⟨h1, fs, c, h2, h3, fun H1 e1 => ?_⟩
    unfold pick at l
    by_cases hb : ls.any (· == c) = true
    · rw [if_pos hb] at l ⊢
      exact ⟨h1, fs, xs, e1 _ _ h2, l, by rw [l.length]; exact z1, fun p hp => k p _ (e1.trans (same_upd hp)) upd_same⟩
    · rw [if_neg hb] at l ⊢
      exact ⟨h1, fs, xs, e1 _ _ h2, l, by rw [l.length]; exact z2, fun p hp => k p _ (e1.trans (same_upd hp)) upd_same⟩
  | @step _ _ _ ls ns last cl _ _ _ _ ht f1 z1 _ ih =>
    have a1 := pa_flds h f1 fun n hn => hno n (List.mem_append_right _ (by rw [List.flatMap_cons]; exact List.mem_append_left _ hn))
    have r := ih fun n hn => hno n ((List.mem_append.mp hn).elim (fun z => List.mem_append_left _ z) fun z => List.mem_append_right _ (by rw [List.flatMap_cons]; exact List.mem_append_right _ z))
    refine ⟨fun pins s σ H D I z => (pss_cons (ps_if (pt_isP h hcode ht) (pss_one (ps_ret (pe_tup a1))) pss_nil) r).run pins s σ H D I ?_⟩
    obtain ⟨h1, fs, c, xs, h2, h3, l, k⟩ := z
    refine ⟨h1, fs, c, h2, h3, fun H1 e1 => ?_⟩
    unfold pick at l
    by_cases hb : ls.any (· == c) = true
    · rw [if_pos hb] at l ⊢
      exact ⟨h1, fs, xs, e1 _ _ h2, l, by rw [l.length]; exact z1, fun p hp => k p _ (e1.trans (same_upd hp)) upd_same⟩
    · rw [if_neg hb] at l ⊢
      exact ⟨h1, fs, c, xs, e1 _ _ h2, h3, l, fun p H' e h => k p H' (e1.trans e) h⟩
end
/-- what such a def answers, called while p is handled -/
def spParts (K : PySem.W.Frag) (cl : List (List Str × List Str)) (last : List Str) (p : Addr × Obj) : Sp := fun vs H Q _ => ∃ (C dd : Addr) (fs : List (Str × V)) (c : Str) (xs : List V), vs = [.ref p.1] ∧ XfC K C ∧ PySem.W.findIn K (.ref C) "code" = some none ∧ (∀ n ∈ last ++ cl.flatMap (·.2), PySem.W.findIn K (.ref C) n = some none) ∧
  Zc (.ref C) (some dd) p.2 ∧ (∃ us, p.2.data = .fields us) ∧ H dd = some (.xd fs) ∧ fs.lookup ("code" : Str) = some (.str c) ∧ Lks fs (pick cl last c) xs ∧ ∀ (q : Addr) (H' : Hp), Same H H' → H' q = some (.tup xs) → Q (.ref q) H'
theorem fn_parts {P : Program} {w : World} {K : PySem.W.Frag} {mg : Mg} {base : Heap} {k : Nat} {f : Addr} {fd : FuncData} {x y qual : Str} {st : Stmt} {cl : List (List Str × List Str)} {last : List Str} (F : Fun K y qual st f fd) (S : FnScope [x] [x] (defScope st)) (hv : Vis (defScope st) x) (hc : ClausesOf x (defBody st) cl last)
    (hd : (x == ("__debug__" : Str)) = false := by decide) (hcd : (x == ("__classdict__" : Str)) = false := by decide) : FnP P w K mg base (k + 1) f fd [x] (spParts K cl last) := by
  refine fn_ofP F S (fun p vs H Q E ⟨_, _, _, _, _, e, _⟩ => by rw [e]; rfl) fun cdv A outer s H vs Q p hr z => ?_
  obtain ⟨C, dd, fs, c, xs, rfl, T, hcode, hno, hz, hf, h2, h3, l, kk⟩ := z
  exact ⟨_, pss_clauses (a := p.1) (oe := p.2) (C := C) (dd := dd) ⟨List.mem_singleton_self _, T, hz, hf, rfl, hv, hd, hcd⟩ hc hcode hno, rfl, fs, c, xs, h2, h3, l, kk⟩
end DL

/-! DL50: `def t(ask): try: return ("value", ask()) except (A, B, C) as e: return (e.code,) + parts(e)` called with a lambda (LamX.GivesTo; after told_gives) -/
namespace DL
open PySem L2 PySem.Spec PyProof.Rows L2H LamX
/-- what is told of an exception -/
def ToldE (K : PySem.W.Frag) (cl : List (List Str × List Str)) (last : List Str) (cls : Value) (d : Option Addr) (H : Hp) (Q : VK) : Prop := ∃ (C dd : Addr) (fs : List (Str × V)) (c : Str) (xs : List V), cls = .ref C ∧ d = some dd ∧ XfC K C ∧ PySem.W.findIn K (.ref C) "code" = some none ∧ (∀ n ∈ last ++ cl.flatMap (·.2), PySem.W.findIn K (.ref C) n = some none) ∧
  H dd = some (.xd fs) ∧ fs.lookup ("code" : Str) = some (.str c) ∧ Lks fs (pick cl last c) xs ∧ xs.length + 1 ≤ sizeLine ∧ ∀ (q : Addr) (H' : Hp), Same H H' → H q = none → H' q = some (.tup (.str c :: xs)) → Q (.ref q) H'
def TTry (K : PySem.W.Frag) (C1 C2 C3 : Addr) (cl : List (List Str × List Str)) (last : List Str) : (XK → Hp → VK → Prop) → Hp → VK → Prop := fun tl H Q =>
  tl (fun cls d H' => ∃ b, PySem.W.exmAny K cls [.ref C1, .ref C2, .ref C3] = some b ∧ (b = true → ToldE K cl last cls d H' Q) ∧ (b = false → False)) H
    (fun v H1 => [V.str "value", v].length ≤ sizeLine ∧ ∀ p, H1 p = none → Q (.ref p) (upd H1 p (.tup [.str "value", v])))
section
variable {X : Cx}
def tSuite (K : PySem.W.Frag) (cl : List (List Str × List Str)) (last : List Str) (a : Addr) (cls : Value) (d : Option Addr) : TS := fun D σ H => (1 < σ.length → σ[1]? = some (some (.ref a))) ∧ ToldE K cl last cls d H D.rt
theorem ps_suiteP {a : Addr} {oe : Obj} {cls : Value} {d : Option Addr} {e y parts : Str} {k : Nat} {fP : Addr} {fdP : FuncData} {cl : List (List Str × List Str)} {last : List Str} {kt : Nat} {q1 q2 q3 q4 q5 q6 q7 q8 : Pos}
    (hp : (a, oe) ∈ X.pn) (hz : Zc cls d oe) (hf : ∃ vs, oe.data = .fields vs) (F : FnP X.prog X.w X.K X.mg X.base k fP fdP [y] (spParts X.K cl last)) (hr : RoomH k X.A) (hg : Gl X parts) (hm : X.mg parts = some (.ref fP)) (hk : PySem.W.keepIn X.K (.ref fP) = true) (hb : Binds X.K fdP [y] [])
    (hi : X.N[1]? = some e) (hv : Vis X.env.scope e) (hdp : (parts == ("__debug__" : Str)) = false) (hd : (e == ("__debug__" : Str)) = false) (hcd : (e == ("__classdict__" : Str)) = false) :
    PSs X [.Return (some (.BinOp (.Tuple [.Attribute (.Name e q1) "code" q2] kt q3) .Add (.Call (.Name parts q4) [.Name e q5] [] q6) q7)) q8] (tSuite X.K cl last a cls d) := by
  refine ⟨fun pins s σ H D I z => ?_⟩
  obtain ⟨hσ, C, dd, fs, c, xs, rfl, rfl, T, hcode, hno, h2, h3, l, hl, kk⟩ := z
  have hs : σ[1]? = some (some (.ref a)) := hσ (by rw [I.len]; exact (List.getElem?_eq_some_iff.mp hi).1)
  refine (pss_one (ps_ret (pe_op op_catA (pe_tup (pa_cons (pe_xfP hp T hcode hz hf (pe_var hi hv hd hcd)) pa_nil)) (pe_callP F hr hp hg hm hk hb (pa_cons (pe_var hi hv hd hcd) pa_nil) hdp)))).run pins s σ H D I ?_
  refine ⟨.ref a, hs, rfl, fs, .str c, h2, h3, by show 1 ≤ sizeLine; decide, fun p1 hp1 => ⟨.ref a, hs, C, dd, fs, c, xs, rfl, T, hcode, hno, hz, hf, same_upd hp1 _ _ h2, h3, l, fun q H' e1 hq => ?_⟩⟩
  have eS : Same H H' := (same_upd hp1).trans e1
  have hp2 : H' p1 = some (.tup [.str c]) := e1 _ _ upd_same
  refine ⟨p1, q, [.str c], xs, rfl, rfl, .inl (.inl hp2), .inl (.inl hq), by rw [List.length_singleton]; omega, (fun z => nomatch z), (fun _ z => kk p1 H' eS hp1 (by rw [hp2, z])), fun _ _ r hr => kk r _ (eS.trans (same_upd hr)) (by cases zz : H r with | none => rfl | some o => rw [eS _ _ zz] at hr; cases hr) upd_same⟩
theorem try_gives {Ng : List Str} {x a e q y parts x1 x2 x3 : Str} {sg : Scope} {g C1 C2 C3 : Addr} {cdg : Value} {j kt kt2 kt3 k : Nat} {fP : Addr} {fdP : FuncData} {cl : List (List Str × List Str)} {last : List Str} {r1 r2 r3 r4 r5 r6 r7 r8 r9 s1 s2 s3 s4 s5 s6 s7 s8 s9 q8 : Pos}
    (F : FnP X.prog X.w X.K X.mg X.base k fP fdP [y] (spParts X.K cl last)) (hr : RoomH (k + 1) X.A) (hgp : sg.names.lookup parts = some .globalImplicit) (hmp : X.mg parts = some (.ref fP)) (hk : PySem.W.keepIn X.K (.ref fP) = true) (hb : Binds X.K fdP [y] [])
    (g1 : sg.names.lookup x1 = some .globalImplicit) (g2 : sg.names.lookup x2 = some .globalImplicit) (g3 : sg.names.lookup x3 = some .globalImplicit) (m1 : X.mg x1 = some (.ref C1)) (m2 : X.mg x2 = some (.ref C2)) (m3 : X.mg x3 = some (.ref C3))
    (hN : Ng.Nodup) (hi : Ng[1]? = some e) (hle : sg.names.lookup e = some .local) (h0 : ∀ f : Addr, (L2.start Ng [V.ref f])[0]? = some (some (V.ref f)))
    (hdp : (parts == ("__debug__" : Str)) = false := by decide) (hd : (e == ("__debug__" : Str)) = false := by decide) (hcd : (e == ("__classdict__" : Str)) = false := by decide) (d1 : (x1 == ("__debug__" : Str)) = false := by decide) (d2 : (x2 == ("__debug__" : Str)) = false := by decide) (d3 : (x3 == ("__debug__" : Str)) = false := by decide) :
    GivesTo X Ng x sg g cdg [.Try [.Return (some (.Tuple [.Constant (.str "value") j r1, .Call (.Name a r2) [] [] r3] kt r4)) r5]
      [.ExceptHandler (some (.Tuple [.Name x1 r6, .Name x2 r7, .Name x3 r8] kt2 r9)) (some e) [.Return (some (.BinOp (.Tuple [.Attribute (.Name e s1) "code" s2] kt3 s3) .Add (.Call (.Name parts s4) [.Name e s5] [] s6) s7)) s8] s9] [] [] q8] a q (TTry X.K C1 C2 C3 cl last) := by
  intro f c' s H Q tl act hc h
  refine ⟨_, pss_one (ps_try3 (X := (cxOf C8.CX0 X.prog X.w X.K X.mg X.base Ng x sg g cdg X.A X.stack s H C8.E0).nox) (C1 := C1) (C2 := C2) (C3 := C3) (i := 1) (Wout := fun _ _ _ _ => False)
      (ts := tSuite X.K cl last)
      (tb := fun W D σ H => ∃ Ech : XK, (∀ cls d σ' H', Ech cls d H' → W cls d σ' H') ∧ σ[0]? = some (some (.ref f)) ∧ H c' = some (CodeO c' q) ∧ tl Ech H (fun v H1 => [V.str "value", v].length ≤ sizeLine ∧ ∀ p, H1 p = none → D.rt (.ref p) (upd H1 p (.tup [.str "value", v]))))
      rfl rfl hN hi hle g1 g2 g3 m1 m2 m3 LamX.takes0 (fun W pn xe tk _ => ?_) (fun b oe cls d pn hz hf => ?_) d1 d2 d3), ?_⟩
  · refine ⟨fun pins s' σ H' D I h' => ?_⟩
    obtain ⟨Ech, hW, h1, h2, h3⟩ := h'
    have hp := act W pn xe Ech r2 r3 tk hW
    refine (pss_one (ps_ret (pos := r5) (pe_tup (x1 := kt) (pos := r4) (pa_cons (pe_str (x := "value") (j := j) (pos := r1)) (pa_cons hp pa_nil))))).run pins s' σ H' D I ⟨h1, h2, ?_⟩
    exact h3
  · exact ps_suiteP (X := ((cxOf C8.CX0 X.prog X.w X.K X.mg X.base Ng x sg g cdg X.A X.stack s H C8.E0).nox).suite b ((b, oe) :: pn)) (List.mem_cons_self) hz hf F ⟨by have := hr.dp; show X.A.depth + 1 + 3 * k + 5 < recursionLimit; omega, by have := hr.un; show X.A.units + 3 + 16 * k + 200 < cLine; omega⟩ hgp hmp hk hb hi (.inl hle) hdp hd hcd
  · refine ⟨_, fun cls d σ' H' ⟨b, e1, e2, e3⟩ => ⟨b, e1, fun hb a ha => ⟨fun hl => ?_, e2 hb⟩, fun hb => e3 hb⟩, h0 f, hc, h⟩
    rw [List.getElem?_set_self (by rw [List.length_set] at hl; exact hl)]
end
end DL

/-! DL51: the head by facts: a Hook over all that stands behind the top (the empty tables of code objects left out); facts as Bools of it -/
namespace DL
open PySem PySem.Spec PyProof.Rows L2
/-- all that stands, by a reader and a count -/
def frN (g : Addr → Option Obj) (n : Nat) : PySem.W.Frag := He.frT g (List.range n)
/-- what the end leans on: the defs, the Bools, the tables -/
structure SaysK (fn : List He5.DefA) (ex : PySem.W.Frag → Bool) (tf : List He.Defn) (h : Heap) (K : PySem.W.Frag) : Prop where
  dv : fn.map (fun d => He5.fnA K (d.at_ K)) = fn.map He5.DefA.val
  ok : fn.all (fun d => d.ok K) = true
  bs : ex K = true
  hd : ∀ p ∈ tf, PySem.W.codeHdIn K (He.cT K p).1 (He.cT K p).2 = true
  out : ∀ p ∈ tf, K.lookup (He.cT K p).2 = none
  empty : ∀ p ∈ tf, h.get? (He.cT K p).2 = some { cls := .none, data := .fields #[] }
abbrev AlK : Type := List He5.FnW × Bool
def obsK (fn : List He5.DefA) (ex : PySem.W.Frag → Bool) (tf : List He.Defn) (g : Addr → Option Obj) (n : Nat) : AlK :=
  (fn.map fun d => He5.fnA (frN g n) (d.at_ (frN g n)), fn.all (fun d => d.ok (frN g n)) && (ex (frN g n) && He.tabsB g tf (frN g n)))
theorem saysK_of {fn : List He5.DefA} {ex : PySem.W.Frag → Bool} {tf : List He.Defn} {h : Heap} (e : obsK fn ex tf h.get? h.objs.size = (fn.map He5.DefA.val, true)) : SaysK fn ex tf h (frN h.get? h.objs.size) := by
  obtain ⟨e1, e2⟩ := Prod.mk.inj e
  obtain ⟨z1, z2⟩ := He.ba e2
  obtain ⟨z3, z4⟩ := He.ba z2
  have each : ∀ p ∈ tf, PySem.W.codeHdIn (frN h.get? h.objs.size) (He.cT (frN h.get? h.objs.size) p).1 (He.cT (frN h.get? h.objs.size) p).2 = true ∧ ∃ o, h.get? (He.cT (frN h.get? h.objs.size) p).2 = some o ∧ He.emptyTab o = true := fun p hp => by
    obtain ⟨y1, y2⟩ := He.ba (List.all_eq_true.mp z4 p hp)
    refine ⟨y1, ?_⟩
    cases q : h.get? (He.cT (frN h.get? h.objs.size) p).2 with
    | none => rw [q] at y2; cases y2
    | some o => rw [q] at y2; exact ⟨o, rfl, y2⟩
  refine ⟨e1, z1, z3, fun p hp => (each p hp).1, fun p hp => ?_, fun p hp => ?_⟩
  · obtain ⟨_, o, q, z⟩ := each p hp
    exact He.frT_none q z
  · obtain ⟨_, o, q, z⟩ := each p hp
    rw [q, He.emptyTab_eq z]
def hookK (fn : List He5.DefA) (ex : PySem.W.Frag → Bool) (tf : List He.Defn) : PySem.W.Hook where
  α := AlK
  obs := fun s => obsK fn ex tf s.heap.get? s.heap.objs.size
  val := fun _ => (fn.map He5.DefA.val, true)
  says := fun _ h => ∃ K : PySem.W.Frag, K.In h ∧ SaysK fn ex tf h K
  of := fun _ _ e => ⟨_, He.frT_in, saysK_of e⟩
  keeps := fun _ _ _ ⟨K, x, c⟩ k => ⟨K, PySem.W.Frag.In.keeps x k, ⟨c.dv, c.ok, c.bs, c.hd, c.out, fun p hp => k _ _ (c.empty p hp)⟩⟩
def obK (fn : List He5.DefA) (ex : PySem.W.Frag → Bool) (tf : List He.Defn) (s : PySem.W.SharedT) : AlK := obsK fn ex tf (HandSHeadRun.getT s) s.n
theorem obK_eq {fn : List He5.DefA} {ex : PySem.W.Frag → Bool} {tf : List He.Defn} (s : PySem.W.SharedT) : obK fn ex tf s = (hookK fn ex tf).obs s.abs := by
  have e : HandSHeadRun.getT s = s.abs.heap.get? := funext (HandSHeadRun.getT_eq s)
  have n : s.abs.heap.objs.size = s.n := PySem.W.absHeap_size s.tree s.n s.life
  show obsK fn ex tf (HandSHeadRun.getT s) s.n = obsK fn ex tf s.abs.heap.get? s.abs.heap.objs.size
  rw [e, n]
section
variable {fn : List He5.DefA} {ex : PySem.W.Frag → Bool} {tf : List He.Defn} {h : Heap} {K : PySem.W.Frag}
theorem SaysK.def_ (c : SaysK fn ex tf h K) (i : Nat) {d : He5.DefA} (hd : fn[i]? = some d := by rfl) : ∃ fd, FunD K d.name d.qual d.params d.body d.scope (d.dvs K) (d.kws K) (d.at_ K) fd := by
  have e : (fn.map fun d => He5.fnA K (d.at_ K))[i]? = (fn.map He5.DefA.val)[i]? := by rw [c.dv]
  rw [List.getElem?_map, List.getElem?_map, hd] at e
  exact He5.DefA.funD (Option.some.inj e) (List.all_eq_true.mp c.ok d (List.mem_of_getElem? hd))
end
/-- facts in lots -/
def allB (ls : List (List Bool)) : Bool := ls.all fun l => l.all id
theorem allB_at {ls : List (List Bool)} (h : allB ls = true) (i j : Nat) {l : List Bool} {b : Bool} (hi : ls[i]? = some l := by rfl) (hj : l[j]? = some b := by rfl) : b = true :=
  List.all_eq_true.mp (List.all_eq_true.mp h l (List.mem_of_getElem? hi)) b (List.mem_of_getElem? hj)
/-! ### what stands where, by names -/
def tyA (K : PySem.W.Frag) (v : Value) : Value := (PySem.W.typeIn K v).getD .none
def recA (K : PySem.W.Frag) (a : Addr) (t : String) : Addr := match PySem.W.recIn K a t with
  | some (.ref f :: _) => f
  | _ => 0
def recR (K : PySem.W.Frag) (a : Addr) (t : String) : List Value := match PySem.W.recIn K a t with
  | some (_ :: r) => r
  | _ => []
def recB (K : PySem.W.Frag) (a : Addr) (t : String) : Bool := match PySem.W.recIn K a t with
  | some (.ref _ :: _) => true
  | _ => false
theorem recB_ok {K : PySem.W.Frag} {a : Addr} {t : String} (h : recB K a t = true) : PySem.W.recIn K a t = some (.ref (recA K a t) :: recR K a t) := by
  unfold recB recA recR at *
  split at h
  · rename_i f r e; rw [e]
  · cases h
/-- the object of a static method -/
def fcG (K : PySem.W.Frag) (C : Addr) (m : Str) : Addr := match PySem.W.findCls K (.ref C) (tyA K (.ref C)) m with
  | some (.get (.builtin "staticmethod.__get__") (.ref a) .none (.ref _)) => a
  | _ => 0
def fcB (K : PySem.W.Frag) (C : Addr) (m : Str) : Bool := match PySem.W.findCls K (.ref C) (tyA K (.ref C)) m with
  | some (.get (.builtin g) (.ref _) .none (.ref D)) => g == "staticmethod.__get__" && D == C
  | _ => false
theorem fcB_ok {K : PySem.W.Frag} {C : Addr} {m : Str} (h : fcB K C m = true) : PySem.W.findCls K (.ref C) (tyA K (.ref C)) m = some (.get (.builtin "staticmethod.__get__") (.ref (fcG K C m)) .none (.ref C)) := by
  unfold fcB at h
  unfold fcG
  split at h
  · rename_i g a D e
    obtain ⟨h1, h2⟩ := He.ba h
    obtain rfl := beq_iff_eq.mp h1
    obtain rfl := beq_iff_eq.mp h2
    rw [e] <;> rfl
  · cases h
/-- a value found on a class -/
def fvV (K : PySem.W.Frag) (v : Value) (t : Value) (m : Str) : Value := match PySem.W.findCls K v t m with
  | some (.val u) => u
  | _ => .none
def fvB (K : PySem.W.Frag) (v : Value) (t : Value) (m : Str) : Bool := match PySem.W.findCls K v t m with
  | some (.val _) => true
  | _ => false
theorem fvB_ok {K : PySem.W.Frag} {v t : Value} {m : Str} (h : fvB K v t m = true) : PySem.W.findCls K v t m = some (.val (fvV K v t m)) := by
  unfold fvB fvV at *
  split at h
  · rename_i u e; rw [e]
  · cases h
theorem fvE_ok {K : PySem.W.Frag} {v t u : Value} {m : Str} (h : (fvB K v t m && decide (fvV K v t m = u)) = true) : PySem.W.findCls K v t m = some (.val u) := by
  obtain ⟨h1, h2⟩ := He.ba h
  rw [← of_decide_eq_true h2]
  exact fvB_ok h1
/-- a value found on an instance's class -/
def fiV (K : PySem.W.Frag) (C : Addr) (m : Str) : Value := match PySem.W.findIn K (.ref C) m with
  | some (some u) => u
  | _ => .none
def fiB (K : PySem.W.Frag) (C : Addr) (m : Str) : Bool := match PySem.W.findIn K (.ref C) m with
  | some (some _) => true
  | _ => false
theorem fiB_ok {K : PySem.W.Frag} {C : Addr} {m : Str} (h : fiB K C m = true) : PySem.W.findIn K (.ref C) m = some (some (fiV K C m)) := by
  unfold fiB fiV at *
  split at h
  · rename_i u e; rw [e]
  · cases h
def isIntV (i : Int) : Value → Bool
  | .int j _ => decide (j = i)
  | _ => false
theorem isIntV_ok {i : Int} {v : Value} (h : isIntV i v = true) : ∃ t, v = .int i t := by
  cases v with
  | int j t => exact ⟨t, by rw [of_decide_eq_true (show decide (j = i) = true from h)]⟩
  | _ => cases h
def isStrV (x : Str) : Value → Bool
  | .str y _ => decide (y = x)
  | _ => false
theorem isStrV_ok {x : Str} {v : Value} (h : isStrV x v = true) : ∃ t, v = .str x t := by
  cases v with
  | str y t => exact ⟨t, by rw [of_decide_eq_true (show decide (y = x) = true from h)]⟩
  | _ => cases h
/-- a module's constant -/
def gvV (K : PySem.W.Frag) (x : Str) : Value := match PySem.W.nsIn K mainGlobals x with
  | some (some v) => v
  | _ => .none
def gvB (K : PySem.W.Frag) (x : Str) : Bool := match PySem.W.nsIn K mainGlobals x with
  | some (some _) => true
  | _ => false
theorem gvB_ok {K : PySem.W.Frag} {x : Str} (h : gvB K x = true) : PySem.W.nsIn K mainGlobals x = some (some (gvV K x)) := by
  unfold gvB gvV at *
  split at h
  · rename_i u e; rw [e]
  · cases h
/-- a tuple of texts -/
def tupB (K : PySem.W.Frag) (a : Addr) (xs : List Str) : Bool := match K.lookup a with
  | some ⟨.type c, _, .seq its _, _⟩ => c == "tuple" && (its.toList.length == xs.length && (its.toList.zip xs).all fun q => isStrV q.2 q.1)
  | _ => false
theorem strs_ok : ∀ {xs : List Str} {its : List Value}, (its.length == xs.length) = true → (its.zip xs).all (fun q => isStrV q.2 q.1) = true → Vals (xs.map V.str) its
  | [], [], _, _ => .nil
  | [], _ :: _, h, _ => by simp at h
  | _ :: _, [], h, _ => by simp at h
  | x :: xs, v :: its, h, q => by
    rw [List.zip_cons_cons, List.all_cons] at q
    obtain ⟨q1, q2⟩ := He.ba q
    obtain ⟨t, e⟩ := isStrV_ok (show isStrV x v = true from q1)
    subst e
    exact .cons ⟨t, rfl⟩ (strs_ok (by simpa using h) q2)
theorem tupB_ok {K : PySem.W.Frag} {a : Addr} {xs : List Str} (h : tupB K a xs = true) (hs : xs.length ≤ sizeLine) : TupS K a xs := by
  unfold tupB at h
  split at h
  · rename_i c od its n sl e
    obtain ⟨h1, h⟩ := He.ba h
    obtain ⟨h2, h3⟩ := He.ba h
    obtain rfl := beq_iff_eq.mp h1
    have hl : its.toList.length = xs.length := beq_iff_eq.mp h2
    exact ⟨_, its, n, e, rfl, rfl, by rw [← Array.length_toList, hl]; exact hs, strs_ok h2 h3⟩
  · cases h
/-- an own exception's class -/
def xclB (K : PySem.W.Frag) (C : Addr) (bm : List Value) (newId : String) : Bool := match K.lookup C with
  | some ⟨.type t, _, .cls cd, sl⟩ => t == "type" && (cd.hasDict && (!cd.hasDel && (decide (cd.mro = .ref C :: bm) && (match sl.toList with
    | [_, _, _, _, some (.builtin n), _] => n == newId
    | _ => false))))
  | _ => false
theorem xclB_ok {K : PySem.W.Frag} {C : Addr} {bm : List Value} {newId : String} (h : xclB K C bm newId = true) :
    ∃ nm q N bs sn sub ab col dd k0 k1 k2 k3 k5, K.lookup C = some (excClassObj nm q C N bs bm true sn sub ab col dd k0 k1 k2 k3 k5 newId) := by
  unfold xclB at h
  split at h
  · rename_i t dd cd sl e
    obtain ⟨h1, h⟩ := He.ba h
    obtain ⟨h2, h⟩ := He.ba h
    obtain ⟨h3, h⟩ := He.ba h
    obtain ⟨h4, h5⟩ := He.ba h
    split at h5
    · rename_i k0 k1 k2 k3 n k5 es
      obtain ⟨nm, bs, mro, ns, qn, hd, sn, sub, ab, col, del⟩ := cd
      obtain rfl := beq_iff_eq.mp h1
      obtain rfl := beq_iff_eq.mp h5
      have e4 : mro = .ref C :: bm := of_decide_eq_true h4
      have e2 : hd = true := h2
      have e3 : del = false := by simpa using h3
      subst e4 e2 e3
      have el : sl = #[k0, k1, k2, k3, some (.builtin n), k5] := by
        obtain ⟨l⟩ := sl
        exact congrArg Array.mk es
      subst el
      exact ⟨nm, qn, ns, bs, sn, sub, ab, col, dd, k0, k1, k2, k3, k5, e⟩
    · cases h5
  · cases h
end DL

/-! DL52: what _law_try tells of an outcome, by data; a lambda's scope; a lambda made -/
namespace DL
open PySem L2 PySem.Spec PyProof.Rows LamX
/-! ### told -/
def partsCl : List (List Str × List Str) := [(["NotSquare", "Unlike", "NotMerging", "NothingLeft"], []), (["InvalidKinds"], ["side"]), (["InvalidRow", "InvalidText", "InvalidDeed", "InvalidCommand"], ["at"]), (["WrongRows"], ["number"]), (["WrongLengths"], ["one", "other"]),
  (["DuplicateName", "InvalidLook", "NotTied"], ["name"]), (["WrongKinds"], ["row"]), (["TooMany", "Full"], ["most"]), (["InvalidOrder"], ["name", "number"]), (["InvalidPage"], ["line"])]
def partsLast : List Str := ["value"]
def lksD (fs : List (Str × D)) : List Str → Option (List D)
  | [] => some []
  | n :: ns => match fs.lookup n, lksD fs ns with
    | some d, some ds => some (d :: ds)
    | _, _ => none
/-- an exception's code and what it has beside; xs: the classes that may come -/
def toldX (xs : List Str) (e : Exc) : Option (List D) := if xs.contains e.c = true then (match e.fs.lookup ("code" : Str) with
    | some (.str c) => (lksD e.fs (pick partsCl partsLast c)).map fun ds => .str c :: ds
    | _ => none) else none
def told (xs : List Str) : Out R → Out R
  | .ok (.t t) M => .ok (.t (.tup [.d (.str "value"), t])) M
  | .exc e M => (match toldX xs e with
    | some ds => .ok (.t (.tup (ds.map T.d))) M
    | none => .bad)
  | _ => .bad
theorem dpF_look {K : PySem.W.Frag} {mg : Mg} {F : Hp} {n : Str} {d : D} : ∀ {vs : List (Str × V)} {es : List (Str × D)}, DpF K mg F vs es → es.lookup n = some d → ∃ v, vs.lookup n = some v ∧ Dp K mg F v d
  | _, _, .nil, e => by cases e
  | _, _, .cons (f := f) h r, e => by
    rw [List.lookup_cons] at e ⊢
    split at e
    · cases e
      exact ⟨_, rfl, h⟩
    · exact dpF_look r e
theorem lks_of {K : PySem.W.Frag} {mg : Mg} {F : Hp} {vs : List (Str × V)} {es : List (Str × D)} (h : DpF K mg F vs es) : ∀ {ns : List Str} {ds : List D}, lksD es ns = some ds → ∃ xs, Lks vs ns xs ∧ DpL K mg F xs ds
  | [], _, e => by cases e; exact ⟨[], .nil, .nil⟩
  | n :: ns, ds, e => by
    unfold lksD at e
    split at e
    · rename_i d ds' e1 e2
      cases e
      obtain ⟨v, h1, h2⟩ := dpF_look h e1
      obtain ⟨xs, i1, i2⟩ := lks_of h e2
      exact ⟨v :: xs, .cons h1 i1, .cons h2 i2⟩
    · cases e
/-- what the handling leans on, of an exception's class c -/
structure TellC (K : PySem.W.Frag) (mg : Mg) (C1 C2 C3 : Addr) (c : Str) : Prop where
  ex : ∃ C, mg c = some (.ref C) ∧ PySem.W.exmAny K (.ref C) [.ref C1, .ref C2, .ref C3] = some true ∧ XfC K C ∧ PySem.W.findIn K (.ref C) "code" = some none ∧ ∀ n ∈ partsLast ++ partsCl.flatMap (·.2), PySem.W.findIn K (.ref C) n = some none
theorem pick_len (c : Str) : (pick partsCl partsLast c).length ≤ 2 := by
  have go : ∀ (l : List (List Str × List Str)) (last : List Str), (∀ p ∈ l, p.2.length ≤ 2) → last.length ≤ 2 → (pick l last c).length ≤ 2 := by
    intro l
    induction l with
    | nil => exact fun _ _ h => h
    | cons p r ih =>
      intro last h1 h2
      obtain ⟨ls, ns⟩ := p
      unfold pick
      split
      · exact h1 _ List.mem_cons_self
      · exact ih last (fun q hq => h1 q (List.mem_cons_of_mem _ hq)) h2
  exact go _ _ (by decide +kernel) (by decide +kernel)
theorem told_exc {K : PySem.W.Frag} {mg : Mg} {C1 C2 C3 : Addr} {xs : List Str} {Q : VK} {w : Wd} {H : Hp} {cls : Value} {d : Option Addr} {e : Exc} {ds : List D} (hx : ∀ c ∈ xs, TellC K mg C1 C2 C3 c) (x : XR K mg w H cls d e) (ht : toldX xs e = some ds)
    (h : ∀ (q : Addr) (H' : Hp) (vs : List V), Same H H' → H q = none → H' q = some (.tup vs) → DpL K mg w.F vs ds → Q (.ref q) H') :
    ∃ b, PySem.W.exmAny K cls [.ref C1, .ref C2, .ref C3] = some b ∧ (b = true → ToldE K partsCl partsLast cls d H Q) ∧ (b = false → False) := by
  unfold toldX at ht
  split at ht
  · rename_i hm
    obtain ⟨C, hC, hxm, T, hcode, hno⟩ := (hx e.c (List.contains_iff_mem.mp hm)).ex
    split at ht
    · rename_i c hc
      cases hl : lksD e.fs (pick partsCl partsLast c) with
      | none => rw [hl] at ht; cases ht
      | some ds' =>
        rw [hl] at ht
        cases ht
        obtain ⟨C', dx, vs, rfl, hC', rfl, hd, hf⟩ := x
        obtain rfl : C' = C := by rw [hC] at hC'; cases hC'; rfl
        obtain ⟨v, h1, h2⟩ := dpF_look hf hc
        obtain ⟨xs', i1, i2⟩ := lks_of hf hl
        obtain rfl : v = .str c := by cases h2; rfl
        refine ⟨true, hxm, fun _ => ⟨C', dx, vs, c, xs', rfl, rfl, T, hcode, hno, hd, h1, i1, ?_, fun q H' s n hq => h q H' _ s n hq (.cons (.str c) i2)⟩, fun z => by cases z⟩
        rw [i1.length]
        have := pick_len c
        exact Nat.le_trans (show _ ≤ 3 by omega) (by decide)
    · cases ht
  · cases ht
theorem ext_same {K : PySem.W.Frag} {mg : Mg} {w : Wd} {H H' : Hp} {M : Mst} {fs : List Addr} (m : MR K mg w H M) (s : Same H H') : Ext fs w H M w H' M ∧ MR K mg w H' M :=
  ⟨⟨Same.refl _, Nat.le_refl _, fun _ _ => rfl, fun a o e _ => s _ _ e, fun k hk a ha => .inr (.inl ⟨k, hk, ha⟩), fun _ h => .inl h, fun a h => by
      cases z : H a with
      | none => rfl
      | some o => rw [s _ _ z] at h; cases h⟩,
    ⟨m.sub.trans s, fun k t e => ⟨(m.obj k t e).1.stay (Same.refl _) fun a ha => ⟨((m.obj k t e).1.fp a ha).1, fun o ho => s _ _ ho⟩, (m.obj k t e).2⟩, m.dis⟩⟩
theorem told_post {X X' : Cx} {W : WX} {σ σ' : L2.St} {w : Wd} {H : Hp} {M : Mst} {C1 C2 C3 : Addr} {xs : List Str} {Q : VK} {o : Out R} (hK : X'.K = X.K) (hm : X'.mg = X.mg) (hx : ∀ c ∈ xs, TellC X.K X.mg C1 C2 C3 c) (p : Post X W σ [] w H M (told xs o) (CE X [] w H M Q)) :
    Post X' (fun cls d _ H' => ∃ b, PySem.W.exmAny X.K cls [.ref C1, .ref C2, .ref C3] = some b ∧ (b = true → ToldE X.K partsCl partsLast cls d H' Q) ∧ (b = false → False)) σ' [] w H M o
      (CE X' [] w H M fun v H1 => [V.str "value", v].length ≤ sizeLine ∧ ∀ p, H1 p = none → Q (.ref p) (upd H1 p (.tup [.str "value", v]))) := by
  cases o with
  | bad => exact p
  | ok r M' =>
    cases r with
    | h k => exact (show False from p).elim
    | t t =>
      intro w' H' e m v fp q hf
      rw [hK, hm] at m q
      refine ⟨by show 2 ≤ sizeLine; decide, fun a ha => ?_⟩
      have q2 : TRL X.K X.mg w'.F H' [.str "value", v] [.d (.str "value"), t] fp := by
        have := TRL.cons (f1 := []) (.d (.str ("value" : Str))) (TRL.cons q.1 .nil)
        rw [List.append_nil, List.nil_append] at this
        exact this
      refine p w' _ (e.trans0 (Ext.new m ha)) (m.new ha) _ (a :: fp) (RR.newT m ha q2 q.2.1 q.2.2) fun b hb => ?_
      rcases List.mem_cons.mp hb with rfl | hb
      · exact .inl (e.there _ ha)
      · exact hf b hb
  | exc x M' =>
    replace p : Post X W σ [] w H M (match toldX xs x with | some ds => Out.ok (R.t (T.tup (ds.map T.d))) M' | none => .bad) (CE X [] w H M Q) := p
    cases ht : toldX xs x with
    | none => rw [ht] at p; exact (show False from p).elim
    | some ds =>
      rw [ht] at p
      intro w' H' cls d e m xr
      rw [hK, hm] at m xr
      refine told_exc hx xr ht fun a H2 vs s hn hq hd => ?_
      obtain ⟨e2, m2⟩ := ext_same (fs := []) m s
      have nF : w'.F a = none := by
        cases z : w'.F a with
        | none => rfl
        | some o => rw [m.sub _ _ z] at hn; cases hn
      refine p w' H2 (e.trans0 e2) m2 _ [a] ⟨.tup hq nF hd.trees, by simp, fun b hb k hk z => ?_⟩ fun b hb => ?_
      · obtain rfl := List.mem_singleton.mp hb
        obtain ⟨t, ht⟩ : ∃ t, M'[k]? = some t := ⟨M'[k], List.getElem?_eq_getElem hk⟩
        obtain ⟨_, o, ho⟩ := (m.obj k t ht).1.fp _ z
        rw [hn] at ho; cases ho
      · obtain rfl := List.mem_singleton.mp hb
        exact .inl (e.there _ hn)
/-! ### a lambda's scope -/
/-- no cell of its own; its parameters are no names of the maker -/
structure LamP (N : List Str) (sc scope : Scope) : Prop where
  kind : scope.kind = .function
  co : scope.isCoroutine = false
  gen : scope.isGenerator = false
  own : ∀ y ∈ scope.names, y.2 ≠ .cell ∧ (y.2 = .local → y.1 ∉ N)
  free : ∀ y ∈ scope.names, y.2 = .free → sc.names.lookup y.1 = some .cell ∨ sc.names.lookup y.1 = some .free
def lamPB (N : List Str) (sc scope : Scope) : Bool :=
  decide (scope.kind = .function) && !scope.isCoroutine && !scope.isGenerator && scope.names.all fun y => !decide (y.2 = .cell) && (!decide (y.2 = .local) || !N.contains y.1) && (!decide (y.2 = .free) || decide (sc.names.lookup y.1 = some .cell) || decide (sc.names.lookup y.1 = some .free))
theorem lamP_by {N : List Str} {sc scope : Scope} (h : lamPB N sc scope = true) : LamP N sc scope := by
  unfold lamPB at h
  simp only [Bool.and_eq_true, Bool.or_eq_true, Bool.not_eq_true', decide_eq_true_eq, decide_eq_false_iff_not, List.all_eq_true] at h
  obtain ⟨⟨⟨h1, h2⟩, h3⟩, h4⟩ := h
  refine ⟨h1, h2, h3, fun y hy => ⟨(h4 y hy).1.1, fun e hm => ?_⟩, fun y hy e => ?_⟩
  · rcases (h4 y hy).1.2 with z | z
    · exact z e
    · rw [List.contains_iff_mem.mpr hm] at z; cases z
  · rcases (h4 y hy).2 with (z | z) | z
    · exact absurd e z
    · exact .inl z
    · exact .inr z
theorem LamP.has {X : Cx} {N : List Str} {scope : Scope} (L : LamP N X.env.scope scope) (ok : X.Ok) : ∀ y ∈ scope.names, y.2 = .free → ∃ c, X.env.cells.lookup y.1 = some c := fun y hy e => by
  rcases L.free y hy e with k | k
  · exact ok.has _ (.inl k)
  · exact ok.has _ (.inr k)
/-! ### a lambda made -/
theorem upd_id {H : Hp} {a : Addr} {o : HO} (h : H a = some o) : upd H a o = H := by
  funext b
  by_cases e : b = a
  · rw [e, upd_same, h]
  · rw [upd_ne e]
section
variable {X : Cx} {pins : List (Addr × Obj)} {σ : L2.St} {H : Hp} {s : Shared} {c P : Addr} {ps : Array Value} {dv : Option Addr} {params : Arguments} {body : Expr} {scope : Scope} {pos : Pos} {Q E : Value → Shared → Prop} {l : Lm}
/-- the abstract heap behind it -/
def lamH (H : Hp) (P c' f : Addr) (ps' : Array Value) (q : Str) (cl : List (Str × Addr)) (l : Lm) (dv : Option Addr) : Hp := upd (upd (upd H P (.tbl ps')) c' (CodeO c' q)) f (CloO f cl l c' dv)
structure LamMade (H : Hp) (P c' f : Addr) (ps ps' : Array Value) : Prop where
  nf : H f = none
  ok : H c' = none ∨ ∃ pos, codeAmong pos ps.toList = some (.ref c')
  cf : c' ≠ f
  Pf : P ≠ f
  Pc : P ≠ c'
  tr : TriplesOk ps'.toList
  am : ∀ (pos : Pos) (cv : Value), codeAmong pos ps'.toList = some cv → cv = .ref c' ∨ codeAmong pos ps.toList = some cv
theorem lam_tail (I : Inv X pins σ H s) (TB : TabB X.base X.mg c P) (hcode : X.env.code = .ref c) (hP : H P = some (.tbl ps)) (ht : TriplesOk ps.toList) (hl : l.q = X.env.qual ++ "<lambda>" ∧ l.ps = params ∧ l.bd = body ∧ l.sc = scope)
    (ha : ∀ (pos : Pos) (cv : Value), codeAmong pos ps.toList = some cv → ∃ c', cv = .ref c' ∧ H c' = some (CodeO c' l.q)) (hfree : ∀ y ∈ scope.names, y.2 = .free → ∃ c, X.env.cells.lookup y.1 = some c)
    (h : ∀ (f c' : Addr) (ps' : Array Value) (s' : Shared), LamMade H P c' f ps ps' → Inv X pins σ (lamH H P c' f ps' l.q X.env.cells l dv) s' → Q (.ref f) s') :
    wpAny (model X.prog X.w) X.A (makeTail "<lambda>" (X.env.qual ++ "<lambda>") params (.expr body) scope X.env (dflV dv) .none none pos pos.line) Q E s := by
  obtain ⟨hq, rfl, rfl, rfl⟩ := hl
  have bP : s.heap.BuiltinsAt X.mg P := TB.bm.keeps I.bk
  have hP' : s.heap.get? P = some { cls := .none, data := .fields ps } := I.hok P _ hP
  have put : ∀ {c' : Addr} {ps' : Array Value} {h' : Heap} {H1 : Hp} {tk tk' : Nat} {doc ctv : Value}, Inv X pins σ H1 { s with heap := h', toks := tk' } → c' ≠ h'.objs.size →
      Inv X pins σ (upd H1 h'.objs.size (CloO h'.objs.size X.env.cells l c' dv)) { s with heap := h'.push (PySem.W.kdv_obj "<lambda>" (X.env.qual ++ "<lambda>") l.ps (.expr l.bd) l.sc (cloFrom X.env.cells l.sc.names []) (dflV dv) doc ((X.mg "__name__").getD .none) c' ctv), toks := tk } := fun {c' ps' h' H1 tk tk' doc ctv} I1 _ => by
    refine I1.laid (t' := tk) (fun b u e => Heap.get?_push_of_some _ e) (Nat.le_refl _) ⟨⟨doc, (X.mg "__name__").getD .none, ctv, ?_⟩, ⟨_, Heap.get?_push_size _ rfl⟩, fun h1 h2 ⟨d, p, t, e⟩ st => ⟨d, p, t, st _ e⟩⟩
    rw [hq]
    exact Heap.get?_push_size _ rfl
  cases hc : codeAmong pos ps.toList with
  | none =>
    refine PySem.W.kdv_makeTail (mg := X.mg) (c := c) (P := P) (ps := ps) (closure_ok hfree) I.ok.glob (I.mod.glob.keeps I.bk) hcode (TB.code.keeps I.bk) hP' ht hc TB.gP bP fun c' ctv doc h' tk hx hge hlt hrec htb => ?_
    obtain ⟨c2, oc, vs, t, e2, hoc, hd, hv⟩ := hrec
    cases e2
    have nC : H c' = none := I.hok.fresh hge
    have lP : P < s.heap.objs.size := Heap.lt_size hP'
    have I1 := inv_table (t' := tk) (q := l.q) (more := #[rawInt pos.line, rawInt pos.col, .ref c']) (h' := h') I hP (fun b o hb e => hx b o hb e) htb hge ⟨oc, vs, t, hoc, hd, by rw [hq]; exact hv⟩
    have n1 : c' ≠ h'.objs.size := Nat.ne_of_lt hlt
    have n2 : P ≠ h'.objs.size := Nat.ne_of_lt (Nat.lt_of_lt_of_le lP (Nat.le_trans hge (Nat.le_of_lt hlt)))
    refine h h'.objs.size c' (ps ++ #[rawInt pos.line, rawInt pos.col, .ref c']) _ ⟨I.hok.fresh (Nat.le_trans hge (Nat.le_of_lt hlt)), .inl nC, n1, n2, ne_of_none hP nC, ?_, fun p' cv hcv => ?_⟩ (put (ps' := ps) I1 n1)
    · have eL : (ps ++ #[rawInt pos.line, rawInt pos.col, .ref c']).toList = ps.toList ++ [rawInt pos.line, rawInt pos.col, .ref c'] := by simp
      rw [eL]
      exact PySem.TriplesOk_snoc _ _ _ _ ht
    · have eL : (ps ++ #[rawInt pos.line, rawInt pos.col, .ref c']).toList = ps.toList ++ [rawInt pos.line, rawInt pos.col, .ref c'] := by simp
      rw [eL] at hcv
      rcases among_app _ ht hcv with z | z
      · exact .inr z
      · exact .inl z
  | some cv =>
    obtain ⟨c', e, hco⟩ := ha pos cv hc
    subst e
    refine PySem.W.kdv_makeTailHit (mg := X.mg) (c := c) (P := P) (ps := ps) (closure_ok hfree) I.ok.glob (I.mod.glob.keeps I.bk) hcode (TB.code.keeps I.bk) hP' ht hc bP fun ctv doc h' tk hx hsz => ?_
    have I1 : Inv X pins σ H { s with heap := h', toks := tk } := I.kept hx
    have n1 : c' ≠ h'.objs.size := Nat.ne_of_lt (Nat.lt_of_lt_of_le (I.hok.lt hco) hsz)
    have n2 : P ≠ h'.objs.size := Nat.ne_of_lt (Nat.lt_of_lt_of_le (Heap.lt_size hP') hsz)
    have I2 := put (ps' := ps) (tk := tk) (doc := doc) (ctv := ctv) I1 n1
    refine h h'.objs.size c' ps _ ⟨I.hok.fresh hsz, .inr ⟨_, hc⟩, n1, n2, fun z => ?_, ht, fun p' cv hcv => .inr hcv⟩ ?_
    · rw [z, hco] at hP
      exact codeO_ne ps (Option.some.inj hP)
    · have e1 : lamH H P c' h'.objs.size ps l.q X.env.cells l dv = upd H h'.objs.size (CloO h'.objs.size X.env.cells l c' dv) := by
        unfold lamH
        rw [upd_id hP, upd_id hco]
      rw [e1]
      exact I2
end
end DL

/-! DL53: a lambda made, by data; a lambda called, from any def behind its maker -/
namespace DL
open PySem L2 PySem.Spec PyProof.Rows LamX
section
variable {K : PySem.W.Frag} {mg : Mg} {w : Wd} {H H' F' : Hp} {M : Mst} {fs : List Addr}
/-- new frozen things, and the j-th tree as it stands now -/
theorem grow (j : Nat) (m : MR K mg w H M) (sF : Same w.F F') (sub : Same F' H') (new : ∀ a, F' a ≠ none → w.F a ≠ none ∨ H a = none) (keep : ∀ a o, H a = some o → (j < M.length → a ∉ w.φ j) → H' a = some o)
    (hj : ∀ t, M[j]? = some t → TR K mg F' H' (.ref (w.α j)) t (w.φ j)) (there : ∀ a, H' a = none → H a = none) :
    Ext fs w H M ⟨F', w.α, w.φ⟩ H' M ∧ MR K mg ⟨F', w.α, w.φ⟩ H' M := by
  refine ⟨⟨sF, Nat.le_refl _, fun _ _ => rfl, fun a o e n => keep a o e fun hj z => n (.inr (.inl ⟨j, hj, z⟩)), fun k hk a ha => .inr (.inl ⟨k, hk, ha⟩), fun a h => (new a h).imp id .inl, there⟩, ⟨sub, fun k t e => ?_, m.dis⟩⟩
  have hk : k < M.length := (List.getElem?_eq_some_iff.mp e).1
  by_cases z : k = j
  · subst z
    exact ⟨hj t e, (m.obj k t e).2⟩
  · refine ⟨(m.obj k t e).1.stay sF fun a ha => ⟨?_, fun o ho => keep a o ho fun h1 h2 => z (m.dis k j a hk h1 ha h2)⟩, (m.obj k t e).2⟩
    obtain ⟨h1, o, h2⟩ := (m.obj k t e).1.fp a ha
    cases q : F' a with
    | none => rfl
    | some u =>
      rcases new a (by rw [q]; exact fun z => nomatch z) with z2 | z2
      · exact absurd h1 z2
      · rw [h2] at z2; cases z2
/-- a new frozen thing -/
theorem grow1 {a : Addr} {o : HO} (m : MR K mg w H M) (hn : H a = none) : Ext fs w H M ⟨upd w.F a o, w.α, w.φ⟩ (upd H a o) M ∧ MR K mg ⟨upd w.F a o, w.α, w.φ⟩ (upd H a o) M := by
  have nF : w.F a = none := by
    cases z : w.F a with
    | none => rfl
    | some u => rw [m.sub _ _ z] at hn; cases hn
  refine grow M.length m (same_upd nF) (fun b u e => ?_) (fun b h => ?_) (fun b u e _ => by rw [upd_ne (ne_of_none e hn)]; exact e) (fun t e => by simp at e) fun b e => ?_
  · by_cases hb : b = a
    · subst hb; rw [upd_same] at e ⊢; exact e
    · rw [upd_ne hb] at e ⊢; exact m.sub _ _ e
  · by_cases hb : b = a
    · subst hb; exact .inr hn
    · rw [upd_ne hb] at h; exact .inl h
  · by_cases hb : b = a
    · subst hb; rw [upd_same] at e; cases e
    · rw [upd_ne hb] at e; exact e
theorem lam_ghost {j : Nat} {x : Str} {c' f : Addr} {ps ps' : Array Value} {cl : List (Str × Addr)} {l : Lm} {dv : Option Addr} (m : MR K mg w H M) (hj : M[j]? = some (.tbl x l.q)) (t4 : ∀ (pos : Pos) (cv : Value), codeAmong pos ps.toList = some cv → ∃ c', cv = .ref c' ∧ w.F c' = some (CodeO c' l.q))
    (L : LamMade H (w.α j) c' f ps ps') :
    ∃ w', Ext fs w H M w' (lamH H (w.α j) c' f ps' l.q cl l dv) M ∧ MR K mg w' (lamH H (w.α j) c' f ps' l.q cl l dv) M ∧ w'.F f = some (CloO f cl l c' dv) ∧ w'.F c' = some (CodeO c' l.q) ∧ Same w.F w'.F := by
  have q := (m.obj j _ hj).1
  have hl : j < M.length := (List.getElem?_eq_some_iff.mp hj).1
  obtain ⟨n1, n2⟩ : w.F (w.α j) = none ∧ w.φ j = [w.α j] := by
    generalize hv : V.ref (w.α j) = v at q
    generalize w.φ j = fp at q ⊢
    cases q with
    | tbl t h n o c => cases hv; exact ⟨n, rfl⟩
  have tb : w.α j = (He.cT K (x, none)).2 := by
    generalize hv : V.ref (w.α j) = v at q
    generalize w.φ j = fp at q
    cases q with
    | tbl t h n o c => cases hv; exact t
  have hc : H c' = none ∨ w.F c' = some (CodeO c' l.q) := L.ok.imp id fun ⟨p, z⟩ => by
    obtain ⟨c2, e1, e2⟩ := t4 p _ z
    cases e1; exact e2
  have hF : ∀ (pos : Pos) (cv : Value), codeAmong pos ps'.toList = some cv → cv = .ref c' ∨ ∃ c2, cv = .ref c2 ∧ w.F c2 = some (CodeO c2 l.q) := fun p cv z => (L.am p cv z).imp id (t4 p cv)
  have nf : ∀ {a : Addr}, H a = none → w.F a = none := fun {a} h => by
    cases z : w.F a with
    | none => rfl
    | some u => rw [m.sub _ _ z] at h; cases h
  have s1 : Same w.F (upd w.F c' (CodeO c' l.q)) := fun b o e => by
    by_cases hb : b = c'
    · subst hb
      rcases hc with z | z
      · rw [nf z] at e; cases e
      · rw [upd_same, ← z, e]
    · rw [upd_ne hb]; exact e
  have s2 : Same (upd w.F c' (CodeO c' l.q)) (upd (upd w.F c' (CodeO c' l.q)) f (CloO f cl l c' dv)) := same_upd (by rw [upd_ne (Ne.symm L.cf)]; exact nf L.nf)
  have atc : upd (upd w.F c' (CodeO c' l.q)) f (CloO f cl l c' dv) c' = some (CodeO c' l.q) := by rw [upd_ne L.cf, upd_same]
  have hP : lamH H (w.α j) c' f ps' l.q cl l dv (w.α j) = some (.tbl ps') := by unfold lamH; rw [upd_ne L.Pf, upd_ne L.Pc, upd_same]
  have hkeep : ∀ a o, H a = some o → a ≠ w.α j → lamH H (w.α j) c' f ps' l.q cl l dv a = some o := fun a o e n => by
    unfold lamH
    rw [upd_ne (ne_of_none e L.nf)]
    by_cases hb : a = c'
    · subst hb
      rcases hc with z | z
      · rw [z] at e; cases e
      · rw [upd_same, ← e, m.sub _ _ z]
    · rw [upd_ne hb, upd_ne n]; exact e
  have sub1 : Same (upd (upd w.F c' (CodeO c' l.q)) f (CloO f cl l c' dv)) (lamH H (w.α j) c' f ps' l.q cl l dv) := fun a o e => by
    by_cases hb : a = f
    · subst hb; rw [upd_same] at e; unfold lamH; rw [upd_same]; exact e
    · rw [upd_ne hb] at e
      by_cases hb2 : a = c'
      · subst hb2; rw [upd_same] at e; unfold lamH; rw [upd_ne hb, upd_same]; exact e
      · rw [upd_ne hb2] at e
        exact hkeep a o (m.sub _ _ e) fun z => by rw [z, n1] at e; cases e
  have new1 : ∀ a, upd (upd w.F c' (CodeO c' l.q)) f (CloO f cl l c' dv) a ≠ none → w.F a ≠ none ∨ H a = none := fun a h => by
    by_cases hb : a = f
    · subst hb; exact .inr L.nf
    · rw [upd_ne hb] at h
      by_cases hb2 : a = c'
      · subst hb2
        rcases hc with z | z
        · exact .inr z
        · exact .inl (by rw [z]; exact fun z => nomatch z)
      · rw [upd_ne hb2] at h; exact .inl h
  have tab1 : ∀ t, M[j]? = some t → TR K mg (upd (upd w.F c' (CodeO c' l.q)) f (CloO f cl l c' dv)) (lamH H (w.α j) c' f ps' l.q cl l dv) (.ref (w.α j)) t (w.φ j) := fun t e => by
    rw [hj] at e
    cases e
    rw [n2]
    refine .tbl tb hP ?_ L.tr fun p' cv h => ?_
    · rw [upd_ne L.Pf, upd_ne L.Pc]; exact n1
    · rcases hF p' cv h with z | ⟨c2, z, z2⟩
      · exact ⟨c', z, atc⟩
      · exact ⟨c2, z, (s1.trans s2) _ _ z2⟩
  have th1 : ∀ a, lamH H (w.α j) c' f ps' l.q cl l dv a = none → H a = none := fun a e => by
    unfold lamH at e
    by_cases hb : a = f
    · subst hb; exact L.nf
    · rw [upd_ne hb] at e
      by_cases hb2 : a = c'
      · subst hb2; rw [upd_same] at e; cases e
      · rw [upd_ne hb2] at e
        by_cases hb3 : a = w.α j
        · subst hb3; rw [upd_same] at e; cases e
        · rw [upd_ne hb3] at e; exact e
  obtain ⟨e1, m1⟩ := grow (fs := fs) j m (s1.trans s2) sub1 new1 (fun a o e n => hkeep a o e fun z => n hl (by rw [n2, z]; exact List.mem_singleton_self _)) tab1 th1
  exact ⟨_, e1, m1, upd_same, atc, s1.trans s2⟩
end
/-- what the maker's context owes: its code object and the table -/
structure MkX (X : Cx) (x : Str) : Prop where
  code : X.env.code = .ref (He.cT X.K (x, none)).1
  tab : TabB X.base X.mg (He.cT X.K (x, none)).1 (He.cT X.K (x, none)).2
section
variable {X : Cx} {j k n : Nat} {x : Str} {params : Arguments} {body : Expr} {scope : Scope} {pos p : Pos} {l : Lm} {L : Addr}
theorem tbl_at {w : Wd} {H : Hp} {M : Mst} {q : Str} (m : MR X.K X.mg w H M) (hj : M[j]? = some (.tbl x q)) : w.α j = (He.cT X.K (x, none)).2 ∧ ∃ ps : Array Value, H (w.α j) = some (.tbl ps) ∧ TriplesOk ps.toList ∧ ∀ (pos : Pos) (cv : Value), codeAmong pos ps.toList = some cv → ∃ c', cv = .ref c' ∧ w.F c' = some (CodeO c' q) := by
  have z := (m.obj j _ hj).1
  generalize hv : V.ref (w.α j) = v at z
  generalize w.φ j = fp at z
  cases z with
  | tbl t h n o c => cases hv; exact ⟨t, _, h, o, c⟩
/-- the reading of a lambda's making -/
def tLamD (X : Cx) (j : Nat) (x : Str) (l : Lm) (L : Addr) : TE := fun σ H Q => ∃ w M, MR X.K X.mg w H M ∧ M[j]? = some (.tbl x l.q) ∧ ∀ w' H' f c' dv, Ext [] w H M w' H' M → MR X.K X.mg w' H' M → LamF w'.F L f c' dv l → Q (.ref f) H'
theorem lam_core {pins : List (Addr × Obj)} {σ : L2.St} {H : Hp} {s : Shared} {Q : VK} {dv : Option Addr} {w : Wd} {M : Mst} (I : Inv X pins σ H s) (mk : MkX X x) (hl : l.q = X.env.qual ++ "<lambda>" ∧ l.ps = params ∧ l.bd = body ∧ l.sc = scope) (hL : l.cells L = X.env.cells) (S : LamP X.N X.env.scope scope)
    (m : MR X.K X.mg w H M) (hj : M[j]? = some (.tbl x l.q)) (hd0 : l.dx = none → dv = none) (hd1 : l.dx ≠ none → ∃ t, dv = some t ∧ w.F t = some (.tup [.int 0])) (h : ∀ w' H' f c', Ext [] w H M w' H' M → MR X.K X.mg w' H' M → LamF w'.F L f c' dv l → Q (.ref f) H') :
    wpAny (model X.prog X.w) X.A (makeTail "<lambda>" (X.env.qual ++ "<lambda>") params (.expr body) scope X.env (dflV dv) .none none pos pos.line) (EP X pins σ Q) X.xe s := by
  obtain ⟨t1, ps, t2, t3, t4⟩ := tbl_at m hj
  rw [t1] at t2
  refine lam_tail I mk.tab mk.code t2 t3 hl (fun p cv z => (t4 p cv z).imp fun c' q => ⟨q.1, m.sub _ _ q.2⟩) (S.has I.ok) fun f c' ps' s' md I' => ?_
  rw [← t1] at md I'
  obtain ⟨w', e', m', f1, f2, sF⟩ := lam_ghost (fs := []) (cl := X.env.cells) (dv := dv) m hj t4 md
  exact ⟨.ref f, _, I', rfl, h w' _ f c' e' m' ⟨by rw [hL]; exact f1, f2, hd0, fun z => (hd1 z).imp fun t q => ⟨q.1, sF _ _ q.2⟩⟩⟩
end
end DL

/-! DL54: the two forms of a lambda; its body's context; _law_try called with it -/
namespace DL
open PySem L2 PySem.Spec PyProof.Rows LamX
section
variable {X : Cx} {j k : Nat} {x n : Str} {params : Arguments} {body : Expr} {scope : Scope} {pos p : Pos} {l : Lm} {L : Addr}
theorem pe_lam0 (mk : MkX X x) (hl : l.q = X.env.qual ++ "<lambda>" ∧ l.ps = params ∧ l.bd = body ∧ l.sc = scope) (hL : l.cells L = X.env.cells) (S : LamP X.N X.env.scope scope) (hx : l.dx = none) (hdef : defaultsOf params X.env = ([], [])) :
    PE X (.Lambda params body scope pos) (tLamD X j x l L) := by
  refine ⟨fun pins s σ H Q I ⟨w, M, m, hj, h⟩ => PySem.W.kla_eval hdef ?_⟩
  rw [PySem.makeFunction_eq]
  simp only [List.zip_nil_right, List.filterMap_nil, List.isEmpty_nil, if_true, pure_bind]
  exact lam_core (dv := none) I mk hl hL S m hj (fun _ => rfl) (fun z => absurd hx z) fun w' H' f c' e' m' lf => h w' H' f c' none e' m' lf
theorem pe_lam1 {kt : Nat} {p1 : Pos} (mk : MkX X x) (hl : l.q = X.env.qual ++ "<lambda>" ∧ l.ps = params ∧ l.bd = body ∧ l.sc = scope) (hL : l.cells L = X.env.cells) (S : LamP X.N X.env.scope scope) (hx : l.dx = some n) (hd : params.defaults = [.Constant (.int 0) kt p1]) (hk0 : params.kw_defaults = []) :
    PE X (.Lambda params body scope pos) (tLamD X j x l L) := by
  refine ⟨fun pins s σ H Q I ⟨w, M, m, hj, h⟩ => PySem.W.kdv_lam (by rw [hd]; rfl) hk0 ?_⟩
  rw [hd]
  refine PySem.W.kdv_all1 (wpAny_Constant_int (PySem.W.kdv_all0 ?_))
  rw [PySem.makeFunction_eq]
  simp only [List.zip_nil_right, List.filterMap_nil, List.isEmpty_nil, List.isEmpty_cons, if_true, Bool.false_eq_true, if_false, pure_bind]
  refine wpAny_bind (wpAny_newTextTuple ?_)
  have I1 : Inv X pins σ (upd H s.heap.objs.size (.tup [.int 0])) { s with heap := s.heap.push { cls := .type "tuple", data := .seq [Value.int 0 s.toks].toArray }, toks := s.toks + 1 } :=
    I.laid (t' := s.toks + 1) (fun b u e => Heap.get?_push_of_some _ e) (Nat.le_refl _) ⟨by show 1 ≤ sizeLine; decide, [.int 0 s.toks], .cons ⟨_, rfl⟩ .nil, ⟨_, Heap.get?_push_size _ rfl, rfl, ⟨_, rfl⟩⟩⟩
  have hn : H s.heap.objs.size = none := I.hok.fresh (Nat.le_refl _)
  obtain ⟨e1, m1⟩ := grow1 (fs := []) (o := .tup [.int 0]) m hn
  exact lam_core (dv := some s.heap.objs.size) I1 mk hl hL S m1 hj (fun z => by rw [hx] at z; cases z) (fun _ => ⟨_, rfl, upd_same⟩) fun w' H' f c' e' m' lf => h w' H' f c' _ (e1.trans0 e') m' lf
end
/-! ### the body -/
/-- what a call of it binds -/
def BindL (l : Lm) : Prop := match l.dx with
  | none => ∀ (cl : List (Str × Addr)) (doc pm cv ctv : Value), bindArgs (PySem.W.kdv_fn "<lambda>" l.q l.ps (.expr l.bd) l.sc cl .none doc pm cv ctv) ⟨[], []⟩ = pure []
  | some y => l.sc.names.lookup y = some .local ∧ ∀ (T : Addr) (cl : List (Str × Addr)) (doc pm cv ctv : Value) (t : Tok), ∃ k, bindArgs (PySem.W.kdv_fn "<lambda>" l.q l.ps (.expr l.bd) l.sc cl (.ref T) doc pm cv ctv) ⟨[], []⟩ = seqItems? (.ref T) >>= k ∧ k (some #[.int 0 t]) = pure [(y, .int 0 t)]
section
variable {X : Cx} {pins : List (Addr × Obj)} {σ : L2.St} {H HZ : Hp} {s s1 : Shared}
/-- the maker's cells are as they were -/
def CellsKept (X : Cx) (h : Heap) (HZ : Hp) (h1 : Heap) : Prop := ∀ y c, X.env.cells.lookup y = some c → ∀ o, h.get? c = some o → (∃ sl, h1.get? c = some { o with slots := sl }) ∧ HZ c = none
theorem kept_un {fs : List Addr} (I : Inv X pins σ H s) (un : Un fs [] H HZ s.heap s1.heap) : CellsKept X s.heap HZ s1.heap := fun y c e o ho => ⟨un.any ho (I.freeC y c e) (fun z => nomatch z), un.free c o ho (I.freeC y c e) (fun z => nomatch z)⟩
theorem _root_.L2.Env0.down {P : Program} {w : World} {K : PySem.W.Frag} {mg : Mg} {base base2 : Heap} {A : Around} {outer : List Env} {s : Shared} {H : Hp} (e0 : Env0 P w K mg base2 A outer s H) (m : Mod K mg base) (hb : ∀ b o, base.get? b = some o → base2.get? b = some o) (hz : base.objs.size ≤ base2.objs.size) : Env0 P w K mg base A outer s H :=
  ⟨e0.frames, m, fun b o e => e0.bs b o (hb b o e), Nat.le_trans hz e0.bsz, by
    have all : ∀ l : List Env, s.heap.FunFrames base2 l → s.heap.FunFrames base l := by
      intro l
      induction l with
      | nil => exact fun _ => trivial
      | cons env r ih =>
        intro ⟨h1, ⟨L, o, h2, h3, h4, h5⟩, h6⟩
        refine ⟨h1, ⟨L, o, h2, ?_, h4, h5⟩, ih h6⟩
        cases z : base.get? L with
        | none => rfl
        | some u => rw [hb _ _ z] at h3; cases h3
    exact all _ e0.funs, e0.frf, e0.hok, e0.bare⟩
theorem lam_start3 {A : Around} {outer : List Env} {E : XK} {scope : Scope} {f c' : Addr} {h₁ : Heap} {tk : Nat} {m1 : Str → Option Value} (I : Inv X pins σ H s) (L : LamP X.N X.env.scope scope) (e0 : Env0 X.prog X.w X.K X.mg X.base A outer s1 HZ) (hd : A.handled = none)
    (un : CellsKept X s.heap HZ s1.heap) (hns : h₁.Ns s1.heap.objs.size m1) (kp : ∀ b o, s1.heap.get? b = some o → h₁.get? b = some o) :
    Inv (lamCx X A outer s1 HZ E scope f c') [] σ HZ { s1 with heap := h₁, toks := tk } := by
  have hfree := L.has I.ok
  have cm : ∀ {y c}, (cloFrom X.env.cells scope.names []).lookup y = some c → X.env.cells.lookup y = some c := fun {y c} e => by
    rcases cloFrom_mem (PySem.mem_of_lookup e) with hm | ⟨h1, h2⟩
    · cases hm
    · obtain ⟨c1, hc⟩ := hfree _ h1 rfl
      replace hc : X.env.cells.lookup y = some c1 := hc
      rw [show c = c1 by rw [h2, hc] <;> rfl]
      exact hc
  have look : ∀ {y}, scope.names.lookup y = some .free → ∃ c, (cloFrom X.env.cells scope.names []).lookup y = some c := fun {y} hl => mem_lookup (cloFrom_has (cells := X.env.cells) (acc := []) (PySem.mem_of_lookup hl : (y, NameKind.free) ∈ scope.names))
  have cellK : ∀ {y : Str} {c : Addr} {v : Option Value}, X.env.cells.lookup y = some c → s.heap.IsCell c v → h₁.IsCell c v := fun {y c v} n ⟨o, ho, hd⟩ => by
    obtain ⟨sl, q⟩ := (un y c n o ho).1
    exact ⟨_, kp _ _ q, hd⟩
  have noA : ∀ b : Addr, b ∉ (lamCx X A outer s1 HZ E scope f c').ex := fun b z => nomatch (show b ∈ ([] : List Addr) from z)
  refine ⟨⟨e0.mod, L.kind, rfl, rfl, Nat.le_refl _, fun y z c e1 e2 => I.ok.inj y z c (cm e1) (cm e2), fun y hy => ?_, fun y c z _ => ?_, fun _ => hd, Around.frames_deeper e0.frames, .inr ⟨rfl, rfl⟩, fun b z => absurd z (noA b), e0.bs, e0.bsz, fun b _ _ => noA b,
      fun b z => absurd z (noA b), e0.funs, e0.frf⟩,
    rfl, e0.bare, Un.kept kp, ⟨_, hns, fun i y v e1 e2 e3 => ?_⟩, fun y c e => ?_, e0.hok.fresh (Nat.le_refl _), fun y c e => ?_, (fun q hq => nomatch (show q ∈ ([] : List (Addr × Obj)) ++ [] from hq)), e0.hok.kept kp, I.len⟩
  · replace hy : scope.names.lookup y = some .cell ∨ scope.names.lookup y = some .free := hy
    rcases hy with hy | hy
    · exact absurd rfl (L.own _ (PySem.mem_of_lookup hy)).1
    · exact look hy
  · exact absurd (show false = true from z) (by decide)
  · replace e3 : Vis scope y := e3
    replace e1 : X.N[i]? = some y := e1
    rcases e3 with k | k | k
    · exact absurd (List.mem_of_getElem? e1) ((L.own _ (PySem.mem_of_lookup k)).2 rfl)
    · exact absurd rfl (L.own _ (PySem.mem_of_lookup k)).1
    · obtain ⟨m, hn, hl⟩ := I.loc
      have fr := L.free _ (PySem.mem_of_lookup k) rfl
      obtain ⟨w', r, q⟩ := hl i y v e1 e2 (fr.elim (fun k => .inr (.inl k)) fun k => .inr (.inr k))
      obtain ⟨c2, h2⟩ := look k
      refine ⟨w', r, .inr ⟨.inr k, c2, h2, ?_⟩⟩
      rcases q with ⟨k', _⟩ | ⟨_, c3, e', z⟩
      · replace k' : X.env.scope.names.lookup y = some .local := k'
        rcases fr with k2 | k2 <;> rw [show X.env.scope.names.lookup y = _ from k2] at k' <;> cases k'
      · rw [cm h2] at e'
        cases e'
        exact cellK (cm h2) z
  · obtain ⟨w', z⟩ := I.cell y c (cm e)
    exact ⟨w', cellK (cm e) z⟩
  · obtain ⟨v, o, ho, _⟩ := I.cell y c (cm e)
    exact (un y c (cm e) o ho).2
/-- what a lambda's object is, where the heap stands as HZ tells -/
structure LamAt (HZ : Hp) (cl : List (Str × Addr)) (l : Lm) (f c' : Addr) (dv : Option Addr) : Prop where
  f : HZ f = some (CloO f cl l c' dv)
  c : HZ c' = some (CodeO c' l.q)
  d0 : l.dx = none → dv = none
  d1 : l.dx ≠ none → ∃ t, dv = some t ∧ HZ t = some (.tup [.int 0])
/-- x() in the def that got the lambda, called by anyone behind the maker -/
theorem pe_act2 {CXg : CXT} {Eg : XK} {Ng : List Str} {qg : Str} {sg : Scope} {g f c' : Addr} {cdg : Value} {k i : Nat} {a : Str} {pn : List (Addr × Obj)} {xe : Value → Shared → Prop} {W : WX} {E : XK} {tb : TE} {p1 p2 : Pos} {A0 : Around} {outer0 : List Env} {s2 : Shared} {H2 : Hp} {l : Lm} {dv : Option Addr} {base2 : Heap}
    (I : Inv X pins σ H s) (L : LamP X.N X.env.scope l.sc) (hq : l.q = X.env.qual ++ "<lambda>") (hb : BindL l) (hcell : ∀ (pinsZ : List (Addr × Obj)) (sZ : Shared) (σZ : L2.St) (HZ : Hp), Inv ((cxOf CXg X.prog X.w X.K X.mg base2 Ng qg sg g cdg A0 outer0 s2 H2 Eg).tr pn xe) pinsZ σZ HZ sZ → CellsKept X s.heap HZ sZ.heap) (hbase : ∀ b o, X.base.get? b = some o → base2.get? b = some o) (hbz : X.base.objs.size ≤ base2.objs.size)
    (tk : Takes ((cxOf CXg X.prog X.w X.K X.mg base2 Ng qg sg g cdg A0 outer0 s2 H2 Eg).tr pn xe) W) (hW : ∀ cls d σ' H', E cls d H' → W cls d σ' H') (hr : Room (k + 1) (A0.deeper (envOfC qg sg s2.heap.objs.size g cdg)))
    (hbody : ∀ (A : Around) (outer : List Env) (s : Shared) (H : Hp), Room k (A.deeper (lamEnv X l.sc s.heap.objs.size f c')) → PE (lamCx X A outer s H E l.sc f c') l.bd tb)
    (hN : Ng[i]? = some a) (hv : Vis sg a) (hd : (a == ("__debug__" : Str)) = false := by decide) (hcd : (a == ("__classdict__" : Str)) = false := by decide) :
    PE ((cxOf CXg X.prog X.w X.K X.mg base2 Ng qg sg g cdg A0 outer0 s2 H2 Eg).tr pn xe) (.Call (.Name a p1) [] [] p2)
      (fun σZ HZ Q => σZ[i]? = some (some (.ref f)) ∧ LamAt HZ X.env.cells l f c' dv ∧ tb σ HZ Q) := by
  refine ⟨fun pinsZ sZ σZ HZ Q IZ h => ?_⟩
  obtain ⟨hs, la, ht⟩ := h
  refine wpAny_Call_Name_kw (thn ((pe_var (pos := p1) (i := i) hN hv hd hcd).run pinsZ sZ σZ HZ (fun v H1 => v = .ref f ∧ H1 = HZ) IZ ⟨.ref f, hs, rfl, rfl⟩) fun u s1 ⟨v, H1, I1, r1, q1⟩ => ?_)
  obtain ⟨ev, eH⟩ := q1
  subst ev
  rw [eH] at I1
  obtain rfl : u = Value.ref f := r1
  obtain ⟨⟨doc, pm, ctv, of1⟩, _, _⟩ := I1.hok f _ la.f
  refine PySem.W.callWith_F0 ⟨_, _, _, _, of1⟩ ?_
  have un1 := hcell _ _ _ _ I1
  obtain ⟨⟨oc, vs, t, hoc, hdc, hvc⟩, _, _⟩ := I1.hok c' _ la.c
  have bnd : ∃ binds, BindsTo s1 (PySem.W.kdv_fn "<lambda>" l.q l.ps (.expr l.bd) l.sc (cloFrom X.env.cells l.sc.names []) (dflV dv) doc pm (.ref c') ctv) ⟨[], []⟩ binds ∧ ∀ y ∈ binds, l.sc.names.lookup y.1 = some .local := by
    unfold BindL at hb
    cases hx : l.dx with
    | none =>
      rw [hx] at hb
      rw [la.d0 hx]
      exact ⟨[], .of_eq (hb _ _ _ _ _), fun y z => nomatch z⟩
    | some y =>
      rw [hx] at hb
      obtain ⟨t0, e0, ht0⟩ := la.d1 (by rw [hx]; exact fun z => nomatch z)
      obtain ⟨_, its, r0, ⟨o0, g0, _, n0, hd0⟩⟩ := I1.hok t0 _ ht0
      obtain ⟨tk0, hits⟩ : ∃ tk0, its = [.int 0 tk0] := by
        cases r0 with
        | cons r1 r2 => cases r2; obtain ⟨tk0, z⟩ := r1; exact ⟨tk0, by rw [z]⟩
      obtain ⟨kk, k1, k2⟩ := hb.2 t0 (cloFrom X.env.cells l.sc.names []) doc pm (.ref c') ctv tk0
      rw [e0]
      refine ⟨[(y, .int 0 tk0)], .of_defaults (n := n0) (T := t0) rfl g0 (hd0.trans (by rw [hits])) k1 k2, fun z hz => ?_⟩
      rw [List.mem_singleton.mp hz]
      exact hb.1
  obtain ⟨binds, hbt, hbl⟩ := bnd
  have rc : codeAny (model X.prog X.w) (A0.deeper (envOfC qg sg s2.heap.objs.size g cdg)) (.call (.ref f) ⟨[], []⟩) (CR (L2.CX X.prog X.w) (envOfC qg sg s2.heap.objs.size g cdg :: outer0) X.prog X.w HZ s1 Q E) s1 := by
    refine PySem.W.kla_callFunE hr.depth of1 rfl L.co L.gen rfl ⟨c', oc, vs, t, rfl, hoc, hdc, hvc⟩ (hbt _ _ _ _ ?_)
    refine wpAny_newFunctionEnv (fun y hy => (L.own y hy).1) hbl (fun h₁ hns hsb => ⟨I1.nolimit.fresh _ hsb, ?_⟩) L.kind
    rw [hq]
    show codeAny _ _ (.expr l.bd (lamEnv X l.sc s1.heap.objs.size f c')) _ _
    have kp : ∀ b o, s1.heap.get? b = some o → h₁.get? b = some o := fun b o e => hsb.extBut b o (Nat.ne_of_lt (Heap.lt_size e)) (Heap.get?_push_of_some _ e)
    have J : Inv (lamCx X (A0.deeper (envOfC qg sg s2.heap.objs.size g cdg)) (envOfC qg sg s2.heap.objs.size g cdg :: outer0) s1 HZ E l.sc f c') [] σ HZ { s1 with heap := h₁, toks := s1.toks + binds.length } :=
      lam_start3 I L (I1.env0.down I.ok.mod hbase hbz) hr.hd un1 hns kp
    refine PySem.W.kla_codeExpr (wpAny_mono ((hbody _ _ s1 HZ (hr.deeper _)).run [] _ _ HZ Q J ht) (fun v s' hq => ?_) fun e s' hq => hq)
    obtain ⟨w', H', J', rv, q⟩ := hq
    exact ⟨w', H', J'.os, J'.bare, J'.base, J'.hok, rv, q⟩
  have hx : Passes (L2.CX X.prog X.w) ((cxOf CXg X.prog X.w X.K X.mg base2 Ng qg sg g cdg A0 outer0 s2 H2 Eg).tr pn xe) E := passes_call tk hW
  refine wpAny_call (codeAny_mono rc fun r s' hq => ?_)
  cases r with
  | error e => exact hx pinsZ σZ HZ s1 e s' I1 hq
  | ok fl =>
    cases fl with
    | ret u => exact I1.after hq
    | next => exact False.elim hq
    | brk => exact False.elim hq
    | cont => exact False.elim hq
end
end DL

/-! DL55: _law_try, called with a lambda -/
namespace DL
open PySem L2 PySem.Spec PyProof.Rows LamX L2H
/-- the text of _law_try -/
def TryBody (b : List Stmt) : Prop := ∃ (j kt kt2 kt3 : Nat) (r1 r2 r3 r4 r5 r6 r7 r8 r9 s1 s2 s3 s4 s5 s6 s7 s8 s9 q8 : Pos), b = [.Try [.Return (some (.Tuple [.Constant (.str "value") j r1, .Call (.Name "_law_ask" r2) [] [] r3] kt r4)) r5]
      [.ExceptHandler (some (.Tuple [.Name "WalkError" r6, .Name "Missing" r7, .Name "NothingLeft" r8] kt2 r9)) (some "_law_e") [.Return (some (.BinOp (.Tuple [.Attribute (.Name "_law_e" s1) "code" s2] kt3 s3) .Add (.Call (.Name "_law_parts" s4) [.Name "_law_e" s5] [] s6) s7)) s8] s9] [] [] q8]
/-- what the program has of it -/
structure TryK (P : Program) (w : World) (K : PySem.W.Frag) (mg : Mg) (base : Heap) (xs : List Str) : Prop where
  ex : ∃ (fP fT C1 C2 C3 : Addr) (fdP fdT : FuncData) (st : Stmt), mg "_law_parts" = some (.ref fP) ∧ PySem.W.keepIn K (.ref fP) = true ∧ Binds K fdP ["_law_e"] [] ∧ FnP P w K mg base 1 fP fdP ["_law_e"] (spParts K partsCl partsLast) ∧
    mg "_law_try" = some (.ref fT) ∧ Fun K "_law_try" "_law_try" st fT fdT ∧ Binds K fdT ["_law_ask"] [] ∧ FnScope ["_law_ask", "_law_e"] ["_law_ask"] (defScope st) ∧ TryBody (defBody st) ∧
    ((defScope st).names.lookup ("_law_parts" : Str) = some .globalImplicit ∧ (defScope st).names.lookup ("WalkError" : Str) = some .globalImplicit ∧ (defScope st).names.lookup ("Missing" : Str) = some .globalImplicit ∧ (defScope st).names.lookup ("NothingLeft" : Str) = some .globalImplicit ∧ (defScope st).names.lookup ("_law_e" : Str) = some .local ∧ (defScope st).names.lookup ("_law_ask" : Str) = some .local) ∧
    mg "WalkError" = some (.ref C1) ∧ mg "Missing" = some (.ref C2) ∧ mg "NothingLeft" = some (.ref C3) ∧ ∀ c ∈ xs, TellC K mg C1 C2 C3 c
/-- a lambda's body, wherever it is called -/
def BodyOk (X : Cx) (k : Nat) (l : Lm) (F : Den) : Prop := LamP X.N X.env.scope l.sc ∧ l.q = X.env.qual ++ "<lambda>" ∧ BindL l ∧
  ∀ (A : Around) (outer : List Env) (s : Shared) (H : Hp) (E : XK) (f c' : Addr), Room k (A.deeper (lamEnv X l.sc s.heap.objs.size f c')) → DE (lamCx X A outer s H E l.sc f c') (fun cls d _ H => E cls d H) l.bd F
section
variable {X V : Cx} {xs : List Str} {k : Nat}
/-- _law_try(f), f a lambda that X made; V: the caller, X itself or a def behind it -/
theorem run_try {W : WX} {pins pinsV : List (Addr × Obj)} {σ σV : L2.St} {H H1 : Hp} {s s1 : Shared} {l : Lm} {F : Den} {f c' g : Addr} {dv : Option Addr} {w : Wd} {ρ : Ev} {M : Mst} {Q : VK} (T : TryK X.prog X.w X.K X.mg V.base xs) (hV : V.prog = X.prog ∧ V.w = X.w ∧ V.K = X.K ∧ V.mg = X.mg)
    (I : Inv X pins σ H s) (I1 : Inv V pinsV σV H1 s1) (hcell : ∀ (Ng : List Str) (sg : Scope) (cdg : Value) (g : Addr) (pn : List (Addr × Obj)) (xe : Value → Shared → Prop) (pinsZ : List (Addr × Obj)) (sZ : Shared) (σZ : L2.St) (HZ : Hp),
      Inv ((cxOf C8.CX0 X.prog X.w X.K X.mg V.base Ng "_law_try" sg g cdg V.A V.stack s1 H1 C8.E0).tr pn xe) pinsZ σZ HZ sZ → CellsKept X s.heap HZ sZ.heap) (hbase : ∀ b o, X.base.get? b = some o → V.base.get? b = some o) (hbz : X.base.objs.size ≤ V.base.objs.size) (hk : 1 ≤ k) (hr : Room (k + 2) V.A) (hb : BodyOk X k l F) (hg : V.mg "_law_try" = some (.ref g)) (la : LamAt H1 X.env.cells l f c' dv)
    (m : MR X.K X.mg w H1 M) (er : ER X.K X.mg w M σ ρ) (p : Post X W σ [] w H1 M (told xs (F ρ M)) (CE X [] w H1 M Q)) :
    wpAny (model V.prog V.w) V.A (call (.ref g) [.ref f]) (EP V pinsV σV Q) V.xe s1 := by
  obtain ⟨vp, vw, vK, vmg, vb, vA, vN, vs0, vH0, venv, vout, vst, vex, vfn, vcalm, vpn, vxe⟩ := V
  obtain ⟨v1, v2, v3, v4⟩ := hV
  obtain rfl : vp = X.prog := v1
  obtain rfl : vw = X.w := v2
  obtain rfl : vK = X.K := v3
  obtain rfl : vmg = X.mg := v4
  obtain ⟨hL, hq, hbd, hbody⟩ := hb
  obtain ⟨fP, fT, C1, C2, C3, fdP, fdT, st, t1, t2, t3, t4, t5, t6, t7, t8, t9, ⟨n0, n1, n2, n3, n4, n5⟩, m1, m2, m3, tc⟩ := T.ex
  obtain rfl : g = fT := by
    have hg2 : X.mg "_law_try" = some (.ref g) := hg
    rw [t5] at hg2; cases hg2; rfl
  obtain ⟨j, kt, kt2, kt3, r1, r2, r3, r4, r5, r6, r7, r8, r9, q1, q2, q3, q4, q5, q6, q7, q8, q9, p8, hB⟩ := t9
  obtain ⟨oc, od, kV, doc, pm, an, cdv, ct, osl, rfl, lk, hcd⟩ := t6.ex
  have rc : codeAny (model X.prog X.w) vA (.call (.ref g) ⟨[.ref f], []⟩) (CR C8.CX0 vst X.prog X.w H1 s1 Q C8.E0) s1 := by
    refine run_ofS (N := ["_law_ask", "_law_e"]) (ps := ["_law_ask"]) (us := [.ref f]) (vs := [.ref f]) lk hcd t8 hr I1.env0 (t7 s1 [.ref f] I1.kIn rfl) (.cons rfl .nil) rfl fun hr' => ?_
    have hG := try_gives (X := ⟨X.prog, X.w, X.K, X.mg, vb, vA, vN, vs0, vH0, venv, vout, vst, vex, vfn, vcalm, vpn, vxe⟩) (Ng := ["_law_ask", "_law_e"]) (x := "_law_try") (a := "_law_ask") (e := "_law_e") (q := l.q) (y := "_law_e") (parts := "_law_parts") (x1 := "WalkError") (x2 := "Missing") (x3 := "NothingLeft") (sg := defScope st) (g := g) (C1 := C1) (C2 := C2) (C3 := C3) (cdg := cdv) (k := 1)
      (cl := partsCl) (last := partsLast) (j := j) (kt := kt) (kt2 := kt2) (kt3 := kt3) (r1 := r1) (r2 := r2) (r3 := r3) (r4 := r4) (r5 := r5) (r6 := r6) (r7 := r7) (r8 := r8) (r9 := r9) (s1 := q1) (s2 := q2) (s3 := q3) (s4 := q4) (s5 := q5) (s6 := q6) (s7 := q7) (s8 := q8) (s9 := q9) (q8 := p8)
      t4 (RoomH.mono (roomH_of hr) (by omega)) n0 t1 t2 t3 n1 n2 n3 m1 m2 m3 (by decide +kernel) rfl n4 (fun _ => rfl)
    have hh := hG f c' s1 H1 Q (fun E HZ Q' => LamAt HZ X.env.cells l f c' dv ∧ rdE (lamCx X vA vst s1 H1 E l.sc f c') (fun cls d _ H => E cls d H) F σ HZ Q') (fun W' pn xe E p1 p2 tk hW => by
      have hp := pe_act2 (CXg := C8.CX0) (Eg := C8.E0) (Ng := ["_law_ask", "_law_e"]) (qg := "_law_try") (sg := defScope st) (g := g) (cdg := cdv) (i := 0) (a := "_law_ask") (pn := pn) (xe := xe) (W := W') (E := E) (p1 := p1) (p2 := p2) (A0 := vA) (outer0 := vst) (s2 := s1) (H2 := H1) (dv := dv) (f := f) (c' := c')
        (tb := rdE (lamCx X vA vst s1 H1 E l.sc f c') (fun cls d _ H => E cls d H) F) I hL hq hbd (hcell _ _ _ _ _ _) hbase hbz tk hW (k := k) (hr.deeper _) (fun A outer s' H' hr2 => (hbody A outer s' H' E f c' hr2).mono fun _ _ _ z => z) rfl (.inl n5)
      exact hp.mono fun σZ HZ Q' ⟨h1, _, h2, h3⟩ => ⟨h1, h2, h3⟩) la.c ⟨la, w, ρ, M, m, er, told_post (X' := lamCx X vA vst s1 H1 _ l.sc f c') rfl rfl tc p⟩
    obtain ⟨t', ht', hq'⟩ := hh
    rw [hB]
    exact ⟨t', ht'.nox, hq'⟩
  refine wpAny_call (codeAny_mono rc fun r s2 hq => ?_)
  cases r with
  | error e => exact (show False from hq).elim
  | ok fl =>
    cases fl with
    | ret u => exact I1.after hq
    | next => exact False.elim hq
    | brk => exact False.elim hq
    | cont => exact False.elim hq
end
end DL

/-! DL56: _law_try(lambda: E) as an expression -/
namespace DL
open PySem L2 PySem.Spec PyProof.Rows LamX
/-- the program's _law_try over any base -/
def TryA (P : Program) (w : World) (K : PySem.W.Frag) (mg : Mg) (xs : List Str) : Prop := ∀ base : Heap, K.In base → base.Ns mainGlobals mg → TryK P w K mg base xs
def eTry (j : Nat) (x q : Str) (xs : List Str) (F : Den) : Den := fun ρ M => match M[j]? with
  | some (.tbl x' q') => if x' = x ∧ q' = q then told xs (F ρ M) else .bad
  | _ => .bad
section
variable {X : Cx} {W : WX} {j k : Nat} {x : Str} {params : Arguments} {body e : Expr} {scope : Scope} {pos p lpos : Pos} {l : Lm} {L : Addr} {xs : List Str} {F : Den}
theorem takesB {CX : CXT} {P : Program} {w : World} : True := trivial
/-- from the maker itself, the cells as they are -/
theorem cells_own {X : Cx} {pins : List (Addr × Obj)} {σ : L2.St} {H : Hp} {s : Shared} (I : Inv X pins σ H s) (Ng : List Str) (sg : Scope) (cdg : Value) (g : Addr) (pn : List (Addr × Obj)) (xe : Value → Shared → Prop) (pinsZ : List (Addr × Obj)) (sZ : Shared) (σZ : L2.St) (HZ : Hp)
    (IZ : Inv ((cxOf C8.CX0 X.prog X.w X.K X.mg X.base Ng "_law_try" sg g cdg X.A X.stack s H C8.E0).tr pn xe) pinsZ σZ HZ sZ) : CellsKept X s.heap HZ sZ.heap := kept_un (fs := frs X.stack) I IZ.base
theorem de_try (T : TryA X.prog X.w X.K X.mg xs) (hlam : PE X (.Lambda params body scope lpos) (tLamD X j x l L)) (hL : l.cells L = X.env.cells) (hg : Gl X "_law_try") (hk : 1 ≤ k) (hr : Room (k + 2) X.A) (hb : BodyOk X k l F) :
    DE X W (.Call (.Name "_law_try" p) [.Lambda params body scope lpos] [] pos) (eTry j x l.q xs F) := by
  refine ⟨fun pins s σ H Q I h => ?_⟩
  obtain ⟨w, ρ, M, m, er, p0⟩ := h
  have T1 := T X.base I.ok.mod.kin I.ok.mod.glob
  obtain ⟨fP, fT, C1, C2, C3, fdP, fdT, st, t1, t2, t3, t4, t5, t6, t7, t8, t9, t10, m1, m2, m3, tc⟩ := T1.ex
  unfold eTry at p0
  split at p0
  · rename_i x' q' hj
    split at p0
    · rename_i hq
      obtain ⟨rfl, rfl⟩ := hq
      refine wpAny_Call_Name_kw (ld_glob I hg t5 ?_ (by decide))
      refine PySem.W.callWith_K (h₀ := X.base) I.ok.mod.kin t6.kp ?_ (by rfl) (by rfl)
      show wpAny _ _ (spliced ((false, eval (.Lambda params body scope lpos) X.env) :: backTo pos (starEach [] X.env))) _ _ s
      refine Calls.spliced_cons (thn (hlam.run pins s σ H (fun v H1 => ∃ (f c' : Addr) (dv : Option Addr) (w1 : Wd), v = .ref f ∧ Ext [] w H M w1 H1 M ∧ MR X.K X.mg w1 H1 M ∧ LamF w1.F L f c' dv l) I ⟨w, M, m, hj, fun w' H' f c' dv e' m' lf => ⟨f, c', dv, w', rfl, e', m', lf⟩⟩) fun u s1 hh => ?_)
      obtain ⟨v, H1, I1, r1, f, c', dv, w1, hv, e1, m1', lf⟩ := hh
      subst hv
      obtain rfl : u = Value.ref f := r1
      refine Calls.spliced_nil ⟨I1.kIn, ?_⟩
      have la : LamAt H1 X.env.cells l f c' dv := ⟨by rw [← hL]; exact m1'.sub _ _ lf.f, m1'.sub _ _ lf.c, lf.d0, fun z => (lf.d1 z).imp fun t q => ⟨q.1, m1'.sub _ _ q.2⟩⟩
      exact run_try (V := X) T1 ⟨rfl, rfl, rfl, rfl⟩ I1 I1 (cells_own I1) (fun _ _ z => z) (Nat.le_refl _) hk hr hb t5 la m1' (er.stay e1) (PostE.from p0 e1 fun _ z => nomatch z)
    · exact p0.elim
  · exact p0.elim
end
/-! ### all that is not tracked, as the base -/
def reBase (h : Heap) (H : Hp) (fs : List Addr) : Heap := PySem.W.hideAll h (trk h H ++ fs)
theorem reBase_get {h : Heap} {H : Hp} {fs : List Addr} {b : Addr} {o : Obj} (e : h.get? b = some o) (n : H b = none) (hb : b ∉ fs) : (reBase h H fs).get? b = some o :=
  PySem.W.hideAll_get _ e fun hm => by
    rcases List.mem_append.mp hm with z | z
    · have q : (H b).isSome = true := (List.mem_filter.mp z).2
      rw [n] at q; simp at q
    · exact hb z
theorem of_reBase {h : Heap} {H : Hp} {fs : List Addr} {b : Addr} {o : Obj} (e : (reBase h H fs).get? b = some o) : h.get? b = some o ∧ H b = none ∧ b ∉ fs := by
  have e1 : h.get? b = some o := PySem.W.of_hideAll (trk h H ++ fs) e
  have no : ∀ {z : Addr}, z ∈ trk h H ++ fs → z ≠ b := fun {z} hz q => by
    rw [q] at hz
    have : (reBase h H fs).get? b = none := PySem.W.hideAll_none (trk h H ++ fs) hz
    rw [this] at e; cases e
  refine ⟨e1, ?_, fun z => no (List.mem_append_right _ z) rfl⟩
  cases q : H b with
  | none => rfl
  | some u => exact (no (List.mem_append_left _ (List.mem_filter.mpr ⟨List.mem_range.mpr (Heap.lt_size e1), by simp [q]⟩)) rfl).elim
section
variable {X : Cx} {pins : List (Addr × Obj)} {σ : L2.St} {H : Hp} {s : Shared}
theorem base_re (I : Inv X pins σ H s) : ∀ b o, X.base.get? b = some o → (reBase s.heap H (frs X.stack)).get? b = some o := fun b o e => by
  obtain ⟨h1, h2⟩ := I.bs b o e
  refine reBase_get h1 h2 fun z => ?_
  obtain ⟨n, _⟩ := I.stack.mem z
  rw [e] at n; cases n
theorem env0_re (I : Inv X pins σ H s) : Env0 X.prog X.w X.K X.mg (reBase s.heap H (frs X.stack)) X.A X.stack s H := by
  have k := base_re I
  have kn : ∀ {b : Addr} {m : Str → Option Value}, X.base.Ns b m → (reBase s.heap H (frs X.stack)).Ns b m := fun z => z.keeps k
  refine ⟨I.ok.frames, ⟨I.ok.mod.kin.keeps k, kn I.ok.mod.glob, let ⟨mb, h1, h2⟩ := I.ok.mod.blt; ⟨mb, kn h1, h2⟩, I.ok.mod.nolimit.keeps k⟩, fun b o e => ⟨(of_reBase e).1, (of_reBase e).2.1⟩, ?_, ?_, I.stkFree, I.hok, I.bare⟩
  · exact Nat.le_of_eq (PySem.W.hideAll_size _ _)
  · exact funFrames_none I.stack fun b hb => PySem.W.hideAll_none _ (List.mem_append_right _ hb)
end
end DL

/-! DL57: _law_tries(asks): each lambda of a list tried -/
namespace DL
open PySem L2 PySem.Spec PyProof.Rows LamX
/-- which body a lambda has -/
noncomputable def lookB : List (Lm × Den) → Lm → Option Den
  | [], _ => none
  | (l', F) :: r, l => open Classical in if l' = l then some F else lookB r l
theorem lookB_self {l : Lm} {F : Den} {r : List (Lm × Den)} : lookB ((l, F) :: r) l = some F := by unfold lookB; rw [if_pos rfl]
theorem lookB_ne {l l' : Lm} {F : Den} {r : List (Lm × Den)} (h : l' ≠ l) : lookB ((l', F) :: r) l = lookB r l := by
  conv => lhs; unfold lookB
  rw [if_neg h]
theorem lookB_mem {l : Lm} {F : Den} : ∀ {bs : List (Lm × Den)}, lookB bs l = some F → (l, F) ∈ bs
  | [], h => by cases h
  | (l', F') :: r, h => by
    by_cases e : l' = l
    · subst e; rw [lookB_self] at h; cases h; exact List.mem_cons_self
    · rw [lookB_ne e] at h; exact List.mem_cons_of_mem _ (lookB_mem h)
noncomputable def triesL (bs : List (Lm × Den)) (xs : List Str) (ρ : Ev) : List Lm → List T → Mst → Out (List T)
  | [], acc, M => .ok acc M
  | l :: r, acc, M => match lookB bs l with
    | none => .bad
    | some F => (told xs (F ρ M)).bind fun t M1 => match t with
      | .t t => if acc.length < 1000000 then triesL bs xs ρ r (acc ++ [t]) M1 else .bad
      | .h _ => .bad
noncomputable def eTries (L : Addr) (i : Nat) (bs : List (Lm × Den)) (xs : List Str) : Den := fun ρ M => match ρ[i]? with
  | some (some (.c L' ls)) => if L' = L then (triesL bs xs ρ ls [] M).bind fun ts M1 => .ok (.t (.lst ts)) M1 else .bad
  | _ => .bad
theorem LamsR.get {F : Hp} {L : Addr} : ∀ {vs : List V} {ls : List Lm} {i : Nat} {l : Lm}, LamsR F L vs ls → ls[i]? = some l → ∃ f c' dv, vs[i]? = some (.ref f) ∧ LamF F L f c' dv l
  | _, _, _, _, .nil, e => by simp at e
  | _, _, 0, _, .cons h _, e => by
    have e := Option.some.inj e
    subst e
    exact ⟨_, _, _, rfl, h⟩
  | _, _, i + 1, _, .cons _ r, e => by
    obtain ⟨f, c', dv, h1, h2⟩ := LamsR.get (i := i) r (by simpa using e)
    exact ⟨f, c', dv, by simpa using h1, h2⟩
theorem LamsR.length {F : Hp} {L : Addr} : ∀ {vs : List V} {ls : List Lm}, LamsR F L vs ls → vs.length = ls.length
  | _, _, .nil => rfl
  | _, _, .cons _ r => by simp [LamsR.length r]
section
variable {X : Cx} {W : WX} {σ : L2.St} {k : Nat} {xs : List Str}
/-- one lambda tried, read from a def behind the maker -/
def tTried (X : Cx) (W : WX) (σ : L2.St) (k : Nat) (xs : List Str) (ρ : Ev) : TE := fun σV H Q => ∃ (f c' : Addr) (dv : Option Addr) (l : Lm) (F : Den) (w : Wd) (M : Mst), σV[1]? = some (some (.ref f)) ∧ LamAt H X.env.cells l f c' dv ∧ BodyOk X k l F ∧
  MR X.K X.mg w H M ∧ ER X.K X.mg w M σ ρ ∧ Post X W σ [] w H M (told xs (F ρ M)) (CE X [] w H M Q)
theorem tries_loop {L : Addr} {bs : List (Lm × Den)} {w0 : Wd} {H0 : Hp} {M0 : Mst} {ρ : Ev} {D a : Addr} {C : Wd → Hp → Mst → R → Prop} {kont : List T → Mst → Out R} {H : Hp} {vsl : List V} {ls : List Lm} {σt : L2.St} {Q : VK} (hbs : ∀ q ∈ bs, BodyOk X k q.1 q.2 ∧ q.1.cells L = X.env.cells)
    (ha : w0.F a = some (.lst vsl)) (hl : LamsR w0.F L vsl ls) (ht : ∀ v : V, 1 < σt.length)
    (st : LcS X W w0 H0 M0 σ ρ w0.F D C (fun M => (triesL bs xs ρ ls [] M).bind kont) [] H) (hF : ∀ acc H, LcS X W w0 H0 M0 σ ρ w0.F D C (kont acc) acc H → Q (.ref D) H) :
    ∃ Wi : Nat → Nat → Hp → Prop, (∃ m, Wi 0 m H) ∧ ∀ i m H, Wi i m H →
      ((Itl X.K a).stop i H ∧ Q (.ref D) H) ∨ ((Itl X.K a).go i H ∧ ∃ Nx : Hp → Prop, (∀ H', Nx H' → ∃ m', m' < m ∧ Wi (i + 1) m' H') ∧ ∀ x H', (Itl X.K a).yld i H x H' → gName 1 x (wipe σt [1]) H' fun σ2 H2 => wipe σ2 [1] = wipe σt [1] ∧ (fun (_ : L2.St) (H : Hp) (Q : Bool → Hp → Prop) => Q true H) σ2 H2 fun b H3 =>
        if b = true then tTried X W σ k xs ρ σ2 H3 fun y H4 => ∃ acc, H4 D = some (.lst acc) ∧ acc.length < sizeLine ∧ Nx (upd H4 D (.lst (acc ++ [y]))) else Nx H3) := by
  refine ⟨fun i m H => i ≤ ls.length ∧ m = ls.length - i ∧ ∃ acc, LcS X W w0 H0 M0 σ ρ w0.F D C (fun M => (triesL bs xs ρ (ls.drop i) acc M).bind kont) acc H, ⟨_, Nat.zero_le _, rfl, [], st⟩, ?_⟩
  rintro i mm H ⟨hi, rfl, acc, w, M, vs, fp, m, er, sF, hD, hFD, hnD, q, nd, dj, e0, hp0, p⟩
  have haH : H a = some (.lst vsl) := m.sub _ _ (sF _ _ ha)
  by_cases hlt : i < ls.length
  · obtain ⟨l, hd⟩ : ∃ l, ls[i]? = some l := ⟨ls[i], List.getElem?_eq_getElem hlt⟩
    obtain ⟨f, c', dv, hv, lf⟩ := hl.get hd
    have ed : ls.drop i = l :: ls.drop (i + 1) := by
      rw [List.drop_eq_getElem_cons hlt]
      rw [List.getElem?_eq_getElem hlt] at hd
      rw [Option.some.inj hd]
    rw [ed] at p
    refine .inr ⟨⟨vsl, _, SqL.of haH, hv⟩, _, fun H' q => q, fun x H' y => ?_⟩
    obtain ⟨hH', hx⟩ := y
    rw [hH']
    have ex := hx vsl (SqL.of haH)
    rw [hv] at ex
    cases ex
    unfold triesL at p
    cases z : lookB bs l with
    | none => rw [z] at p; exact (show False from p).elim
    | some F =>
      rw [z] at p
      obtain ⟨hB, hcl⟩ := hbs _ (lookB_mem z)
      replace p : Post X W σ (D :: fp) w H M (((told xs (F ρ M)).bind fun t M1 => match t with
        | .t t => if acc.length < 1000000 then triesL bs xs ρ (ls.drop (i + 1)) (acc ++ [t]) M1 else .bad
        | .h _ => .bad).bind kont) C := p
      rw [Out.bind_assoc] at p
      have la : LamAt H X.env.cells l f c' dv := ⟨by rw [← hcl]; exact m.sub _ _ (sF _ _ lf.f), m.sub _ _ (sF _ _ lf.c), lf.d0, fun z => (lf.d1 z).imp fun t q => ⟨q.1, m.sub _ _ (sF _ _ q.2)⟩⟩
      refine ⟨by show ((σt.set 1 none).set 1 (some (.ref f))).set 1 none = σt.set 1 none; rw [List.set_set, List.set_set], ?_⟩
      show (if true = true then _ else _)
      rw [if_pos rfl]
      refine ⟨f, c', dv, l, F, w, M, ?_, la, hB, m, er, p.bindF.imp fun w3 H3 M3 r _ _ z => ?_⟩
      · show ((σt.set 1 none).set 1 (some (.ref f)))[1]? = _
        rw [List.getElem?_set_self (by rw [List.length_set]; exact ht .non)]
      · obtain ⟨e3, m3, p4⟩ := z
        intro v f3 q3 hf3
        obtain ⟨hD3, hFD3, hnD3, q3', dj3⟩ := held e3 hD hFD hnD q dj
        have dv : ∀ b ∈ f3, b ∉ D :: fp := fun b hb hc => by
          have : H b ≠ none ∧ ∀ k, k < M.length → b ∉ w.φ k := by
            rcases List.mem_cons.mp hc with rfl | hc
            · exact ⟨by rw [hD]; exact (fun z => nomatch z), hnD⟩
            · obtain ⟨_, o, h2⟩ := q.fp b hc
              exact ⟨by rw [h2]; exact (fun z => nomatch z), dj b hc⟩
          rcases hf3 b hb with z | ⟨j, hj, z⟩ | z
          · exact this.1 z
          · exact this.2 j hj z
          · cases z
        have p5 := p4 (D :: (fp ++ f3)) fun b hb => by
          rcases List.mem_cons.mp hb with rfl | hb
          · exact .inr (.inr List.mem_cons_self)
          · rcases List.mem_append.mp hb with hb | hb
            · exact .inr (.inr (List.mem_cons_of_mem _ hb))
            · exact pm_nil (hf3 b hb) _
        cases r with
        | h kk => exact (show False from p5).elim
        | t t =>
          replace p5 : Post X W σ (D :: (fp ++ f3)) w3 H3 M3 ((if acc.length < 1000000 then triesL bs xs ρ (ls.drop (i + 1)) (acc ++ [t]) M3 else .bad).bind kont) C := p5
          split at p5
          · rename_i hacc
            have hlen := q3'.length
            refine ⟨vs, hD3, by rw [hlen]; exact Nat.lt_of_lt_of_le hacc cap_le, ?_⟩
            have ndfp := List.nodup_cons.mp nd
            have hu : ∀ b ∈ fp ++ f3, b ≠ D := fun b hb z => by
              subst z
              rcases List.mem_append.mp hb with hb | hb
              · exact ndfp.1 hb
              · exact dv _ hb List.mem_cons_self
            have tall := trl_app q3' (.cons q3.1 .nil : TRL X.K X.mg w3.F H3 [v] [t] (f3 ++ []))
            rw [List.append_nil] at tall
            refine ⟨_, by omega, hlt, rfl, acc ++ [t], w3, M3, vs ++ [v], fp ++ f3, m3.put hFD3 hnD3, er.stay e3, sF.trans e3.F, upd_same, hFD3, hnD3, ?_, ?_, ?_, ?_, ?_, ?_⟩
            · exact tall.stay (Same.refl _) fun b hb => ⟨(tall.fp b hb).1, fun o ho => by rw [upd_ne (hu b hb)]; exact ho⟩
            · refine List.nodup_cons.mpr ⟨fun z => hu D z rfl, List.nodup_append.mpr ⟨ndfp.2, q3.2.1, fun b hb c hc z => ?_⟩⟩
              subst z
              exact dv b hc (List.mem_cons_of_mem _ hb)
            · intro b hb
              rcases List.mem_append.mp hb with hb | hb
              · exact dj3 b hb
              · exact q3.2.2 b hb
            · exact (e0.trans0 e3).trans (Ext.put (fs := [D]) List.mem_cons_self) fun b hb => by rw [List.mem_singleton.mp hb]; exact hp0 D List.mem_cons_self
            · intro b hb
              rcases List.mem_cons.mp hb with rfl | hb
              · exact hp0 _ List.mem_cons_self
              · rcases List.mem_append.mp hb with hb | hb
                · exact hp0 b (List.mem_cons_of_mem _ hb)
                · exact e0.pm (gs := []) (fun _ z => nomatch z) (hf3 b hb)
            · exact Post.from p5 (Ext.put (fs := D :: (fp ++ f3)) List.mem_cons_self) fun b hb => .inr (.inr hb)
          · exact (show False from p5).elim
  · have e : i = ls.length := by omega
    subst e
    rw [List.drop_length] at p
    exact .inl ⟨⟨vsl, SqL.of haH, Nat.le_of_eq hl.length⟩, hF acc H ⟨w, M, vs, fp, m, er, sF, hD, hFD, hnD, q, nd, dj, e0, hp0, p⟩⟩
end
end DL

/-! DL58: _law_tries called; asks = [lambda: .., ..] -/
namespace DL
open PySem L2 PySem.Spec PyProof.Rows LamX
/-- the text of _law_tries -/
def TriesBody (b : List Stmt) (scope : Scope) : Prop := ∃ (p1 p2 p3 p4 p5 p6 p7 : Pos), b = [.Return (some (.ListComp (.Call (.Name "_law_try" p1) [.Name "_law_ask" p2] [] p3) [⟨.Name "_law_ask" p4, .Name "_law_asks" p5, [], 0⟩] scope p6)) p7]
structure TriesK (K : PySem.W.Frag) (mg : Mg) : Prop where
  ex : ∃ (fL : Addr) (fdL : FuncData) (st : Stmt) (scope : Scope), mg "_law_tries" = some (.ref fL) ∧ Fun K "_law_tries" "_law_tries" st fL fdL ∧ Binds K fdL ["_law_asks"] [] ∧ FnScope ["_law_asks", "_law_ask"] ["_law_asks"] (defScope st) ∧ TriesBody (defBody st) scope ∧
    (defScope st).names.lookup ("_law_asks" : Str) = some .local ∧ BlkOk ["_law_asks", "_law_ask"] (defScope st) scope [("_law_ask", 1)] ∧ scope.names.lookup ("_law_ask" : Str) = some .local ∧ scope.names.lookup ("_law_try" : Str) = some .globalImplicit
section
variable {X : Cx} {W : WX} {k : Nat} {xs : List Str}
theorem rel_look {env : Env} {kd : NameKind} (hk : kd ≠ .free) {y : Str} : ∀ {names : List (Str × NameKind)}, names.lookup y = some kd →
    (names.map fun (n, k) => if (k == NameKind.free && env.scope.kind == .function && env.kindOf n == some .cell) then (n, NameKind.cell) else (n, k)).lookup y = some kd
  | [], h => by simp at h
  | (n, k) :: r, h => by
    rw [List.lookup_cons] at h
    rw [List.map_cons]
    split at h
    · rename_i e
      cases h
      have : (kd == NameKind.free) = false := by cases kd <;> first | rfl | exact absurd rfl hk
      simp only [this, Bool.false_and, Bool.false_eq_true, if_false]
      rw [List.lookup_cons, e]
    · rename_i e
      have e2 : (y == (if (k == NameKind.free && env.scope.kind == .function && env.kindOf n == some .cell) = true then (n, NameKind.cell) else (n, k)).1) = false := by
        split <;> exact e
      rw [List.lookup_cons, e2]
      exact rel_look hk h
/-- cells are no frames: in a def's own context -/
theorem cell_nofr {pins : List (Addr × Obj)} {σ : L2.St} {H : Hp} {s : Shared} (I : Inv X pins σ H s) (hfn : ∀ y, X.fn y = true) {y : Str} {c : Addr} (e : X.env.cells.lookup y = some c) : c ∉ frs X.stack := fun z => by
  rcases List.mem_cons.mp (I.stkSub c z) with q | q
  · exact I.cne y c e q
  · obtain ⟨_, o, ho, _⟩ := I.ok.funs.mem q
    exact absurd (Nat.lt_of_lt_of_le (Heap.lt_size ho) (I.ok.cab y c (hfn y) e)) (Nat.lt_irrefl _)
theorem run_tries {pins : List (Addr × Obj)} {σ : L2.St} {H : Hp} {s : Shared} {w : Wd} {ρ : Ev} {M : Mst} {Q : VK} {L a g : Addr} {bs : List (Lm × Den)} {vsl : List V} {ls : List Lm} (T : TryA X.prog X.w X.K X.mg xs) (TL : TriesK X.K X.mg) (hfn : ∀ y, X.fn y = true) (I : Inv X pins σ H s) (hk : 1 ≤ k) (hr : Room (k + 3) X.A)
    (hbs : ∀ q ∈ bs, BodyOk X k q.1 q.2 ∧ q.1.cells L = X.env.cells) (ha : w.F a = some (.lst vsl)) (hl : LamsR w.F L vsl ls) (hg : X.mg "_law_tries" = some (.ref g)) (m : MR X.K X.mg w H M) (er : ER X.K X.mg w M σ ρ)
    (p : Post X W σ [] w H M ((triesL bs xs ρ ls [] M).bind fun ts M1 => .ok (.t (.lst ts)) M1) (CE X [] w H M Q)) : wpAny (model X.prog X.w) X.A (call (.ref g) [.ref a]) (EP X pins σ Q) X.xe s := by
  obtain ⟨fL, fdL, st, scope, t1, t2, t3, t4, t5, t6, t7, t8, t9⟩ := TL.ex
  obtain rfl : g = fL := by rw [t1] at hg; cases hg; rfl
  obtain ⟨p1, p2, p3, p4, p5, p6, p7, hB⟩ := t5
  obtain ⟨oc, od, kV, doc, pm, an, cdv, ct, osl, rfl, lk, hcd⟩ := t2.ex
  have e0 := env0_re I
  have T1 := T (reBase s.heap H (frs X.stack)) e0.mod.kin e0.mod.glob
  obtain ⟨fP, fT, C1, C2, C3, fdP, fdT, stT, u1, u2, u3, u4, u5, u6, u7, u8, u9, u10, m1, m2, m3, tc⟩ := T1.ex
  have bz : X.base.objs.size ≤ (reBase s.heap H (frs X.stack)).objs.size := by
    rw [show (reBase s.heap H (frs X.stack)).objs.size = s.heap.objs.size from PySem.W.hideAll_size _ _]
    exact Nat.le_trans I.ok.bsz I.sz
  have rc : codeAny (model X.prog X.w) X.A (.call (.ref g) ⟨[.ref a], []⟩) (CR C8.CX0 X.stack X.prog X.w H s Q C8.E0) s := by
    refine run_ofS (base := reBase s.heap H (frs X.stack)) (N := ["_law_asks", "_law_ask"]) (ps := ["_law_asks"]) (us := [.ref a]) (vs := [.ref a]) lk hcd t4 hr e0 (t3 s [.ref a] I.kIn rfl) (.cons rfl .nil) rfl fun hr' => ?_
    rw [hB]
    have he : ∀ (s5 : Shared) (H5 : Hp) (C : Addr) (cl : List (Str × Addr)) (fp : List Addr),
        PE (((cxOf C8.CX0 X.prog X.w X.K X.mg (reBase s.heap H (frs X.stack)) ["_law_asks", "_law_ask"] "_law_tries" (defScope st) g cdv X.A X.stack s H C8.E0).nox).blk s5 H5 scope (compEnvC scope cl C (cxOf C8.CX0 X.prog X.w X.K X.mg (reBase s.heap H (frs X.stack)) ["_law_asks", "_law_ask"] "_law_tries" (defScope st) g cdv X.A X.stack s H C8.E0).env) fp)
          (.Call (.Name "_law_try" p1) [.Name "_law_ask" p2] [] p3) (tTried X W σ k xs ρ) := fun s5 H5 C cl fp => by
      refine ⟨fun pinsV s6 σV H6 Q6 I6 h => ?_⟩
      obtain ⟨f, c', dv, l, F, w6, M6, h1, la, hB6, m6, er6, p6'⟩ := h
      have sc9 : (relabel scope (cxOf C8.CX0 X.prog X.w X.K X.mg (reBase s.heap H (frs X.stack)) ["_law_asks", "_law_ask"] "_law_tries" (defScope st) g cdv X.A X.stack s H C8.E0).env).names.lookup ("_law_try" : Str) = some .globalImplicit := rel_look (by decide) t9
      have sc8 : (relabel scope (cxOf C8.CX0 X.prog X.w X.K X.mg (reBase s.heap H (frs X.stack)) ["_law_asks", "_law_ask"] "_law_tries" (defScope st) g cdv X.A X.stack s H C8.E0).env).names.lookup ("_law_ask" : Str) = some .local := lookup_relabel_local t8
      refine wpAny_Call_Name_kw (ld_glob I6 sc9 u5 ?_ (by decide))
      refine PySem.W.callWith_K (h₀ := reBase s.heap H (frs X.stack)) I6.ok.mod.kin u6.kp ?_ (by rfl) (by rfl)
      refine Calls.spliced_cons (thn ((pe_var (pos := p2) (i := 1) rfl (.inl sc8)).run pinsV s6 σV H6 (fun v H7 => v = .ref f ∧ H7 = H6) I6 ⟨.ref f, h1, rfl, rfl⟩) fun u s7 ⟨v, H7, I7, r7, q7⟩ => ?_)
      obtain ⟨ev, eH⟩ := q7
      subst ev
      rw [eH] at I7
      obtain rfl : u = Value.ref f := r7
      refine Calls.spliced_nil ⟨I7.kIn, ?_⟩
      refine run_try (X := X) T1 ⟨rfl, rfl, rfl, rfl⟩ I I7 (fun Ng sg cdg g' pn xe pinsZ sZ σZ HZ IZ y c e o ho => ?_) (base_re I) bz hk (hr'.mono (by omega)) hB6 u5 la m6 er6 p6'
      obtain ⟨z1, z2⟩ := IZ.bs c o (reBase_get ho (I.freeC y c e) (cell_nofr I hfn e))
      exact ⟨⟨o.slots, z1⟩, z2⟩
    refine ⟨_, (pss_one (ps_ret (pe_lc (X := (cxOf C8.CX0 X.prog X.w X.K X.mg (reBase s.heap H (frs X.stack)) ["_law_asks", "_law_ask"] "_law_tries" (defScope st) g cdv X.A X.stack s H C8.E0).nox) (own := [("_law_ask", 1)]) (g := gName 1) rfl t4.nd (pi_list (pe_var (i := 0) rfl (.inl t6)))
      t7 (fun s5 H5 C cl fp => pg_name t4.nd rfl (.inl (lookup_relabel_local t8)) (.inr (lookup_relabel_local t8))) (fun s5 H5 C cl fp => pts_nil) he))).nox, ?_⟩
    refine ⟨.ref a, rfl, a, rfl, ⟨vsl, SqL.of (m.sub _ _ ha)⟩, fun D hD => ?_⟩
    have st1 := LcS.new (W := W) (C := CE X [] w H M Q) (kont := fun M => (triesL bs xs ρ ls [] M).bind fun ts M1 => .ok (.t (.lst ts)) M1) m er hD p
    exact tries_loop (σt := L2.start ["_law_asks", "_law_ask"] [.ref a]) (Q := Q) hbs ha hl (fun _ => Nat.lt_succ_self 1) st1 fun acc H' h => LcS.done (Ext.refl m) h
  refine wpAny_call (codeAny_mono rc fun r s2 hq => ?_)
  cases r with
  | error e => exact (show False from hq).elim
  | ok fl =>
    cases fl with
    | ret u => exact I.after hq
    | next => exact False.elim hq
    | brk => exact False.elim hq
    | cont => exact False.elim hq
end
end DL

/-! DL59: asks = [lambda: .., ..]; _law_tries(asks), _law_tries([lambda: .., ..]) -/
namespace DL
open PySem L2 PySem.Spec PyProof.Rows LamX
section
variable {X : Cx} {W : WX} {j k i : Nat} {x y q : Str} {es : List Expr} {e : Expr} {pos p p2 lpos spos : Pos} {l : Lm} {ls : List Lm} {L : Addr} {xs : List Str} {bs : List (Lm × Den)}
def rdLams (X : Cx) (j : Nat) (x q : Str) (L : Addr) (ls : List Lm) : TA := fun _ H Q => ∃ w M, MR X.K X.mg w H M ∧ M[j]? = some (.tbl x q) ∧ ∀ w' H' vs, Ext [] w H M w' H' M → MR X.K X.mg w' H' M → LamsR w'.F L vs ls → Q vs H'
def DLs (X : Cx) (j : Nat) (x q : Str) (L : Addr) (es : List Expr) (ls : List Lm) : Prop := PA X es (rdLams X j x q L ls)
theorem dl_nil : DLs X j x q L [] [] := pa_nil.mono fun σ H Q ⟨w, M, m, hj, h⟩ => h w H [] (Ext.refl m) m .nil
theorem dl_cons (he : PE X e (tLamD X j x l L)) (hr : DLs X j x q L es ls) (hq : l.q = q) (hs : starEach (e :: es) X.env = (false, eval e X.env) :: starEach es X.env := by rfl) : DLs X j x q L (e :: es) (l :: ls) :=
  (pa_cons he hr hs).mono fun σ H Q ⟨w, M, m, hj, h⟩ => ⟨w, M, m, by rw [hq]; exact hj, fun w1 H1 f c' dv e1 m1 lf => ⟨w1, M, m1, hj, fun w2 H2 vs e2 m2 lr => h w2 H2 _ (e1.trans0 e2) m2 (.cons (lf.mono e2.F) lr)⟩⟩
def sAsks (L : Addr) (i j : Nat) (x q : Str) (ls : List Lm) : DenS := fun ρ M => match M[j]? with
  | some (.tbl x' q') => if x' = x ∧ q' = q ∧ ls.length ≤ 1000000 then some (.nx (ρ.set i (some (.c L ls))), M) else none
  | _ => none
theorem ds_asks {py : Pos} (i : Nat) (hN : X.N.Nodup) (hl : DLs X j x q L es ls) (hi : X.N[i]? = some y := by rfl) (hx : L2.Loc X.env.scope y := by first | exact Or.inl rfl | exact Or.inr rfl) (hs : swapsWith (.List es p) (some (.Name y py)) spos.line X.env = pure false := by rfl) (hf : X.fn y = true ∨ X.env.scope.names.lookup y = some .local := by first | exact .inl rfl | exact .inr rfl) :
    DS X W (.Assign [.Name y py] (.List es p) spos) (sAsks L i j x q ls) := (ps_set hN hi hx (pe_lst hl) hs hf).mono fun Dn σ H h => by
  obtain ⟨w, ρ, M, m, er, h⟩ := h
  unfold sAsks at h
  cases z : M[j]? with
  | none => rw [z] at h; exact (show False from h).elim
  | some t =>
    rw [z] at h
    cases t with
    | tbl x' q' =>
      replace h : PostS X W [] w H M (if x' = x ∧ q' = q ∧ ls.length ≤ 1000000 then some (.nx (ρ.set i (some (.c L ls))), M) else none) Dn := h
      split at h
      · rename_i hh
        obtain ⟨rfl, rfl, hlen⟩ := hh
        refine ⟨w, M, m, z, fun w1 H1 vs e1 m1 lr => ⟨by rw [lr.length]; exact big_le hlen, fun a ha => ?_⟩⟩
        obtain ⟨e2, m2⟩ := grow1 (fs := []) (o := .lst vs) m1 ha
        have sF : Same w1.F (upd w1.F a (.lst vs)) := e2.F
        exact h _ _ _ (e1.trans0 e2) m2 ((er.stay (e1.trans0 e2)).set (x := .c L ls) ⟨a, vs, rfl, upd_same, lr.mono sF⟩)
      · exact (show False from h).elim
    | _ => exact (show False from h).elim
theorem de_tries {p3 : Pos} (i : Nat) (T : TryA X.prog X.w X.K X.mg xs) (TL : TriesK X.K X.mg) (hfn : ∀ y, X.fn y = true) (hk : 1 ≤ k) (hr : Room (k + 3) X.A) (hbs : ∀ q ∈ bs, BodyOk X k q.1 q.2 ∧ q.1.cells L = X.env.cells) (hg : Gl X "_law_tries")
    (hN : X.N[i]? = some y := by rfl) (hv : Vis X.env.scope y := by first | exact Or.inl rfl | exact Or.inr (Or.inl rfl) | exact Or.inr (Or.inr rfl)) (hd : (y == ("__debug__" : Str)) = false := by decide) (hcd : (y == ("__classdict__" : Str)) = false := by decide) :
    DE X W (.Call (.Name "_law_tries" p) [.Name y p3] [] pos) (eTries L i bs xs) := by
  refine ⟨fun pins s σ H Q I h => ?_⟩
  obtain ⟨w, ρ, M, m, er, p0⟩ := h
  obtain ⟨fL, fdL, st, scope, t1, t2, t3⟩ := TL.ex
  unfold eTries at p0
  split at p0
  · rename_i L' ls' hρ
    split at p0
    · rename_i hL
      subst hL
      obtain ⟨v, hv1, a, vs, rfl, ha, lr⟩ := er.at_ i _ hρ
      refine wpAny_Call_Name_kw (ld_glob I hg t1 ?_ (by decide))
      refine PySem.W.callWith_K (h₀ := X.base) I.ok.mod.kin t2.kp ?_ (by rfl) (by rfl)
      refine Calls.spliced_cons (thn ((pe_var (pos := p3) (i := i) hN hv hd hcd).run pins s σ H (fun v H7 => v = .ref a ∧ H7 = H) I ⟨.ref a, hv1, rfl, rfl⟩) fun u s7 ⟨v, H7, I7, r7, q7⟩ => ?_)
      obtain ⟨ev, eH⟩ := q7
      subst ev
      rw [eH] at I7
      obtain rfl : u = Value.ref a := r7
      exact Calls.spliced_nil ⟨I7.kIn, run_tries T TL hfn I7 hk hr hbs ha lr t1 m er p0⟩
    · exact p0.elim
  · exact p0.elim
noncomputable def eTriesL (j : Nat) (x q : Str) (ls : List Lm) (bs : List (Lm × Den)) (xs : List Str) : Den := fun ρ M => match M[j]? with
  | some (.tbl x' q') => if x' = x ∧ q' = q ∧ ls.length ≤ 1000000 then (triesL bs xs ρ ls [] M).bind fun ts M1 => .ok (.t (.lst ts)) M1 else .bad
  | _ => .bad
theorem de_triesL (T : TryA X.prog X.w X.K X.mg xs) (TL : TriesK X.K X.mg) (hfn : ∀ y, X.fn y = true) (hk : 1 ≤ k) (hr : Room (k + 3) X.A) (hbs : ∀ q ∈ bs, BodyOk X k q.1 q.2 ∧ q.1.cells L = X.env.cells) (hg : Gl X "_law_tries") (hl : DLs X j x q L es ls) :
    DE X W (.Call (.Name "_law_tries" p) [.List es p2] [] pos) (eTriesL j x q ls bs xs) := by
  refine ⟨fun pins s σ H Q I h => ?_⟩
  obtain ⟨w, ρ, M, m, er, p0⟩ := h
  obtain ⟨fL, fdL, st, scope, t1, t2, t3⟩ := TL.ex
  unfold eTriesL at p0
  split at p0
  · rename_i x' q' hj
    split at p0
    · rename_i hh
      obtain ⟨rfl, rfl, hlen⟩ := hh
      refine wpAny_Call_Name_kw (ld_glob I hg t1 ?_ (by decide))
      refine PySem.W.callWith_K (h₀ := X.base) I.ok.mod.kin t2.kp ?_ (by rfl) (by rfl)
      show wpAny _ _ (spliced ((false, eval (.List es p2) X.env) :: backTo pos (starEach [] X.env))) _ _ s
      refine Calls.spliced_cons (thn ((pe_lst (pos := p2) hl).run pins s σ H (fun v H1 => ∃ (a : Addr) (vs : List V) (w1 : Wd), v = .ref a ∧ Ext [] w H M w1 H1 M ∧ MR X.K X.mg w1 H1 M ∧ w1.F a = some (.lst vs) ∧ LamsR w1.F L vs ls) I
        ⟨w, M, m, hj, fun w1 H1 vs e1 m1 lr => ⟨by rw [lr.length]; exact big_le hlen, fun a ha => ?_⟩⟩) fun u s1 hh => ?_)
      · obtain ⟨e2, m2⟩ := grow1 (fs := []) (o := .lst vs) m1 ha
        exact ⟨a, vs, _, rfl, e1.trans0 e2, m2, upd_same, lr.mono e2.F⟩
      · obtain ⟨v, H1, I1, r1, a, vs, w1, hv, e1, m1, ha, lr⟩ := hh
        subst hv
        obtain rfl : u = Value.ref a := r1
        exact Calls.spliced_nil ⟨I1.kIn, run_tries T TL hfn I1 hk hr hbs ha lr t1 m1 (er.stay e1) (PostE.from p0 e1 fun _ z => nomatch z)⟩
    · exact p0.elim
  · exact p0.elim
end
end DL

/-! DL60: a def that makes lambdas; the law's start with tables -/
namespace DL
open PySem L2 PySem.Spec PyProof.Rows LamX
/-- what does not hang on where the frame stands -/
noncomputable def gInd (G : Addr → Fn) : Fn := fun xs M => open Classical in if ∀ L, G L xs M = G 0 xs M then G 0 xs M else .bad
def spDA (K : PySem.W.Frag) (mg : Mg) (n : Nat) (G : Addr → Fn) : Sp := fun vs H Q E => ∃ w xs M, MR K mg w H M ∧ VRL K mg w M vs xs ∧ vs.length = n ∧ ∀ L, PostC K mg E w H M (G L xs M) Q
section
variable {P : Program} {w : World} {K : PySem.W.Frag} {mg : Mg} {base : Heap} {x : Str} {st : Stmt} {fd : FuncData} {N ps : List Str} {k : Nat} {b : Addr → DenS}
theorem fn_okA0 (F : Fun K x x st (He.ga K x) fd) (S : FnScope N ps (defScope st)) (TB : TabB base mg (He.cT K (x, none)).1 (He.cT K (x, none)).2)
    (h : ∀ (cdv : Value) (A : Around) (outer : List Env) (s : Shared) (H : Hp) (E : XK), Room k (A.deeper (envOfC x (defScope st) s.heap.objs.size (He.ga K x) cdv)) → Takes (cxOf (L2.CX P w) P w K mg base N x (defScope st) (He.ga K x) cdv A outer s H E) (fun cls d _ H => E cls d H) →
      PassesOwn (model P w) (A.deeper (envOfC x (defScope st) s.heap.objs.size (He.ga K x) cdv)) (cxOf (L2.CX P w) P w K mg base N x (defScope st) (He.ga K x) cdv A outer s H E).env (cxOf (L2.CX P w) P w K mg base N x (defScope st) (He.ga K x) cdv A outer s H E).xe →
      MkX (cxOf (L2.CX P w) P w K mg base N x (defScope st) (He.ga K x) cdv A outer s H E) x →
      ∃ b', DB (cxOf (L2.CX P w) P w K mg base N x (defScope st) (He.ga K x) cdv A outer s H E) (fun cls d _ H => E cls d H) (defBody st) b' ∧ b' = b s.heap.objs.size) :
    FnOk P w K mg base (L2.CX P w) (k + 1) (He.ga K x) fd ps (spDA K mg ps.length fun L => body N.length (b L)) := by
  obtain ⟨oc, od, kV, doc, pm, an, cdv, ct, osl, rfl, lk, hcd⟩ := F.ex
  obtain ⟨c, rfl⟩ := He.codeIn_ref hcd
  have hc : He.codeOf K (x, none) = c := He.codeOf_eq (p := (x, none)) lk rfl
  refine fn_of lk hcd S (fun vs H Q E z => ?_) fun A outer s H vs Q E hr hq => ⟨_, (by
    obtain ⟨b', h1, h2⟩ := h (.ref c) A outer s H E hr (takes_of rfl rfl rfl rfl) (passes_of rfl) ⟨by show Value.ref c = .ref (He.codeOf K (x, none)); rw [hc], TB⟩
    rw [h2] at h1
    exact h1), ?_⟩
  · obtain ⟨_, _, _, _, _, hl, _⟩ := z
    exact hl
  · obtain ⟨wd, xs, M, m, vr, hl, p⟩ := hq
    have er : ER K mg wd M (L2.start N vs) (env0 N.length xs) := by
      have hxs := vr.length
      refine ⟨by unfold L2.start env0; simp [hxs], fun i y q => ?_⟩
      unfold env0 at q
      by_cases hi : i < xs.length
      · rw [List.getElem?_append_left (by simpa using hi), List.getElem?_map] at q
        cases z : xs[i]? with
        | none => rw [z] at q; cases q
        | some y' =>
          rw [z] at q
          have e : y' = y := Option.some.inj (Option.some.inj q)
          subst e
          obtain ⟨v, h1, h2⟩ := vr.get z
          refine ⟨v, ?_, h2⟩
          unfold L2.start
          rw [List.getElem?_append_left (by simpa [hxs] using hi), List.getElem?_map, h1]
          rfl
      · rw [List.getElem?_append_right (by simpa using hi), List.getElem?_replicate] at q
        split at q <;> cases q
    refine ⟨wd, _, M, m, er, ?_⟩
    replace p : PostC K mg E wd H M (outOf M.length (b s.heap.objs.size (env0 N.length xs) M)) Q := p s.heap.objs.size
    show PostS _ _ [] wd H M _ _
    cases z : b s.heap.objs.size (env0 N.length xs) M with
    | none => rw [z] at p; exact p
    | some q =>
      obtain ⟨fl, M'⟩ := q
      rw [z] at p
      cases fl with
      | nx ρ => exact fun w' H' σ' e m' _ => p w' H' .non [] e.take (m'.take _) (rr_d .non) fun _ z => nomatch z
      | rt r =>
        intro w' H' v fp e m' q hf
        obtain ⟨fp', q', hf'⟩ := q.ret e.len m'
        refine p w' H' v fp' e.take (m'.take _) q' fun a ha => ?_
        rcases hf' a ha with z | ⟨k, hk, z⟩
        · exact hf a z
        · exact e.ph k hk a z
      | bk ρ => exact p.elim
      | ct ρ => exact p.elim
      | xc e ρ => exact fun w' H' σ' cls d ex m' _ xr => p w' H' cls d ex.take (m'.take _) xr
theorem fn_okA {G : Addr → Fn} (F : Fun K x x st (He.ga K x) fd) (S : FnScope N ps (defScope st)) (TB : TabB base mg (He.cT K (x, none)).1 (He.cT K (x, none)).2)
    (h : ∀ (cdv : Value) (A : Around) (outer : List Env) (s : Shared) (H : Hp) (E : XK), Room k (A.deeper (envOfC x (defScope st) s.heap.objs.size (He.ga K x) cdv)) → Takes (cxOf (L2.CX P w) P w K mg base N x (defScope st) (He.ga K x) cdv A outer s H E) (fun cls d _ H => E cls d H) →
      PassesOwn (model P w) (A.deeper (envOfC x (defScope st) s.heap.objs.size (He.ga K x) cdv)) (cxOf (L2.CX P w) P w K mg base N x (defScope st) (He.ga K x) cdv A outer s H E).env (cxOf (L2.CX P w) P w K mg base N x (defScope st) (He.ga K x) cdv A outer s H E).xe →
      MkX (cxOf (L2.CX P w) P w K mg base N x (defScope st) (He.ga K x) cdv A outer s H E) x →
      ∃ b', DB (cxOf (L2.CX P w) P w K mg base N x (defScope st) (He.ga K x) cdv A outer s H E) (fun cls d _ H => E cls d H) (defBody st) b' ∧ b' = b s.heap.objs.size) (hG : G = fun L => body N.length (b L)) :
    FnOk P w K mg base (L2.CX P w) (k + 1) (He.ga K x) fd ps (spDA K mg ps.length G) := by
  subst hG
  exact fn_okA0 F S TB h
theorem fn_okM {f : Addr} {G : Addr → Fn} (F : FnOk P w K mg base (L2.CX P w) k f fd ps (spDA K mg ps.length G)) : FnOk P w K mg base (L2.CX P w) k f fd ps (spD K mg ps.length (gInd G)) := F.imp fun vs H Q E ⟨wd, xs, M, m, vr, hl, p⟩ => by
  refine ⟨wd, xs, M, m, vr, hl, fun L => ?_⟩
  unfold gInd at p
  split at p
  · rename_i e; rw [e L]; exact p
  · exact p.elim
/-! ### the law -/
/-- the tables as they stand at first -/
def tabM (ts : List (Str × Str)) : Mst := ts.map fun t => .tbl t.1 t.2
def tabP (K : PySem.W.Frag) (t : Str × Str) : Addr := (He.cT K (t.1, none)).2
def spLawT (K : PySem.W.Frag) (ts : List (Str × Str)) : Sp := fun vs H Q _ => ∃ (a : Addr) (ns : List Int), vs = [.ref a] ∧ SqL K H a (ns.map V.int) ∧ ns.length ≤ 63 ∧ (∀ t ∈ ts, H (tabP K t) = some (.tbl #[])) ∧ ∀ H', Q (.bl true) H'
/-- all but the tables -/
def noTs (H : Hp) : Hp := fun b => match H b with
  | some (.tbl _) => none
  | o => o
theorem noTs_of {H : Hp} {b : Addr} {o : HO} (h : H b = some o) (n : ∀ ps, o ≠ .tbl ps) : noTs H b = some o := by
  unfold noTs
  rw [h]
  cases o <;> first | rfl | exact absurd rfl (n _)
theorem noTs_in {H : Hp} {b : Addr} {o : HO} (h : noTs H b = some o) : H b = some o := by
  unfold noTs at h
  split at h
  · cases h
  · exact h
theorem noTs_tbl {H : Hp} {b : Addr} {ps : Array Value} (h : H b = some (.tbl ps)) : noTs H b = none := by unfold noTs; rw [h]
theorem seqTs {H : Hp} {a : Addr} {xs : List V} (h : SqL K H a xs) : SqL K (noTs H) a xs := by
  rcases h with (h | ⟨o, h⟩) | h
  · exact .inl (.inl (noTs_of h fun _ z => nomatch z))
  · exact .inl (.inr ⟨o, noTs_of h fun _ z => nomatch z⟩)
  · exact .inr h
theorem fn_lawM {f : Addr} {y : Str} {G : Addr → Fn} {ts : List (Str × Str)} (F : FnOk P w K mg base (L2.CX P w) k f fd [y] (spDA K mg ([y] : List Str).length G)) (hn : (ts.map (tabP K)).Nodup)
    (h : ∀ (L : Addr) (ns : List Int), ns.length ≤ 63 → ∃ M, G L [.d (.ro (ns.map D.int))] (tabM ts) = .ok (.t (.d (.bl true))) M) : FnOk P w K mg base (L2.CX P w) k f fd [y] (spLawT K ts) := F.imp fun vs H Q E ⟨a, ns, hv, hs, hl, hT, hq⟩ => by
  subst hv
  have at_ : ∀ (j : Nat) (t : T), (tabM ts)[j]? = some t → ∃ t0, ts[j]? = some t0 ∧ t = .tbl t0.1 t0.2 ∧ H (tabP K t0) = some (.tbl #[]) ∧ (ts.map (tabP K)).getD j 0 = tabP K t0 := fun j t e => by
    unfold tabM at e
    rw [List.getElem?_map] at e
    cases z : ts[j]? with
    | none => rw [z] at e; cases e
    | some t0 =>
      rw [z] at e
      cases e
      refine ⟨t0, rfl, rfl, hT _ (List.mem_of_getElem? z), ?_⟩
      rw [List.getD_eq_getElem?_getD, List.getElem?_map, z]
      rfl
  refine ⟨⟨noTs H, fun j => (ts.map (tabP K)).getD j 0, fun j => [(ts.map (tabP K)).getD j 0]⟩, [.d (.ro (ns.map D.int))], tabM ts, ⟨fun b o e => noTs_in e, fun j t e => ?_, fun i j b hi hj h1 h2 => ?_⟩, .cons (Dp.ro (seqTs hs) (ints_dpK ns)) .nil, rfl, fun L => ?_⟩
  · obtain ⟨t0, z, rfl, hh, eg⟩ := at_ j t e
    refine ⟨?_, by simp⟩
    show TR K mg (noTs H) H (.ref ((ts.map (tabP K)).getD j 0)) (.tbl t0.1 t0.2) [(ts.map (tabP K)).getD j 0]
    rw [eg]
    exact .tbl rfl hh (noTs_tbl hh) True.intro fun pos cv hc => by
      have z : codeAmong pos [] = some cv := hc
      simp [codeAmong] at z
  · have e1 := List.mem_singleton.mp h1
    have e2 := List.mem_singleton.mp h2
    have li : i < (ts.map (tabP K)).length := by rw [List.length_map]; simpa [tabM] using hi
    have lj : j < (ts.map (tabP K)).length := by rw [List.length_map]; simpa [tabM] using hj
    have g1 : (ts.map (tabP K)).getD i 0 = (ts.map (tabP K))[i] := by rw [List.getD_eq_getElem?_getD, List.getElem?_eq_getElem li]; rfl
    have g2 : (ts.map (tabP K)).getD j 0 = (ts.map (tabP K))[j] := by rw [List.getD_eq_getElem?_getD, List.getElem?_eq_getElem lj]; rfl
    exact (List.getElem_inj hn).mp (by rw [← g1, ← g2, ← e1, ← e2])
  · obtain ⟨M', hM⟩ := h L ns hl
    rw [hM]
    intro w' H' v fp e m q _
    rw [rr_bl q]
    exact hq H'
end
end DL

/-! DL61: lambdas as the generator prints them -/
namespace DL
open PySem L2 PySem.Spec PyProof.Rows LamX
/-! ### the text of a lambda, by its place -/
def lamPs : Expr → Arguments
  | .Lambda ps _ _ _ => ps
  | _ => ⟨[], [], none, [], [], none, []⟩
def lamBd : Expr → Expr
  | .Lambda _ b _ _ => b
  | e => e
def lamSc : Expr → Scope
  | .Lambda _ _ s _ => s
  | _ => ⟨.function, [], false, false, []⟩
abbrev lamQ (x : Str) : Str := x ++ ".<locals>." ++ "<lambda>"
abbrev lamL (x : Str) (sc0 : Scope) (dx : Option Str) (e : Expr) : Lm := ⟨lamQ x, lamPs e, lamBd e, lamSc e, fun L => cellsFrom (L + 1) sc0.names [], dx⟩
def noE : Expr := .Constant .none 0 ⟨0, 0, 0, 0⟩
def noS : Stmt := .Pass ⟨0, 0, 0, 0⟩
/-- the statement at a path: places, and between them 0 for a body, 1 for an else -/
def stPath : List Stmt → List Nat → Stmt
  | b, [i] => b.getD i noS
  | b, i :: k :: r => (match b.getD i noS, k with
    | .For _ _ b1 _ _, 0 => stPath b1 r
    | .If _ b1 _ _, 0 => stPath b1 r
    | .If _ _ b2 _, _ => stPath b2 r
    | .While _ b1 _ _, 0 => stPath b1 r
    | _, _ => noS)
  | _, [] => noS
def asgEs : Stmt → List Expr
  | .Assign _ (.List es _) _ => es
  | _ => []
/-- the list of lambdas that _law_tries gets, in a return's _law_same(_law_tries([..]), ..) -/
def retEs : Stmt → List Expr
  | .Return (some (.Call _ (.Call _ [.List es _] _ _ :: _) _ _)) _ => es
  | _ => []
section
variable {X : Cx} {W : WX} {j k i : Nat} {x y n : Str} {params : Arguments} {body e : Expr} {scope : Scope} {pos p p2 lpos : Pos} {l : Lm} {L : Addr} {xs : List Str} {F : Den} {bs : List (Lm × Den)}
abbrev lamD (X : Cx) (params : Arguments) (body : Expr) (scope : Scope) : Lm := ⟨X.env.qual ++ "<lambda>", params, body, scope, fun _ => X.env.cells, none⟩
theorem de_try0 (T : TryA X.prog X.w X.K X.mg xs) (mk : MkX X x) (hg : Gl X "_law_try") (hk : 1 ≤ k) (hr : Room (k + 2) X.A) (S : LamP X.N X.env.scope scope) (hdef : defaultsOf params X.env = ([], [])) (hbd : BindL (lamD X params body scope))
    (hbody : ∀ (A : Around) (outer : List Env) (s : Shared) (H : Hp) (E : XK) (f c' : Addr), Room k (A.deeper (lamEnv X scope s.heap.objs.size f c')) → DE (lamCx X A outer s H E scope f c') (fun cls d _ H => E cls d H) body F) :
    DE X W (.Call (.Name "_law_try" p) [.Lambda params body scope lpos] [] pos) (eTry j x (X.env.qual ++ "<lambda>") xs F) :=
  de_try (l := lamD X params body scope) (L := 0) T (pe_lam0 mk ⟨rfl, rfl, rfl, rfl⟩ rfl S rfl hdef) rfl hg hk hr ⟨S, rfl, hbd, hbody⟩
theorem lam_takes {A : Around} {outer : List Env} {s : Shared} {H : Hp} {E : XK} {f c' : Addr} : Takes (lamCx X A outer s H E scope f c') (fun cls d _ H => E cls d H) := takes_of rfl rfl rfl rfl
theorem lam_passes {A : Around} {outer : List Env} {s : Shared} {H : Hp} {E : XK} {f c' : Addr} : PassesOwn (model (lamCx X A outer s H E scope f c').prog (lamCx X A outer s H E scope f c').w) (lamCx X A outer s H E scope f c').A (lamCx X A outer s H E scope f c').env (lamCx X A outer s H E scope f c').xe := passes_of rfl
theorem hb_nil : ∀ q ∈ ([] : List (Lm × Den)), BodyOk X k q.1 q.2 ∧ q.1.cells L = X.env.cells := fun _ z => nomatch z
theorem hb_cons (h : BodyOk X k l F) (hc : l.cells L = X.env.cells) (hr : ∀ q ∈ bs, BodyOk X k q.1 q.2 ∧ q.1.cells L = X.env.cells) : ∀ q ∈ (l, F) :: bs, BodyOk X k q.1 q.2 ∧ q.1.cells L = X.env.cells := fun q hq => by
  rcases List.mem_cons.mp hq with z | z
  · rw [z]; exact ⟨h, hc⟩
  · exact hr q z
end
theorem MkX.blk {X : Cx} {x : Str} (h : MkX X x) {s : Shared} {H : Hp} {scope : Scope} {C : Addr} {cl : List (Str × Addr)} {fp : List Addr} : MkX (X.blk s H scope (compEnvC scope cl C X.env) fp) x := ⟨h.code, h.tab⟩
theorem tell_cons {K : PySem.W.Frag} {mg : Mg} {C1 C2 C3 : Addr} {c : Str} {xs : List Str} (h : ∃ C, mg c = some (.ref C) ∧ PySem.W.exmAny K (.ref C) [.ref C1, .ref C2, .ref C3] = some true ∧ XfC K C ∧ PySem.W.findIn K (.ref C) "code" = some none ∧ ∀ n ∈ partsLast ++ partsCl.flatMap (·.2), PySem.W.findIn K (.ref C) n = some none)
    (hr : ∀ c ∈ xs, TellC K mg C1 C2 C3 c) : ∀ d ∈ c :: xs, TellC K mg C1 C2 C3 d := fun d hd => by
  rcases List.mem_cons.mp hd with z | z
  · rw [z]; exact ⟨h⟩
  · exact hr d z
/-! ### for the plain law -/
def triesD (xs : List Str) (ρ : Ev) : List Den → List T → Mst → Out (List T)
  | [], acc, M => .ok acc M
  | F :: r, acc, M => (told xs (F ρ M)).bind fun t M1 => match t with
      | .t t => if acc.length < 1000000 then triesD xs ρ r (acc ++ [t]) M1 else .bad
      | .h _ => .bad
theorem lookB_of : ∀ {bs : List (Lm × Den)} {q : Lm × Den}, (bs.map (·.1.dx)).Nodup → q ∈ bs → lookB bs q.1 = some q.2
  | (l, F) :: r, q, hn, hq => by
    rw [List.map_cons, List.nodup_cons] at hn
    rcases List.mem_cons.mp hq with z | z
    · rw [z]; exact lookB_self
    · rw [lookB_ne fun e => hn.1 (List.mem_map.mpr ⟨q, z, by rw [e]⟩)]
      exact lookB_of hn.2 z
theorem triesL_eq {bs : List (Lm × Den)} {xs : List Str} {ρ : Ev} (hn : (bs.map (·.1.dx)).Nodup) : ∀ (qs : List (Lm × Den)) (acc : List T) (M : Mst), (∀ q ∈ qs, q ∈ bs) → triesL bs xs ρ (qs.map (·.1)) acc M = triesD xs ρ (qs.map (·.2)) acc M
  | [], acc, M, _ => rfl
  | q :: r, acc, M, h => by
    rw [List.map_cons, List.map_cons]
    unfold triesL triesD
    rw [lookB_of hn (h q List.mem_cons_self)]
    show (told xs (q.2 ρ M)).bind _ = _
    congr 1
    funext t M1
    cases t with
    | h k => rfl
    | t t =>
      show (if acc.length < 1000000 then _ else _) = if acc.length < 1000000 then _ else _
      rw [triesL_eq hn r _ _ fun z hz => h z (List.mem_cons_of_mem _ hz)]
theorem eTries_eq {L : Addr} {i : Nat} {bs : List (Lm × Den)} {xs : List Str} {ρ : Ev} {M : Mst} (hn : (bs.map (·.1.dx)).Nodup) {qs : List (Lm × Den)} (hq : ∀ q ∈ qs, q ∈ bs) (h : ρ[i]? = some (some (.c L (qs.map (·.1))))) :
    eTries L i bs xs ρ M = (triesD xs ρ (qs.map (·.2)) [] M).bind fun ts M1 => .ok (.t (.lst ts)) M1 := by
  unfold eTries
  rw [h]
  show (if L = L then _ else _) = _
  rw [if_pos rfl, triesL_eq hn qs _ _ hq]
theorem gInd_eq {G : Addr → Fn} {xs : List SV} {M : Mst} {o : Out R} (h : ∀ L, G L xs M = o) : gInd G xs M = o := by
  unfold gInd
  rw [if_pos fun L => (h L).trans (h 0).symm, h]
section
variable {P : Program} {w : World} {K : PySem.W.Frag} {mg : Mg} {base : Heap} {f : Addr} {fd : FuncData} {ps : List Str} {k : Nat} {G : Fn}
theorem fn_okC (F : FnOk P w K mg base (L2.CX P w) k f fd ps (spDA K mg ps.length fun _ => G)) : FnOk P w K mg base (L2.CX P w) k f fd ps (spD K mg ps.length G) := F.imp fun vs H Q E ⟨wd, xs, M, m, vr, hl, p⟩ => ⟨wd, xs, M, m, vr, hl, fun _ => p⟩
end
end DL

/-! What each def does, by plain data (printed by gen.py) -/
namespace Toy
open PySem L2 DL
def xnames : List Str := ["InvalidWay"]
def tabs : List (Str × Str) := [("law", lamQ "law")]
def top (i : Nat) : Stmt := PySem.Challenge.pw_twoabreast_k03_measures.main.body.getD i (.Pass ⟨0, 0, 0, 0⟩)
abbrev s_law : Stmt := top 18
def lx_law_0 : {e : Expr // e = ((retEs (stPath (defBody s_law) [3])).getD 0 noE)} := ⟨_, by conv => rhs; whnf⟩
def lm_law_0 : Lm := lamL "law" (defScope s_law) none lx_law_0.1
def lx_law_1 : {e : Expr // e = ((retEs (stPath (defBody s_law) [3])).getD 1 noE)} := ⟨_, by conv => rhs; whnf⟩
def lm_law_1 : Lm := lamL "law" (defScope s_law) (some "_law_a") lx_law_1.1
def t_zdraw_0 : DenS :=
  (sIf (tAndD (eTB (eSeq2 eqR (eSeq2 getR (eVar 0) (eC (.int 2))) (eC (.int 0)))) (eTB (eSeq2 ltR (eSeq2 getR (eVar 0) (eC (.int 1))) (eB (scL lenD) (eCons (eSeq2 getR (eVar 0) (eC (.int 0))) eNil))))) (sSeq (sAsg (eSeq2 getR (eSeq2 getR (eVar 0) (eC (.int 0))) (eSeq2 getR (eVar 0) (eC (.int 1)))) (gSet 2))
    (sSeq (sAsg (eSeq2 addR (eSeq2 getR (eVar 0) (eC (.int 1))) (eC (.int 1))) (gItem (eVar 0) (eC (.int 1))))
    (sIf (eTB (eSeq2 gtR (eVar 2) (eSeq2 powR (eC (.int 10)) (eC (.int 18))))) (sAsg (eVar 2) (gItem (eVar 0) (eC (.int 2)))) (sAsg (eSeq2 modR (eB (scL intD) (eCons (eSeq2 addR (eSeq2 addR (eSeq2 mulR (eSeq2 getR (eVar 0) (eC (.int 3))) (eC (.int 48611))) (eSeq2 mulR (eSeq2 modR (eB (scL intD) (eCons (eVar 2) eNil)) (eC (.int 1000003))) (eC (.int 7919)))) (eC (.int 104729))) eNil)) (eC
        (.int 1000000007))) (gItem (eVar 0) (eC (.int 3))))))) sNil)
def t_zdraw_1 : DenS :=
  (sIf (eTB (eSeq2 gtR (eSeq2 getR (eVar 0) (eC (.int 2))) (eC (.int 0)))) (sSeq (sAsg (eSeq2 modR (eB (scL intD) (eCons (eSeq2 getR (eVar 0) (eC (.int 2))) eNil)) (eVar 1)) (gSet 3))
    (sSeq (sAsg (eSeq2 divR (eSeq2 getR (eVar 0) (eC (.int 2))) (eVar 1)) (gItem (eVar 0) (eC (.int 2))))
    (sRet (eVar 3)))) sNil)
def t_zdraw_2 : DenS :=
  (sAsg (eSeq2 modR (eB (scL intD) (eCons (eSeq2 addR (eSeq2 mulR (eSeq2 getR (eVar 0) (eC (.int 3))) (eSeq2 getR (eVar 0) (eC (.int 3)))) (eSeq2 mulR (eSeq2 getR (eVar 0) (eC (.int 3))) (eC (.int 31)))) eNil)) (eC (.int 1000000007))) (gSet 4))
def t_zdraw_3 : DenS :=
  (sAsg (eSeq2 modR (eB (scL intD) (eCons (eSeq2 addR (eSeq2 addR (eSeq2 mulR (eVar 4) (eC (.int 69621))) (eSeq2 mulR (eSeq2 getR (eVar 0) (eC (.int 3))) (eC (.int 40014)))) (eC (.int 25013))) eNil)) (eC (.int 1000000007))) (gItem (eVar 0) (eC (.int 3))))
def t_zdraw_4 : DenS :=
  (sRet (eSeq2 modR (eB (scL intD) (eCons (eSeq2 addR (eSeq2 divR (eSeq2 getR (eVar 0) (eC (.int 3))) (eC (.int 53))) (eSeq2 mulR (eSeq2 modR (eB (scL intD) (eCons (eSeq2 getR (eVar 0) (eC (.int 3))) eNil)) (eC (.int 9973))) (eC (.int 97)))) eNil)) (eVar 1)))
def b_zdraw : DenS :=
  (sSeq t_zdraw_0 (sSeq t_zdraw_1 (sSeq t_zdraw_2 (sSeq t_zdraw_3 t_zdraw_4))))
def m_zdraw : Fn := body 5 b_zdraw
def t_znumber_0 : DenS :=
  (sAsg (eCall m_zdraw (eArity 2 (eCons (eVar 0) (eCons (eC (.int 4)) eNil)))) (gSet 1))
def t_znumber_1 : DenS :=
  (sIf (eTB (eSeq2 eqR (eVar 1) (eC (.int 0)))) (sRet (eSeq2 subR (eCall m_zdraw (eArity 2 (eCons (eVar 0) (eCons (eC (.int 7)) eNil)))) (eC (.int 3)))) sNil)
def t_znumber_2 : DenS :=
  (sIf (eTB (eSeq2 eqR (eVar 1) (eC (.int 1)))) (sRet (eCall m_zdraw (eArity 2 (eCons (eVar 0) (eCons (eC (.int 2)) eNil))))) sNil)
def t_znumber_3 : DenS :=
  (sIf (eTB (eSeq2 eqR (eVar 1) (eC (.int 2)))) (sRet (eSeq2 subR (eCall m_zdraw (eArity 2 (eCons (eVar 0) (eCons (eSeq2 addR (eSeq2 mulR (eC (.int 2)) (eSeq2 powR (eC (.int 10)) (eC (.int 29)))) (eC (.int 1))) eNil)))) (eSeq2 powR (eC (.int 10)) (eC (.int 29))))) sNil)
def t_znumber_4 : DenS :=
  (sRet (eSeq2 subR (eCall m_zdraw (eArity 2 (eCons (eVar 0) (eCons (eC (.int 2001)) eNil)))) (eC (.int 1000))))
def b_znumber : DenS :=
  (sSeq t_znumber_0 (sSeq t_znumber_1 (sSeq t_znumber_2 (sSeq t_znumber_3 t_znumber_4))))
def m_znumber : Fn := body 2 b_znumber
def b_zof : DenS :=
  (sRet (eSeq2 getR (eVar 1) (eCall m_zdraw (eArity 2 (eCons (eVar 0) (eCons (eB (scL lenD) (eCons (eVar 1) eNil)) eNil))))))
def m_zof : Fn := body 2 b_zof
def t_zreel_0 : DenS :=
  (sAsg (eB listR (eCons (eSl (eVar 0) oNone (oSome (eC (.int 63)))) eNil)) (gSet 1))
def t_zreel_1 : DenS :=
  (sRet (eLst (eCons (eVar 1) (eCons (eC (.int 0)) (eCons (eC (.int 0)) (eCons (eSeq2 addR (eC (.int 12011)) (eSeq2 mulR (eC (.int 7)) (eB (scL lenD) (eCons (eVar 1) eNil)))) eNil))))))
def b_zreel : DenS :=
  (sSeq t_zreel_0 t_zreel_1)
def m_zreel : Fn := body 2 b_zreel
def t_zsame_0 (rec : Fn) : DenS :=
  (sIf (tOrD (eTB (eSeq2 (sc2 (isN false)) (eVar 1) (eC .non))) (eTB (eSeq2 (sc2 (isN false)) (eVar 0) (eC .non)))) (sRet (eAnd (eSeq2 (sc2 (isN false)) (eVar 1) (eC .non)) (eSeq2 (sc2 (isN false)) (eVar 0) (eC .non)))) sNil)
def t_zsame_1 (rec : Fn) : DenS :=
  (sIf (eTru (eB isiR (eCons (eVar 1) (eCons (eC (.ty "list")) eNil)))) (sSeq (sIf (tOrD (tNotD (eTru (eB isiR (eCons (eVar 0) (eCons (eC (.ty "list")) eNil))))) (eTB (eSeq2 neR (eB (scL lenD) (eCons (eVar 0) eNil)) (eB (scL lenD) (eCons (eVar 1) eNil))))) (sRet (eC (.bl false))) sNil)
    (sRet (eB (scL allDD) (eCons (eLc (iZipD (eCons (eVar 0) (eCons (eVar 1) eNil))) (.many [2, 3]) [2, 3] tYesD (eCall rec (eArity 2 (eCons (eVar 2) (eCons (eVar 3) eNil))))) eNil)))) sNil)
def t_zsame_2 (rec : Fn) : DenS :=
  (sIf (eTru (eB isiR (eCons (eVar 1) (eCons (eC (.ty "tuple")) eNil)))) (sSeq (sIf (tOrD (tNotD (eTru (eB isiR (eCons (eVar 0) (eCons (eC (.ty "tuple")) eNil))))) (eTB (eSeq2 neR (eB (scL lenD) (eCons (eVar 0) eNil)) (eB (scL lenD) (eCons (eVar 1) eNil))))) (sRet (eC (.bl false))) sNil)
    (sRet (eB (scL allDD) (eCons (eLc (iZipD (eCons (eVar 0) (eCons (eVar 1) eNil))) (.many [2, 3]) [2, 3] tYesD (eCall rec (eArity 2 (eCons (eVar 2) (eCons (eVar 3) eNil))))) eNil)))) sNil)
def t_zsame_3 (rec : Fn) : DenS :=
  (sIf (eTru (eB isiR (eCons (eVar 1) (eCons (eC (.ty "bool")) eNil)))) (sRet (eAnd (eB isiR (eCons (eVar 0) (eCons (eC (.ty "bool")) eNil))) (eSeq2 eqR (eVar 0) (eVar 1)))) sNil)
def t_zsame_4 (rec : Fn) : DenS :=
  (sIf (eTru (eB isiR (eCons (eVar 1) (eCons (eC (.ty "int")) eNil)))) (sRet (eAnd (eB isiR (eCons (eVar 0) (eCons (eC (.ty "int")) eNil))) (eAnd (eNot (eB isiR (eCons (eVar 0) (eCons (eC (.ty "bool")) eNil)))) (eSeq2 eqR (eVar 0) (eVar 1))))) sNil)
def t_zsame_5 (rec : Fn) : DenS :=
  (sRet (eAnd (eB isiR (eCons (eVar 0) (eCons (eC (.ty "str")) eNil))) (eSeq2 eqR (eVar 0) (eVar 1))))
def b_zsame (rec : Fn) : DenS :=
  (sSeq (t_zsame_0 rec) (sSeq (t_zsame_1 rec) (sSeq (t_zsame_2 rec) (sSeq (t_zsame_3 rec) (sSeq (t_zsame_4 rec) (t_zsame_5 rec))))))
def m_zsame : Nat → Fn
  | 0 => fun _ _ => .bad
  | n + 1 => body 4 (b_zsame (m_zsame n))
def b_is_way : DenS :=
  (sRet (eAnd (eB isiR (eCons (eVar 0) (eCons (eC (.ty "str")) eNil))) (eSeq2 (sc2 (inOp false)) (eVar 0) (eC (.tup ((["sum", "greatest", "least", "bag"] : List Str).map D.str))))))
def m_is_way : Fn := body 1 b_is_way
def t_measured_0 : DenS :=
  (sIf (tNotD (eTru (eCall m_is_way (eArity 1 (eCons (eVar 0) eNil))))) (sRaise "InvalidWay" 2 (fx1 "value" "InvalidWay") (eCons (eVar 0) eNil)) sNil)
def t_measured_1 : DenS :=
  (sIf (eTB (eSeq2 eqR (eVar 0) (eC (.str "sum")))) (sRet (eB (scL sumD) (eCons (eB listR (eCons (eVar 1) eNil)) eNil))) sNil)
def t_measured_2 : DenS :=
  (sIf (eTB (eSeq2 eqR (eVar 0) (eC (.str "bag")))) (sRet (eB sortedR (eCons (eB listR (eCons (eVar 1) eNil)) eNil))) sNil)
def t_measured_3 : DenS :=
  (sIf (eTB (eSeq2 eqR (eB (scL lenD) (eCons (eVar 1) eNil)) (eC (.int 0)))) (sRet (eC .non)) sNil)
def t_measured_4 : DenS :=
  (sRet (eIf (eTB (eSeq2 eqR (eVar 0) (eC (.str "greatest")))) (eB (scL maxD) (eCons (eB listR (eCons (eVar 1) eNil)) eNil)) (eB (scL minD) (eCons (eB listR (eCons (eVar 1) eNil)) eNil))))
def b_measured : DenS :=
  (sSeq t_measured_0 (sSeq t_measured_1 (sSeq t_measured_2 (sSeq t_measured_3 t_measured_4))))
def m_measured : Fn := body 2 b_measured
noncomputable def t_law_0 (L : Addr) : DenS :=
  (sAsg (eCall m_zreel (eArity 1 (eCons (eVar 0) eNil))) (gSetM 1))
noncomputable def t_law_1 (L : Addr) : DenS :=
  (sFor (iRange1 (eCons (eC (.int 5)) eNil)) (.one 2) (sSeq (sAsg (eLc (iRange1 (eCons (eCall m_zdraw (eArity 2 (eCons (eVar 1) (eCons (eC (.int 21)) eNil)))) eNil)) (.one 8) [8] tYesD (eCall m_znumber (eArity 1 (eCons (eVar 1) eNil)))) (gSet 3))
    (sSeq (sAsg (eB listR (eCons (eVar 3) eNil)) (gSet 4))
    (sSeq (sAsg (eLst (eCons (eCall m_measured (eArity 2 (eCons (eC (.str "sum")) (eCons (eVar 4) eNil)))) (eCons (eCall m_measured (eArity 2 (eCons (eC (.str "greatest")) (eCons (eVar 4) eNil)))) (eCons (eCall m_measured (eArity 2 (eCons (eC (.str "least")) (eCons (eVar 4) eNil)))) (eCons (eCall m_measured (eArity 2 (eCons (eC (.str "bag")) (eCons (eVar 4) eNil)))) (eCons
        (eCallK m_measured [1, 0] (eCons (eB tuplePR (eCons (eVar 4) eNil)) (eCons (eC (.str "bag")) eNil))) eNil)))))) (gSet 5))
    (sSeq (sAsg (eLst (eCons (eB (scL sumD) (eCons (eVar 3) eNil)) (eCons (eIf (eTB (eSeq2 neR (eVar 3) (eLst eNil))) (eB (scL maxD) (eCons (eVar 3) eNil)) (eC .non)) (eCons (eIf (eTB (eSeq2 neR (eVar 3) (eLst eNil))) (eB (scL minD) (eCons (eVar 3) eNil)) (eC .non)) (eCons (eB sortedR (eCons (eVar 3) eNil)) (eCons (eB sortedR (eCons (eVar 3) eNil)) eNil)))))) (gSet 6))
    (sSeq (sIf (tOrD (tNotD (eTru (eCall (m_zsame 4) (eArity 2 (eCons (eVar 5) (eCons (eVar 6) eNil)))))) (tNotD (eTru (eCall (m_zsame 4) (eArity 2 (eCons (eVar 4) (eCons (eVar 3) eNil))))))) (sRet (eC (.bl false))) sNil)
    (sSeq (sExpr (eAppT (eCall m_measured (eArity 2 (eCons (eC (.str "bag")) (eCons (eVar 4) eNil)))) (vC (.int 0))))
    (sIf (tNotD (eTru (eCall (m_zsame 4) (eArity 2 (eCons (eVar 4) (eCons (eVar 3) eNil)))))) (sRet (eC (.bl false))) sNil))))))))
noncomputable def t_law_2 (L : Addr) : DenS :=
  (sAsg (eCall m_zof (eArity 2 (eCons (eVar 1) (eCons (eLst (eCons (eC .non) (eCons (eC (.int 3)) (eCons (eC (.str "")) (eCons (eC (.str "Sum")) (eCons (eC (.str "most")) (eCons (eLst (eCons (eC (.str "sum")) eNil)) (eCons (eTup (eCons (eC (.str "bag")) eNil)) (eCons (eC (.bl true)) (eCons (eC (.str "beside")) eNil)))))))))) eNil)))) (gSet 7))
noncomputable def t_law_3 (L : Addr) : DenS :=
  (sRet (eCall (m_zsame 4) (eArity 2 (eCons (eTriesL 0 "law" (lamQ "law") [lm_law_0, lm_law_1] [(lm_law_0, (eCall m_measured (eArity 2 (eCons (eVar 7) (eCons (eLst eNil) eNil))))), (lm_law_1, (eCall m_measured (eArity 2 (eCons (eVar 7) (eCons (eLst (eCons (eC (.int 1)) (eCons (eC (.int 2)) eNil))) eNil)))))] xnames) (eCons (eSeq2 mulR (eLst (eCons (eTup (eCons (eC (.str "InvalidWay")) (eCons
        (eVar 7) eNil))) eNil)) (eC (.int 2))) eNil)))))
noncomputable def b_law (L : Addr) : DenS :=
  (sSeq (t_law_0 L) (sSeq (t_law_1 L) (sSeq (t_law_2 L) (t_law_3 L))))
noncomputable def mL_law (L : Addr) : Fn := body 9 (b_law L)
noncomputable def m_law : Fn := gInd mL_law
end Toy

/-! The walk: the code does so (printed by gen.py) -/
namespace Toy
open PySem L2 DL
abbrev s_zdraw : Stmt := top 11
abbrev s_znumber : Stmt := top 17
abbrev s_zof : Stmt := top 12
abbrev s_zreel : Stmt := top 10
abbrev s_zsame : Stmt := top 13
abbrev s_is_way : Stmt := top 7
abbrev s_measured : Stmt := top 8
abbrev s_zparts : Stmt := top 14
abbrev s_ztry : Stmt := top 15
abbrev s_ztries : Stmt := top 16
abbrev s_x_InvalidWay : Stmt := inClass (top 3) 0
structure Ad where
  a_zdraw : Addr
  a_znumber : Addr
  a_zof : Addr
  a_zreel : Addr
  a_zsame : Addr
  a_is_way : Addr
  a_measured : Addr
  a_law : Addr
structure Txt (K : PySem.W.Frag) (mg : Str → Option Value) (d : Ad) : Prop where
  g_zdraw : mg "_law_draw" = some (.ref d.a_zdraw)
  k_zdraw : PySem.W.keepIn K (.ref d.a_zdraw) = true
  g_znumber : mg "_law_number" = some (.ref d.a_znumber)
  k_znumber : PySem.W.keepIn K (.ref d.a_znumber) = true
  g_zof : mg "_law_of" = some (.ref d.a_zof)
  k_zof : PySem.W.keepIn K (.ref d.a_zof) = true
  g_zreel : mg "_law_reel" = some (.ref d.a_zreel)
  k_zreel : PySem.W.keepIn K (.ref d.a_zreel) = true
  g_zsame : mg "_law_same" = some (.ref d.a_zsame)
  k_zsame : PySem.W.keepIn K (.ref d.a_zsame) = true
  g_is_way : mg "is_way" = some (.ref d.a_is_way)
  k_is_way : PySem.W.keepIn K (.ref d.a_is_way) = true
  g_measured : mg "measured" = some (.ref d.a_measured)
  k_measured : PySem.W.keepIn K (.ref d.a_measured) = true
  g_law : mg "law" = some (.ref d.a_law)
  k_law : PySem.W.keepIn K (.ref d.a_law) = true
  n_all : mg "all" = none
  n_bool : mg "bool" = none
  n_int : mg "int" = none
  n_isinstance : mg "isinstance" = none
  n_len : mg "len" = none
  n_list : mg "list" = none
  n_max : mg "max" = none
  n_min : mg "min" = none
  n_range : mg "range" = none
  n_sorted : mg "sorted" = none
  n_str : mg "str" = none
  n_sum : mg "sum" = none
  n_tuple : mg "tuple" = none
  n_zip : mg "zip" = none
  c_WAYS : ∃ a, mg "WAYS" = some (.ref a) ∧ TupS K a ["sum", "greatest", "least", "bag"]
  wi_WalkError : WIn K mg "WalkError" "ValueError.__init__"
section
variable {P : Program} {w : World} {K : PySem.W.Frag} {mg : Str → Option Value} {base : Heap} {d : Ad} {fd : FuncData}
theorem sc_x_InvalidWay : FnScope ["self", "value"] ["self", "value"] (defScope s_x_InvalidWay) := ⟨rfl, rfl, rfl, by decide +kernel, rfl, by decide +kernel, by decide +kernel⟩
theorem okX_InvalidWay {f : Addr} (F : Fun K "__init__" "InvalidWay.__init__" s_x_InvalidWay f fd) (T : Txt K mg d) : FnOk P w K mg base (L2.CX P w) 1 f fd ["self", "value"] (sx1 K "ValueError.__new__" "ValueError.__init__" "value" "InvalidWay") :=
  initX1 (k := 0) F sc_x_InvalidWay rfl rfl (fun cdv A outer s H E => (pss_cons (ps_expr (pe_win T.wi_WalkError (by rfl) (pa_cons (pv 0) (pa_cons pe_str pa_nil)))) (pss_cons (ps_osG (pv 0) pe_str) (pss_one (ps_osG (pv 0) (pv 1))))))
theorem sc_zdraw : FnScope ["_law_reel_here", "_law_size", "_law_cell", "_law_digit", "_law_mixed"] ["_law_reel_here", "_law_size"] (defScope s_zdraw) := ⟨rfl, rfl, rfl, by decide +kernel, rfl, by decide +kernel, by decide +kernel⟩
theorem okF_zdraw (F : Fun K "_law_draw" "_law_draw" s_zdraw d.a_zdraw fd) (T : Txt K mg d)  : FnOk P w K mg base (L2.CX P w) 1 d.a_zdraw fd ["_law_reel_here", "_law_size"] (spD K mg (["_law_reel_here", "_law_size"] : List Str).length m_zdraw) := by
  refine fn_okE (k := 0) F sc_zdraw (fun cdv A outer s H E hr tk ps =>
  (db_cons (ds_if (DW.dt (dw_and (dt_cmp (or_eq hr.units) op2_eq (de_get (de_var 0 (pv 0)) (de_const pe_int (fun _ => .int _))) (de_const pe_int (fun _ => .int _)) (nomark _)) (dw_and1 (dt_cmp op_lt op2_rel (de_get (de_var 0 (pv 0)) (de_const pe_int (fun _ => .int _))) (de_callB call_len opL_len rfl T.n_len (by decide +kernel) (da_cons (de_get (de_var 0 (pv 0)) (de_const pe_int
        (fun _ => .int _))) da_nil)) (nomark _))))) (db_cons (dset 2 sc_zdraw.nd (de_get (de_get (de_var 0 (pv 0)) (de_const pe_int (fun _ => .int _))) (de_get (de_var 0 (pv 0)) (de_const pe_int (fun _ => .int _)))))
    (db_cons (ds_asg (de_op or_add op2_add (de_get (de_var 0 (pv 0)) (de_const pe_int (fun _ => .int _))) (de_const pe_int (fun _ => .int _))) (dg_item (de_var 0 (pv 0)) (de_const pe_int (fun _ => .int _))))
    (db_one (ds_if (dt_cmp op_gt op2_rel (de_var 2 (pv 2)) (de_op op_pow op2_pow (de_const pe_int (fun _ => .int _)) (de_const pe_int (fun _ => .int _))) (nomark _)) (db_one (ds_asg (de_var 2 (pv 2)) (dg_item (de_var 0 (pv 0)) (de_const pe_int (fun _ => .int _))))) (db_one (ds_asg (de_op op_mod op2_mod (de_callTy call_int1 opL_int rfl T.n_int (by decide +kernel) (da_cons (de_op or_add op2_add
        (de_op or_add op2_add (de_op or_mul op2_mul (de_get (de_var 0 (pv 0)) (de_const pe_int (fun _ => .int _))) (de_const pe_int (fun _ => .int _))) (de_op or_mul op2_mul (de_op op_mod op2_mod (de_callTy call_int1 opL_int rfl T.n_int (by decide +kernel) (da_cons (de_var 2 (pv 2)) da_nil)) (de_const pe_int (fun _ => .int _))) (de_const pe_int (fun _ => .int _)))) (de_const pe_int
        (fun _ => .int _))) da_nil)) (de_const pe_int (fun _ => .int _))) (dg_item (de_var 0 (pv 0)) (de_const pe_int (fun _ => .int _))))))))) db_nil)
    (db_cons (ds_if (dt_cmp op_gt op2_rel (de_get (de_var 0 (pv 0)) (de_const pe_int (fun _ => .int _))) (de_const pe_int (fun _ => .int _)) (nomark _)) (db_cons (dset 3 sc_zdraw.nd (de_op op_mod op2_mod (de_callTy call_int1 opL_int rfl T.n_int (by decide +kernel) (da_cons (de_get (de_var 0 (pv 0)) (de_const pe_int (fun _ => .int _))) da_nil)) (de_var 1 (pv 1))))
    (db_cons (ds_asg (de_op op_fdivW op2_div (de_get (de_var 0 (pv 0)) (de_const pe_int (fun _ => .int _))) (de_var 1 (pv 1))) (dg_item (de_var 0 (pv 0)) (de_const pe_int (fun _ => .int _))))
    (db_one (ds_ret (de_var 3 (pv 3)))))) db_nil)
    (db_cons (dset 4 sc_zdraw.nd (de_op op_mod op2_mod (de_callTy call_int1 opL_int rfl T.n_int (by decide +kernel) (da_cons (de_op or_add op2_add (de_op or_mul op2_mul (de_get (de_var 0 (pv 0)) (de_const pe_int (fun _ => .int _))) (de_get (de_var 0 (pv 0)) (de_const pe_int (fun _ => .int _)))) (de_op or_mul op2_mul (de_get (de_var 0 (pv 0)) (de_const pe_int (fun _ => .int _))) (de_const pe_int
        (fun _ => .int _)))) da_nil)) (de_const pe_int (fun _ => .int _))))
    (db_cons (ds_asg (de_op op_mod op2_mod (de_callTy call_int1 opL_int rfl T.n_int (by decide +kernel) (da_cons (de_op or_add op2_add (de_op or_add op2_add (de_op or_mul op2_mul (de_var 4 (pv 4)) (de_const pe_int (fun _ => .int _))) (de_op or_mul op2_mul (de_get (de_var 0 (pv 0)) (de_const pe_int (fun _ => .int _))) (de_const pe_int (fun _ => .int _)))) (de_const pe_int
        (fun _ => .int _))) da_nil)) (de_const pe_int (fun _ => .int _))) (dg_item (de_var 0 (pv 0)) (de_const pe_int (fun _ => .int _))))
    (db_one (ds_ret (de_op op_mod op2_mod (de_callTy call_int1 opL_int rfl T.n_int (by decide +kernel) (da_cons (de_op or_add op2_add (de_op op_fdivW op2_div (de_get (de_var 0 (pv 0)) (de_const pe_int (fun _ => .int _))) (de_const pe_int (fun _ => .int _))) (de_op or_mul op2_mul (de_op op_mod op2_mod (de_callTy call_int1 opL_int rfl T.n_int (by decide +kernel) (da_cons (de_get (de_var 0 (pv 0))
        (de_const pe_int (fun _ => .int _))) da_nil)) (de_const pe_int (fun _ => .int _))) (de_const pe_int (fun _ => .int _)))) da_nil)) (de_var 1 (pv 1)))))))))) ?_
  rfl
theorem sc_znumber : FnScope ["_law_reel_here", "_law_way_z"] ["_law_reel_here"] (defScope s_znumber) := ⟨rfl, rfl, rfl, by decide +kernel, rfl, by decide +kernel, by decide +kernel⟩
theorem okF_znumber (F : Fun K "_law_number" "_law_number" s_znumber d.a_znumber fd) (T : Txt K mg d) (C_zdraw : FOk P w K mg base 1 d.a_zdraw ["_law_reel_here", "_law_size"] m_zdraw) : FnOk P w K mg base (L2.CX P w) 2 d.a_znumber fd ["_law_reel_here"] (spD K mg (["_law_reel_here"] : List Str).length m_znumber) := by
  refine fn_okE (k := 1) F sc_znumber (fun cdv A outer s H E hr tk ps =>
  (db_cons (dset 1 sc_znumber.nd (de_call C_zdraw (hr.mono (by omega)) tk rfl T.g_zdraw T.k_zdraw (da_cons (de_var 0 (pv 0)) (da_cons (de_const pe_int (fun _ => .int _)) da_nil))))
    (db_cons (ds_if (dt_cmp (or_eq hr.units) op2_eq (de_var 1 (pv 1)) (de_const pe_int (fun _ => .int _)) (nomark _)) (db_one (ds_ret (de_op op_sub op2_i0 (de_call C_zdraw (hr.mono (by omega)) tk rfl T.g_zdraw T.k_zdraw (da_cons (de_var 0 (pv 0)) (da_cons (de_const pe_int (fun _ => .int _)) da_nil))) (de_const pe_int (fun _ => .int _))))) db_nil)
    (db_cons (ds_if (dt_cmp (or_eq hr.units) op2_eq (de_var 1 (pv 1)) (de_const pe_int (fun _ => .int _)) (nomark _)) (db_one (ds_ret (de_call C_zdraw (hr.mono (by omega)) tk rfl T.g_zdraw T.k_zdraw (da_cons (de_var 0 (pv 0)) (da_cons (de_const pe_int (fun _ => .int _)) da_nil))))) db_nil)
    (db_cons (ds_if (dt_cmp (or_eq hr.units) op2_eq (de_var 1 (pv 1)) (de_const pe_int (fun _ => .int _)) (nomark _)) (db_one (ds_ret (de_op op_sub op2_i0 (de_call C_zdraw (hr.mono (by omega)) tk rfl T.g_zdraw T.k_zdraw (da_cons (de_var 0 (pv 0)) (da_cons (de_op or_add op2_add (de_op or_mul op2_mul (de_const pe_int (fun _ => .int _)) (de_op op_pow op2_pow (de_const pe_int (fun _ => .int _))
        (de_const pe_int (fun _ => .int _)))) (de_const pe_int (fun _ => .int _))) da_nil))) (de_op op_pow op2_pow (de_const pe_int (fun _ => .int _)) (de_const pe_int (fun _ => .int _)))))) db_nil)
    (db_one (ds_ret (de_op op_sub op2_i0 (de_call C_zdraw (hr.mono (by omega)) tk rfl T.g_zdraw T.k_zdraw (da_cons (de_var 0 (pv 0)) (da_cons (de_const pe_int (fun _ => .int _)) da_nil))) (de_const pe_int (fun _ => .int _)))))))))) ?_
  rfl
theorem sc_zof : FnScope ["_law_reel_here", "_law_some"] ["_law_reel_here", "_law_some"] (defScope s_zof) := ⟨rfl, rfl, rfl, by decide +kernel, rfl, by decide +kernel, by decide +kernel⟩
theorem okF_zof (F : Fun K "_law_of" "_law_of" s_zof d.a_zof fd) (T : Txt K mg d) (C_zdraw : FOk P w K mg base 1 d.a_zdraw ["_law_reel_here", "_law_size"] m_zdraw) : FnOk P w K mg base (L2.CX P w) 2 d.a_zof fd ["_law_reel_here", "_law_some"] (spD K mg (["_law_reel_here", "_law_some"] : List Str).length m_zof) := by
  refine fn_okE (k := 1) F sc_zof (fun cdv A outer s H E hr tk ps =>
  (db_one (ds_ret (de_get (de_var 1 (pv 1)) (de_call C_zdraw (hr.mono (by omega)) tk rfl T.g_zdraw T.k_zdraw (da_cons (de_var 0 (pv 0)) (da_cons (de_callB call_len opL_len rfl T.n_len (by decide +kernel) (da_cons (de_var 1 (pv 1)) da_nil)) da_nil))))))) ?_
  rfl
theorem sc_zreel : FnScope ["_law_script", "_law_cells"] ["_law_script"] (defScope s_zreel) := ⟨rfl, rfl, rfl, by decide +kernel, rfl, by decide +kernel, by decide +kernel⟩
theorem okF_zreel (F : Fun K "_law_reel" "_law_reel" s_zreel d.a_zreel fd) (T : Txt K mg d)  : FnOk P w K mg base (L2.CX P w) 1 d.a_zreel fd ["_law_script"] (spD K mg (["_law_script"] : List Str).length m_zreel) := by
  refine fn_okE (k := 0) F sc_zreel (fun cdv A outer s H E hr tk ps =>
  (db_cons (dset 1 sc_zreel.nd (de_callTy call_list_of opL_list rfl T.n_list (by decide +kernel) (da_cons (de_slice (de_var 0 (pv 0)) do_none (do_some (de_const pe_int (fun _ => .int _)))) da_nil)))
    (db_one (ds_ret (de_lst (da_cons (de_var 1 (pv 1)) (da_cons (de_const pe_int (fun _ => .int _)) (da_cons (de_const pe_int (fun _ => .int _)) (da_cons (de_op or_add op2_add (de_const pe_int (fun _ => .int _)) (de_op or_mul op2_mul (de_const pe_int (fun _ => .int _)) (de_callB call_len opL_len rfl T.n_len (by decide +kernel) (da_cons (de_var 1 (pv 1)) da_nil)))) da_nil))))))))) ?_
  rfl
theorem sc_zsame : FnScope ["_law_found", "_law_due", "_law_a", "_law_b"] ["_law_found", "_law_due"] (defScope s_zsame) := ⟨rfl, rfl, rfl, by decide +kernel, rfl, by decide +kernel, by decide +kernel⟩
theorem okF_zsame (F : Fun K "_law_same" "_law_same" s_zsame d.a_zsame fd) (hb : Binds K fd ["_law_found", "_law_due"] []) (T : Txt K mg d)  : ∀ n, FnOk P w K mg base (L2.CX P w) (1 + n) d.a_zsame fd ["_law_found", "_law_due"] (spD K mg (["_law_found", "_law_due"] : List Str).length (m_zsame n))
  | 0 => bad_okF F sc_zsame
  | n + 1 => by
    have C_zsame : FOk P w K mg base (1 + n) d.a_zsame ["_law_found", "_law_due"] (m_zsame n) := .of (okF_zsame F hb T  n) hb
    refine fn_okE (k := 1 + n) F sc_zsame (fun cdv A outer s H E hr tk ps =>
  (db_cons (ds_if (DW.dt (dw_or (dt_cmp op_isN op2_isN (de_var 1 (pv 1)) (de_const pe_non (fun _ => .non)) (nomark _)) (dw_or1 (dt_cmp op_isN op2_isN (de_var 0 (pv 0)) (de_const pe_non (fun _ => .non)) (nomark _))))) (db_one (ds_ret (de_and (de_cmp op_isN op2_isN (de_var 1 (pv 1)) (de_const pe_non (fun _ => .non)) (nomark _)) (de_one (de_cmp op_isN op2_isN (de_var 0 (pv 0)) (de_const pe_non
        (fun _ => .non)) (nomark _)))))) db_nil)
    (db_cons (ds_if (dt_tru (de_callB or_isi opL_isi rfl T.n_isinstance (by decide +kernel) (da_cons (de_var 1 (pv 1)) (da_cons (de_ty (y := "list") T.n_list rfl (by decide +kernel)) da_nil)))) (db_cons (ds_if (DW.dt (dw_or (dt_not (dt_tru (de_callB or_isi opL_isi rfl T.n_isinstance (by decide +kernel) (da_cons (de_var 0 (pv 0)) (da_cons (de_ty (y := "list") T.n_list rfl
        (by decide +kernel)) da_nil))))) (dw_or1 (dt_cmp (or_ne hr.units) op2_ne (de_callB call_len opL_len rfl T.n_len (by decide +kernel) (da_cons (de_var 0 (pv 0)) da_nil)) (de_callB call_len opL_len rfl T.n_len (by decide +kernel) (da_cons (de_var 1 (pv 1)) da_nil)) (nomark _))))) (db_one (ds_ret (de_const pe_bl (fun _ => .bl _)))) db_nil)
    (db_one (ds_ret (de_callB (cr_all rfl) opL_all rfl T.n_all (by decide +kernel) (da_cons (de_lc rfl sc_zsame.nd (di_zip rfl T.n_zip (da_cons (de_var 0 (pv 0)) (da_cons (de_var 1 (pv 1)) da_nil))) (blkOk_by (own := [("_law_a", 2), ("_law_b", 3)]) rfl) (fun _ _ _ _ _ => (dtg_many rfl (pgn_cons 2 sc_zsame.nd (pgn_cons 3 sc_zsame.nd pgn_nil)))) (fun _ _ _ _ _ => dts_nil) (fun _ _ _ _ _ =>
        (de_call C_zsame (hr.mono (by omega)) takes0 rfl T.g_zsame T.k_zsame (da_cons (de_var 2 (pv 2)) (da_cons (de_var 3 (pv 3)) da_nil))))) da_nil))))) db_nil)
    (db_cons (ds_if (dt_tru (de_callB or_isi opL_isi rfl T.n_isinstance (by decide +kernel) (da_cons (de_var 1 (pv 1)) (da_cons (de_ty (y := "tuple") T.n_tuple rfl (by decide +kernel)) da_nil)))) (db_cons (ds_if (DW.dt (dw_or (dt_not (dt_tru (de_callB or_isi opL_isi rfl T.n_isinstance (by decide +kernel) (da_cons (de_var 0 (pv 0)) (da_cons (de_ty (y := "tuple") T.n_tuple rfl
        (by decide +kernel)) da_nil))))) (dw_or1 (dt_cmp (or_ne hr.units) op2_ne (de_callB call_len opL_len rfl T.n_len (by decide +kernel) (da_cons (de_var 0 (pv 0)) da_nil)) (de_callB call_len opL_len rfl T.n_len (by decide +kernel) (da_cons (de_var 1 (pv 1)) da_nil)) (nomark _))))) (db_one (ds_ret (de_const pe_bl (fun _ => .bl _)))) db_nil)
    (db_one (ds_ret (de_callB (cr_all rfl) opL_all rfl T.n_all (by decide +kernel) (da_cons (de_lc rfl sc_zsame.nd (di_zip rfl T.n_zip (da_cons (de_var 0 (pv 0)) (da_cons (de_var 1 (pv 1)) da_nil))) (blkOk_by (own := [("_law_a", 2), ("_law_b", 3)]) rfl) (fun _ _ _ _ _ => (dtg_many rfl (pgn_cons 2 sc_zsame.nd (pgn_cons 3 sc_zsame.nd pgn_nil)))) (fun _ _ _ _ _ => dts_nil) (fun _ _ _ _ _ =>
        (de_call C_zsame (hr.mono (by omega)) takes0 rfl T.g_zsame T.k_zsame (da_cons (de_var 2 (pv 2)) (da_cons (de_var 3 (pv 3)) da_nil))))) da_nil))))) db_nil)
    (db_cons (ds_if (dt_tru (de_callB or_isi opL_isi rfl T.n_isinstance (by decide +kernel) (da_cons (de_var 1 (pv 1)) (da_cons (de_ty (y := "bool") T.n_bool rfl (by decide +kernel)) da_nil)))) (db_one (ds_ret (de_and (de_callB or_isi opL_isi rfl T.n_isinstance (by decide +kernel) (da_cons (de_var 0 (pv 0)) (da_cons (de_ty (y := "bool") T.n_bool rfl (by decide +kernel)) da_nil))) (de_one (de_cmp
        (or_eq hr.units) op2_eq (de_var 0 (pv 0)) (de_var 1 (pv 1)) (nomark _)))))) db_nil)
    (db_cons (ds_if (dt_tru (de_callB or_isi opL_isi rfl T.n_isinstance (by decide +kernel) (da_cons (de_var 1 (pv 1)) (da_cons (de_ty (y := "int") T.n_int rfl (by decide +kernel)) da_nil)))) (db_one (ds_ret (de_and (de_callB or_isi opL_isi rfl T.n_isinstance (by decide +kernel) (da_cons (de_var 0 (pv 0)) (da_cons (de_ty (y := "int") T.n_int rfl (by decide +kernel)) da_nil))) (de_and (de_not
        (de_callB or_isi opL_isi rfl T.n_isinstance (by decide +kernel) (da_cons (de_var 0 (pv 0)) (da_cons (de_ty (y := "bool") T.n_bool rfl (by decide +kernel)) da_nil)))) (de_one (de_cmp (or_eq hr.units) op2_eq (de_var 0 (pv 0)) (de_var 1 (pv 1)) (nomark _))))))) db_nil)
    (db_one (ds_ret (de_and (de_callB or_isi opL_isi rfl T.n_isinstance (by decide +kernel) (da_cons (de_var 0 (pv 0)) (da_cons (de_ty (y := "str") T.n_str rfl (by decide +kernel)) da_nil))) (de_one (de_cmp (or_eq hr.units) op2_eq (de_var 0 (pv 0)) (de_var 1 (pv 1)) (nomark _)))))))))))) ?_
    rfl
theorem sc_is_way : FnScope ["value"] ["value"] (defScope s_is_way) := ⟨rfl, rfl, rfl, by decide +kernel, rfl, by decide +kernel, by decide +kernel⟩
theorem okF_is_way (F : Fun K "is_way" "is_way" s_is_way d.a_is_way fd) (T : Txt K mg d)  : FnOk P w K mg base (L2.CX P w) 1 d.a_is_way fd ["value"] (spD K mg (["value"] : List Str).length m_is_way) := by
  refine fn_okE (k := 0) F sc_is_way (fun cdv A outer s H E hr tk ps =>
  (db_one (ds_ret (de_and (de_callB or_isi opL_isi rfl T.n_isinstance (by decide +kernel) (da_cons (de_var 0 (pv 0)) (da_cons (de_ty (y := "str") T.n_str rfl (by decide +kernel)) da_nil))) (de_one (de_cmp (or_in (units65 hr)) (op2_in false) (de_var 0 (pv 0)) (de_gtup T.c_WAYS rfl) rfl)))))) ?_
  rfl
theorem sc_measured : FnScope ["way", "numbers"] ["way", "numbers"] (defScope s_measured) := ⟨rfl, rfl, rfl, by decide +kernel, rfl, by decide +kernel, by decide +kernel⟩
theorem okF_measured (F : Fun K "measured" "measured" s_measured d.a_measured fd) (T : Txt K mg d) (C_is_way : FOk P w K mg base 1 d.a_is_way ["value"] m_is_way) (XD_InvalidWay : ExcD P w K mg base "InvalidWay" 1 2 (fx1 "value" "InvalidWay")) : FnOk P w K mg base (L2.CX P w) 3 d.a_measured fd ["way", "numbers"] (spD K mg (["way", "numbers"] : List Str).length m_measured) := by
  refine fn_okE (k := 2) F sc_measured (fun cdv A outer s H E hr tk ps =>
  (db_cons (ds_if (dt_not (dt_tru (de_call C_is_way (hr.mono (by omega)) tk rfl T.g_is_way T.k_is_way (da_cons (de_var 0 (pv 0)) da_nil)))) (db_one (ds_raise XD_InvalidWay (hr.mono (by omega)) rfl tk rfl (da_cons (de_var 0 (pv 0)) da_nil))) db_nil)
    (db_cons (ds_if (dt_cmp (or_eq hr.units) op2_eq (de_var 0 (pv 0)) (de_const pe_str (fun _ => .str _)) (nomark _)) (db_one (ds_ret (de_callB (cr_sum rfl) opL_sum rfl T.n_sum (by decide +kernel) (da_cons (de_callTy call_list_of opL_list rfl T.n_list (by decide +kernel) (da_cons (de_var 1 (pv 1)) da_nil)) da_nil)))) db_nil)
    (db_cons (ds_if (dt_cmp (or_eq hr.units) op2_eq (de_var 0 (pv 0)) (de_const pe_str (fun _ => .str _)) (nomark _)) (db_one (ds_ret (de_callB cr_sorted opL_sorted rfl T.n_sorted (by decide +kernel) (da_cons (de_callTy call_list_of opL_list rfl T.n_list (by decide +kernel) (da_cons (de_var 1 (pv 1)) da_nil)) da_nil)))) db_nil)
    (db_cons (ds_if (dt_cmp (or_eq hr.units) op2_eq (de_callB call_len opL_len rfl T.n_len (by decide +kernel) (da_cons (de_var 1 (pv 1)) da_nil)) (de_const pe_int (fun _ => .int _)) (nomark _)) (db_one (ds_ret (de_const pe_non (fun _ => .non)))) db_nil)
    (db_one (ds_ret (de_if (dt_cmp (or_eq hr.units) op2_eq (de_var 0 (pv 0)) (de_const pe_str (fun _ => .str _)) (nomark _)) (de_callB (cr_max rfl) opL_max rfl T.n_max (by decide +kernel) (da_cons (de_callTy call_list_of opL_list rfl T.n_list (by decide +kernel) (da_cons (de_var 1 (pv 1)) da_nil)) da_nil)) (de_callB (cr_min rfl) opL_min rfl T.n_min (by decide +kernel) (da_cons
        (de_callTy call_list_of opL_list rfl T.n_list (by decide +kernel) (da_cons (de_var 1 (pv 1)) da_nil)) da_nil)))))))))) ?_
  rfl
theorem sc_law : FnScope ["_law_script", "_law_reel_here", "_law_turn", "_law_numbers_z", "_law_given", "_law_told", "_law_due", "_law_odd", "_law_k"] ["_law_script"] (defScope s_law) := ⟨rfl, rfl, rfl, by decide +kernel, rfl, by decide +kernel, by decide +kernel⟩
theorem okA_law (F : Fun K "law" "law" s_law (He.ga K "law") fd) (T : Txt K mg d) (C_zdraw : FOk P w K mg base 1 d.a_zdraw ["_law_reel_here", "_law_size"] m_zdraw) (C_znumber : FOk P w K mg base 2 d.a_znumber ["_law_reel_here"] m_znumber) (C_zof : FOk P w K mg base 2 d.a_zof ["_law_reel_here", "_law_some"] m_zof) (C_zreel : FOk P w K mg base 1 d.a_zreel ["_law_script"] m_zreel)
        (C_zsame : FOk P w K mg base 5 d.a_zsame ["_law_found", "_law_due"] (m_zsame 4)) (C_measured : FOk P w K mg base 3 d.a_measured ["way", "numbers"] m_measured) (CK0_measured : FOkK P w K mg base 3 d.a_measured ["numbers", "way"] [1, 0] m_measured) (TB : LamX.TabB base mg (He.cT K ("law", none)).1 (He.cT K ("law", none)).2) (TA : TryA P w K mg xnames)
        (TL : TriesK K mg) : FnOk P w K mg base (L2.CX P w) 9 (He.ga K "law") fd ["_law_script"] (spDA K mg (["_law_script"] : List Str).length mL_law) :=
  by
  refine fn_okA (k := 8) (b := b_law) F sc_law TB (fun cdv A outer s H E hr tk ps mk => ?_) rfl
  refine ⟨_,
    (db_cons (dsetM 1 sc_law.nd (de_call C_zreel (hr.mono (by omega)) tk rfl T.g_zreel T.k_zreel (da_cons (de_var 0 (pv 0)) da_nil)))
    (db_cons (ds_for ps rfl (di_range1 rfl T.n_range (da_cons (de_const pe_int (fun _ => .int _)) da_nil)) (dtg_one 2 sc_law.nd) (db_cons (ds_lc (gn_set 3).rd rfl sc_law.nd rfl rfl (sw_true rfl rfl rfl (by decide +kernel)) (di_range1 rfl T.n_range (da_cons (de_call C_zdraw (hr.mono (by omega)) tk rfl T.g_zdraw T.k_zdraw (da_cons (de_var 1 (pv 1)) (da_cons (de_const pe_int
        (fun _ => .int _)) da_nil))) da_nil)) (blkOk_by (own := [("_law_k", 8)]) rfl) (fun _ _ _ _ _ => (dtg_one 8 sc_law.nd)) (fun _ _ _ _ _ => dts_nil) (fun _ _ _ _ _ => (de_call C_znumber (hr.mono (by omega)) takes0 rfl T.g_znumber T.k_znumber (da_cons (de_var 1 (pv 1)) da_nil))))
    (db_cons (dset 4 sc_law.nd (de_callTy call_list_of opL_list rfl T.n_list (by decide +kernel) (da_cons (de_var 3 (pv 3)) da_nil)))
    (db_cons (dset 5 sc_law.nd (de_lst (da_cons (de_call C_measured (hr.mono (by omega)) tk rfl T.g_measured T.k_measured (da_cons (de_const pe_str (fun _ => .str _)) (da_cons (de_var 4 (pv 4)) da_nil))) (da_cons (de_call C_measured (hr.mono (by omega)) tk rfl T.g_measured T.k_measured (da_cons (de_const pe_str (fun _ => .str _)) (da_cons (de_var 4 (pv 4)) da_nil))) (da_cons (de_call C_measured
        (hr.mono (by omega)) tk rfl T.g_measured T.k_measured (da_cons (de_const pe_str (fun _ => .str _)) (da_cons (de_var 4 (pv 4)) da_nil))) (da_cons (de_call C_measured (hr.mono (by omega)) tk rfl T.g_measured T.k_measured (da_cons (de_const pe_str (fun _ => .str _)) (da_cons (de_var 4 (pv 4)) da_nil))) (da_cons (de_callK0 CK0_measured (hr.mono (by omega)) tk rfl T.g_measured T.k_measured
        (dk_cons (de_callTy call_tupleP opL_tupleP rfl T.n_tuple (by decide +kernel) (da_cons (de_var 4 (pv 4)) da_nil)) (dk_cons (de_const pe_str (fun _ => .str _)) dk_nil))) da_nil)))))))
    (db_cons (dset 6 sc_law.nd (de_lst (da_cons (de_callB (cr_sum rfl) opL_sum rfl T.n_sum (by decide +kernel) (da_cons (de_var 3 (pv 3)) da_nil)) (da_cons (de_if (dt_cmp (or_ne hr.units) op2_ne (de_var 3 (pv 3)) (de_lst da_nil) (nomark _)) (de_callB (cr_max rfl) opL_max rfl T.n_max (by decide +kernel) (da_cons (de_var 3 (pv 3)) da_nil)) (de_const pe_non (fun _ => .non))) (da_cons (de_if (dt_cmp
        (or_ne hr.units) op2_ne (de_var 3 (pv 3)) (de_lst da_nil) (nomark _)) (de_callB (cr_min rfl) opL_min rfl T.n_min (by decide +kernel) (da_cons (de_var 3 (pv 3)) da_nil)) (de_const pe_non (fun _ => .non))) (da_cons (de_callB cr_sorted opL_sorted rfl T.n_sorted (by decide +kernel) (da_cons (de_var 3 (pv 3)) da_nil)) (da_cons (de_callB cr_sorted opL_sorted rfl T.n_sorted (by decide +kernel)
        (da_cons (de_var 3 (pv 3)) da_nil)) da_nil)))))))
    (db_cons (ds_if (DW.dt (dw_or (dt_not (dt_tru (de_call C_zsame (hr.mono (by omega)) tk rfl T.g_zsame T.k_zsame (da_cons (de_var 5 (pv 5)) (da_cons (de_var 6 (pv 6)) da_nil))))) (dw_or1 (dt_not (dt_tru (de_call C_zsame (hr.mono (by omega)) tk rfl T.g_zsame T.k_zsame (da_cons (de_var 4 (pv 4)) (da_cons (de_var 3 (pv 3)) da_nil)))))))) (db_one (ds_ret (de_const pe_bl (fun _ => .bl _)))) db_nil)
    (db_cons (ds_expr (de_appT (de_call C_measured (hr.mono (by omega)) tk rfl T.g_measured T.k_measured (da_cons (de_const pe_str (fun _ => .str _)) (da_cons (de_var 4 (pv 4)) da_nil))) (dv_const pe_int (fun _ => .int _))))
    (db_one (ds_if (dt_not (dt_tru (de_call C_zsame (hr.mono (by omega)) tk rfl T.g_zsame T.k_zsame (da_cons (de_var 4 (pv 4)) (da_cons (de_var 3 (pv 3)) da_nil))))) (db_one (ds_ret (de_const pe_bl (fun _ => .bl _)))) db_nil)))))))))
    (db_cons (dset 7 sc_law.nd (de_call C_zof (hr.mono (by omega)) tk rfl T.g_zof T.k_zof (da_cons (de_var 1 (pv 1)) (da_cons (de_lst (da_cons (de_const pe_non (fun _ => .non)) (da_cons (de_const pe_int (fun _ => .int _)) (da_cons (de_const pe_str (fun _ => .str _)) (da_cons (de_const pe_str (fun _ => .str _)) (da_cons (de_const pe_str (fun _ => .str _)) (da_cons (de_lst (da_cons
        (de_const pe_str (fun _ => .str _)) da_nil)) (da_cons (de_tup (da_cons (de_const pe_str (fun _ => .str _)) da_nil)) (da_cons (de_const pe_bl (fun _ => .bl _)) (da_cons (de_const pe_str (fun _ => .str _)) da_nil)))))))))) da_nil))))
    (db_one (ds_ret (de_call C_zsame (hr.mono (by omega)) tk rfl T.g_zsame T.k_zsame (da_cons (de_triesL (j := 0) (q := lamQ "law") (L := s.heap.objs.size) TA TL (fun _ => rfl) (k := 5) (by decide) (hr.mono (by omega)) (hb_cons (l := lm_law_0) ⟨lamP_by rfl, rfl, (by exact fun _ _ _ _ _ => rfl), fun A outer s H E f c' hr => (de_call C_measured (hr.mono
        (by omega)) lam_takes rfl T.g_measured T.k_measured (da_cons (de_var 7 (pv 7)) (da_cons (de_lst da_nil) da_nil)))⟩ rfl
      (hb_cons (l := lm_law_1) ⟨lamP_by rfl, rfl, (by exact ⟨rfl, fun _ _ _ _ _ _ _ => ⟨_, rfl, rfl⟩⟩), fun A outer s H E f c' hr => (de_call C_measured (hr.mono (by omega)) lam_takes rfl T.g_measured T.k_measured (da_cons (de_var 7 (pv 7)) (da_cons (de_lst (da_cons (de_const pe_int (fun _ => .int _)) (da_cons (de_const pe_int (fun _ => .int _)) da_nil))) da_nil)))⟩ rfl
      hb_nil)) rfl (dl_cons (pe_lam0 (l := lm_law_0) mk ⟨rfl, rfl, rfl, rfl⟩ rfl (lamP_by rfl) rfl rfl) (dl_cons (pe_lam1 (l := lm_law_1) (n := "_law_a") mk ⟨rfl, rfl, rfl, rfl⟩ rfl (lamP_by rfl) rfl rfl rfl) dl_nil rfl) rfl)) (da_cons (de_op or_mul op2_mul (de_lst (da_cons (de_tup (da_cons (de_const pe_str (fun _ => .str _)) (da_cons (de_var 7 (pv 7)) da_nil))) da_nil)) (de_const pe_int
        (fun _ => .int _))) da_nil)))))))), ?_⟩
  rfl
theorem parts_ok {f : Addr} (F : Fun K "_law_parts" "_law_parts" s_zparts f fd) : FnP P w K mg base 1 f fd ["_law_e"] (spParts K partsCl partsLast) :=
  fn_parts (k := 0) (x := "_law_e") F ⟨rfl, rfl, rfl, by decide +kernel, rfl, by decide +kernel, by decide +kernel⟩ (.inl rfl) (by
    unfold partsCl partsLast
    repeat' first
      | exact LitsOf.nil
      | apply LitsOf.cons
      | exact FldsOf.nil
      | apply FldsOf.cons
      | apply TestOf.eq
      | apply TestOf.isin
      | apply ClausesOf.last
      | apply ClausesOf.step
      | (show _ ≤ sizeLine; decide))
end
end Toy

namespace Toy
open PySem L2 DL
def reelT (cs : List Int) (p r s : Int) : T := .lst [.d (.lst (cs.map D.int)), .d (.int p), .d (.int r), .d (.int s)]
structure Reel (M : Mst) (k : Nat) (cs : List Int) (p r s : Int) : Prop where
  at_ : M[k]? = some (reelT cs p r s)
  p0 : 0 ≤ p
  s0 : 0 ≤ s
  s1 : s < 18446744073709551616
section
variable {M : Mst} {k : Nat} {cs : List Int} {p r s : Int}
theorem Reel.getD (h : Reel M k cs p r s) (d : T) : M.getD k d = reelT cs p r s := by
  rw [List.getD_eq_getElem?_getD, h.at_]; rfl
theorem Reel.lt (h : Reel M k cs p r s) : k < M.length := (List.getElem?_eq_some_iff.mp h.at_).1
theorem frzR_d (M : Mst) (x : D) : frzR M (.t (.d x)) = x := rfl
theorem Reel.el (h : Reel M k cs p r s) : elems M (.h k) = some [.d (.lst (cs.map D.int)), .d (.int p), .d (.int r), .d (.int s)] := by
  simp only [elems, h.getD]; rfl
theorem get2 (h : Reel M k cs p r s) : getR (.h k) (.t (.d (.int 2))) M = .ok (.t (.d (.int r))) M := by
  unfold getR; rw [frzR_d]; show (match elems M (.h k) with | some ts => _ | none => _) = _; rw [h.el]; rfl
theorem get1 (h : Reel M k cs p r s) : getR (.h k) (.t (.d (.int 1))) M = .ok (.t (.d (.int p))) M := by
  unfold getR; rw [frzR_d]; show (match elems M (.h k) with | some ts => _ | none => _) = _; rw [h.el]; rfl
theorem get3 (h : Reel M k cs p r s) : getR (.h k) (.t (.d (.int 3))) M = .ok (.t (.d (.int s))) M := by
  unfold getR; rw [frzR_d]; show (match elems M (.h k) with | some ts => _ | none => _) = _; rw [h.el]; rfl
theorem get0 (h : Reel M k cs p r s) : getR (.h k) (.t (.d (.int 0))) M = .ok (.t (.d (.lst (cs.map D.int)))) M := by
  unfold getR; rw [frzR_d]; show (match elems M (.h k) with | some ts => _ | none => _) = _; rw [h.el]; rfl
theorem set1 (h : Reel M k cs p r s) (y : Int) : setR (.h k) (.t (.d (.int 1))) (.t (.d (.int y))) M = some (M.set k (reelT cs y r s)) := by
  unfold setR; rw [frzR_d]; show (match M[k]? with | some (.lst ts) => _ | _ => _) = _; rw [h.at_]; rfl
theorem set2 (h : Reel M k cs p r s) (y : Int) : setR (.h k) (.t (.d (.int 2))) (.t (.d (.int y))) M = some (M.set k (reelT cs p y s)) := by
  unfold setR; rw [frzR_d]; show (match M[k]? with | some (.lst ts) => _ | _ => _) = _; rw [h.at_]; rfl
theorem set3 (h : Reel M k cs p r s) (y : Int) : setR (.h k) (.t (.d (.int 3))) (.t (.d (.int y))) M = some (M.set k (reelT cs p r y)) := by
  unfold setR; rw [frzR_d]; show (match M[k]? with | some (.lst ts) => _ | _ => _) = _; rw [h.at_]; rfl
theorem Reel.set (h : Reel M k cs p r s) (p' r' s' : Int) (hp : 0 ≤ p') (h0 : 0 ≤ s') (h1 : s' < 18446744073709551616) : Reel (M.set k (reelT cs p' r' s')) k cs p' r' s' := ⟨by rw [List.getElem?_set_self h.lt], hp, h0, h1⟩
theorem addI (i j : Int) (M : Mst) : addR (.t (.d (.int i))) (.t (.d (.int j))) M = .ok (.t (.d (.int (i + j)))) M := rfl
theorem mulI (i j : Int) (M : Mst) (h : mulC i j = true) : mulR (.t (.d (.int i))) (.t (.d (.int j))) M = .ok (.t (.d (.int (i * j)))) M := by
  show (match (if mulC i j = true then some (D.int (i * j)) else none) with | some d => _ | none => _) = _
  rw [if_pos h]
theorem modI (i j : Int) (M : Mst) (h : 0 < j) : modR (.t (.d (.int i))) (.t (.d (.int j))) M = .ok (.t (.d (.int (i % j)))) M := by
  show (match (if modC i j = true then some (D.int (i % j)) else none) with | some d => _ | none => _) = _
  rw [if_pos (show modC i j = true from decide_eq_true h)]
theorem divI (i j : Int) (M : Mst) (h : 0 < j) (h2 : j < 10 ^ 60) : divR (.t (.d (.int i))) (.t (.d (.int j))) M = .ok (.t (.d (.int (i / j)))) M := by
  show (match (if divC i j = true then some (D.int (i / j)) else none) with | some d => _ | none => _) = _
  rw [if_pos (by unfold divC; rw [decide_eq_true h, decide_eq_true h2]; rfl)]
theorem eqI (i j : Int) (M : Mst) : eqR (.t (.d (.int i))) (.t (.d (.int j))) M = .ok (.t (.d (.bl (decide (i = j))))) M := by
  show Out.ok (R.t (T.d (D.bl (eqv (.int i) (.int j))))) M = _
  congr 4
theorem ltI (i j : Int) (M : Mst) : ltR (.t (.d (.int i))) (.t (.d (.int j))) M = .ok (.t (.d (.bl (decide (i < j))))) M := rfl
theorem gtI (i j : Int) (M : Mst) : gtR (.t (.d (.int i))) (.t (.d (.int j))) M = .ok (.t (.d (.bl (decide (j < i))))) M := rfl
theorem lenL (ds : List D) (M : Mst) : scL lenD [.t (.d (.lst ds))] M = .ok (.t (.d (.int (ds.length : Nat)))) M := rfl
theorem intI (i : Int) (M : Mst) : scL intD [.t (.d (.int i))] M = .ok (.t (.d (.int i))) M := rfl
theorem pow18 (M : Mst) : powR (.t (.d (.int 10))) (.t (.d (.int 18))) M = .ok (.t (.d (.int 1000000000000000000))) M := by
  rfl
theorem atI_nat {α : Type} (xs : List α) (j : Nat) {x : α} (h : xs[j]? = some x) : atI xs (j : Int) = some x := by
  have hl := (List.getElem?_eq_some_iff.mp h).1
  unfold atI ixN
  rw [if_pos (by omega), if_pos (by omega)]
  simpa using h
theorem getI (cs : List Int) (p : Int) (M : Mst) (h0 : 0 ≤ p) (h1 : p < cs.length) : ∃ c, getR (.t (.d (.lst (cs.map D.int)))) (.t (.d (.int p))) M = .ok (.t (.d (.int c))) M := by
  obtain ⟨j, rfl⟩ : ∃ j : Nat, p = (j : Int) := ⟨p.toNat, by omega⟩
  have hj : j < cs.length := by omega
  refine ⟨cs[j], ?_⟩
  show (match atI ((cs.map D.int).map T.d) (j : Int) with | some t => _ | none => _) = _
  rw [atI_nat (x := T.d (.int cs[j])) _ j (by simp [hj])]
theorem mulC_r (i j : Int) (h : -18446744073709551616 < j ∧ j < 18446744073709551616) : mulC i j = true := by
  unfold mulC
  simp only [Bool.or_eq_true, Bool.and_eq_true, decide_eq_true_eq]
  exact .inr (by constructor <;> omega)
theorem seq_step {F G : DenS} {ρ ρ' : Ev} {M M' : Mst} (h : F ρ M = some (.nx ρ', M')) : sSeq F G ρ M = G ρ' M' := by unfold sSeq; rw [h]
theorem seq_ret {F G : DenS} {ρ : Ev} {M M' : Mst} {r : R} (h : F ρ M = some (.rt r, M')) : sSeq F G ρ M = some (.rt r, M') := by unfold sSeq; rw [h]
theorem mulC_l (i j : Int) (h : -18446744073709551616 < i ∧ i < 18446744073709551616) : mulC i j = true := by
  unfold mulC
  simp only [Bool.or_eq_true, Bool.and_eq_true, decide_eq_true_eq]
  exact .inl (by constructor <;> omega)
theorem set_set' (M : Mst) (k : Nat) (a b : T) : (M.set k a).set k b = M.set k b := by simp
def rho (k : Nat) (size : Int) (a b c : Option SV) : Ev := [some (.h k), some (.d (.int size)), a, b, c]
/-- the first half: a cell of the script is taken in -/
theorem draw0 (h : Reel M k cs p r s) (size : Int) : ∃ a p' r' s', t_zdraw_0 (rho k size none none none) M = some (.nx (rho k size a none none), M.set k (reelT cs p' r' s')) ∧ 0 ≤ p' ∧ 0 ≤ s' ∧ s' < 18446744073709551616 := by
  have self : M.set k (reelT cs p r s) = M := by
    have := h.at_
    apply List.ext_getElem?
    intro j
    by_cases hj : j = k
    · subst hj; rw [List.getElem?_set_self h.lt, this]
    · rw [List.getElem?_set_ne (fun e => hj e.symm)]
  unfold t_zdraw_0 rho
  by_cases hr : r = 0
  · subst hr
    by_cases hp : p < (cs.map D.int).length
    · obtain ⟨c, hc⟩ := getI cs p M h.p0 (by simpa using hp)
      have h1 := h.set (p + 1) 0 s (by have := h.p0; omega) h.s0 h.s1
      by_cases hb : 1000000000000000000 < c
      · refine ⟨some (.d (.int c)), p + 1, c, s, ?_, by have := h.p0; omega, h.s0, h.s1⟩
        simp only [Out.bind, eVar, eC, eSeq2, eNil, eCons, eTB, tAndD, tOrD, tNotD, bindS, sSeq, sNil, sIf, sRet, sAsg, gSet, svR, frz, eB, gItem, List.getElem?_cons_zero, List.getElem?_cons_succ, List.set_cons_zero, List.set_cons_succ, if_true, if_false, Bool.false_eq_true, decide_true, decide_false, get2 h, get1 h, get0 h, get3 h, eqI, ltI, gtI, hp, lenL, hc, addI, set1 h, pow18, hb, set2 h1, set_set']
      · refine ⟨some (.d (.int c)), p + 1, 0, (s * 48611 + c % 1000003 * 7919 + 104729) % 1000000007, ?_, by have := h.p0; omega, by omega, by omega⟩
        simp only [Out.bind, eVar, eC, eSeq2, eNil, eCons, eTB, tAndD, tOrD, tNotD, bindS, sSeq, sNil, sIf, sRet, sAsg, gSet, svR, frz, eB, gItem, List.getElem?_cons_zero, List.getElem?_cons_succ, List.set_cons_zero, List.set_cons_succ, if_true, if_false, Bool.false_eq_true, decide_true, decide_false, get2 h, get1 h, get0 h, get3 h, eqI, ltI, gtI, hp, lenL, hc, addI, set1 h, pow18, hb, get3 h1, set3 h1, set_set', intI, modI _ 1000003 _ (by decide), modI _ 1000000007 _ (by decide), mulI _ 48611 _ (mulC_r _ _ (by decide)), mulI _ 7919 _ (mulC_r _ _ (by decide))]
    · refine ⟨none, p, 0, s, ?_, h.p0, h.s0, h.s1⟩
      rw [self]
      simp only [Out.bind, eVar, eC, eSeq2, eNil, eCons, eTB, tAndD, tOrD, tNotD, bindS, sSeq, sNil, sIf, sRet, sAsg, gSet, svR, frz, eB, gItem, List.getElem?_cons_zero, List.getElem?_cons_succ, List.set_cons_zero, List.set_cons_succ, if_true, if_false, Bool.false_eq_true, decide_true, decide_false, get2 h, get1 h, get0 h, get3 h, eqI, ltI, hp, lenL]
  · refine ⟨none, p, r, s, ?_, h.p0, h.s0, h.s1⟩
    rw [self]
    simp only [Out.bind, eVar, eC, eSeq2, eNil, eCons, eTB, tAndD, tOrD, tNotD, bindS, sSeq, sNil, sIf, sRet, sAsg, gSet, svR, frz, eB, gItem, List.getElem?_cons_zero, List.getElem?_cons_succ, List.set_cons_zero, List.set_cons_succ, if_true, if_false, Bool.false_eq_true, decide_true, decide_false, get2 h, get1 h, get0 h, get3 h, eqI, ltI, hr]
theorem outOf_rt (n : Nat) (x : T) (M : Mst) (hn : M.length = n) : outOf n (some (.rt (.t x), M)) = .ok (.t x) M := by
  subst hn
  show Out.ok (R.t x) (M.take M.length) = _
  rw [List.take_length]
/-- the second half: the digit -/
theorem draw1 (h : Reel M k cs p r s) (size : Int) (hs : 0 < size) (h60 : size < 10 ^ 60) (a : Option SV) :
    ∃ i p' r' s', sSeq t_zdraw_1 (sSeq t_zdraw_2 (sSeq t_zdraw_3 t_zdraw_4)) (rho k size a none none) M = some (.rt (.t (.d (.int i))), M.set k (reelT cs p' r' s')) ∧ 0 ≤ i ∧ i < size ∧ 0 ≤ p' ∧ 0 ≤ s' ∧ s' < 18446744073709551616 := by
  unfold rho
  by_cases hr : 0 < r
  · refine ⟨r % size, p, r / size, s, ?_, Int.emod_nonneg _ (by omega), Int.emod_lt_of_pos _ hs, h.p0, h.s0, h.s1⟩
    refine seq_ret ?_
    unfold t_zdraw_1
    simp only [Out.bind, eVar, eC, eSeq2, eNil, eCons, eTB, tAndD, tOrD, tNotD, bindS, sSeq, sNil, sIf, sRet, sAsg, gSet, svR, frz, eB, gItem, List.getElem?_cons_zero, List.getElem?_cons_succ, List.set_cons_zero, List.set_cons_succ, if_true, if_false, Bool.false_eq_true, decide_true, decide_false, get2 h, gtI, hr, intI, modI _ size _ hs, divI _ size _ hs h60, set2 h]
  · obtain ⟨mx, hmx⟩ : ∃ mx, mx = (s * s + s * 31) % 1000000007 := ⟨_, rfl⟩
    obtain ⟨st, hst⟩ : ∃ st, st = (mx * 69621 + s * 40014 + 25013) % 1000000007 := ⟨_, rfl⟩
    have h1 := h.set p r st h.p0 (by omega) (by omega)
    have m1 := modI (st / 53 + st % 9973 * 97) size (M.set k (reelT cs p r st)) hs
    refine ⟨(st / 53 + st % 9973 * 97) % size, p, r, st, ?_, Int.emod_nonneg _ (by omega), Int.emod_lt_of_pos _ hs, h.p0, by omega, by omega⟩
    have e1 : t_zdraw_1 [some (.h k), some (.d (.int size)), a, none, none] M = some (.nx [some (.h k), some (.d (.int size)), a, none, none], M) := by
      unfold t_zdraw_1
      simp only [Out.bind, eVar, eC, eSeq2, eNil, eCons, eTB, tAndD, tOrD, tNotD, bindS, sSeq, sNil, sIf, sRet, sAsg, gSet, svR, frz, eB, gItem, List.getElem?_cons_zero, List.getElem?_cons_succ, List.set_cons_zero, List.set_cons_succ, if_true, if_false, Bool.false_eq_true, decide_true, decide_false, get2 h, gtI, hr]
    have e2 : t_zdraw_2 [some (.h k), some (.d (.int size)), a, none, none] M = some (.nx [some (.h k), some (.d (.int size)), a, none, some (.d (.int mx))], M) := by
      unfold t_zdraw_2
      simp only [Out.bind, eVar, eC, eSeq2, eNil, eCons, eTB, tAndD, tOrD, tNotD, bindS, sSeq, sNil, sIf, sRet, sAsg, gSet, svR, frz, eB, gItem, List.getElem?_cons_zero, List.getElem?_cons_succ, List.set_cons_zero, List.set_cons_succ, if_true, if_false, Bool.false_eq_true, decide_true, decide_false, get3 h, mulI s s _ (mulC_r _ _ (by have := h.s0; have := h.s1; omega)), mulI _ 31 _ (mulC_r _ _ (by decide)), addI, intI, modI _ 1000000007 _ (by decide), hmx]
    have e3 : t_zdraw_3 [some (.h k), some (.d (.int size)), a, none, some (.d (.int mx))] M = some (.nx [some (.h k), some (.d (.int size)), a, none, some (.d (.int mx))], M.set k (reelT cs p r st)) := by
      unfold t_zdraw_3
      simp only [Out.bind, eVar, eC, eSeq2, eNil, eCons, eTB, tAndD, tOrD, tNotD, bindS, sSeq, sNil, sIf, sRet, sAsg, gSet, svR, frz, eB, gItem, List.getElem?_cons_zero, List.getElem?_cons_succ, List.set_cons_zero, List.set_cons_succ, if_true, if_false, Bool.false_eq_true, decide_true, decide_false, get3 h, mulI _ 69621 _ (mulC_r _ _ (by decide)), mulI _ 40014 _ (mulC_r _ _ (by decide)), addI, intI, modI _ 1000000007 _ (by decide), hst, set3 h]
    rw [seq_step e1, seq_step e2, seq_step e3]
    unfold t_zdraw_4
    simp only [Out.bind, eVar, eC, eSeq2, eNil, eCons, eTB, tAndD, tOrD, tNotD, bindS, sSeq, sNil, sIf, sRet, sAsg, gSet, svR, frz, eB, gItem, List.getElem?_cons_zero, List.getElem?_cons_succ, List.set_cons_zero, List.set_cons_succ, if_true, if_false, Bool.false_eq_true, decide_true, decide_false, get3 h1, divI _ 53 _ (by decide) (by decide), intI, modI _ 9973 _ (by decide), mulI _ 97 _ (mulC_r _ _ (by decide)), addI, m1]
theorem draw (h : Reel M k cs p r s) (size : Int) (hs : 0 < size) (h60 : size < 10 ^ 60) :
    ∃ i p' r' s', m_zdraw [.h k, .d (.int size)] M = .ok (.t (.d (.int i))) (M.set k (reelT cs p' r' s')) ∧ 0 ≤ i ∧ i < size ∧ Reel (M.set k (reelT cs p' r' s')) k cs p' r' s' := by
  obtain ⟨a, p1, r1, s1, e0, a1, a2, a3⟩ := draw0 h size
  have h1 := h.set p1 r1 s1 a1 a2 a3
  obtain ⟨i, p2, r2, s2, e1, b1, b2, b3, b4, b5⟩ := draw1 h1 size hs h60 a
  refine ⟨i, p2, r2, s2, ?_, b1, b2, h.set p2 r2 s2 b3 b4 b5⟩
  show outOf M.length (sSeq t_zdraw_0 _ (rho k size none none none) M) = _
  rw [seq_step e0, e1, set_set', outOf_rt _ _ _ (by simp)]

/-! ### texts -/
abbrev S (l : List Nat) : Str := ⟨l.toArray⟩
theorem S_len (l : List Nat) : (S l).length = l.length := rfl
theorem S_app (a b : List Nat) : (S a ++ S b : Str) = S (a ++ b) := by
  show (⟨a.toArray ++ b.toArray⟩ : Str) = ⟨(a ++ b).toArray⟩
  simp
theorem S_chars (l : List Nat) : chars (S l) = l.map fun c => D.str (S [c]) := rfl
theorem lenS (l : List Nat) (M : Mst) (h : l.length ≤ 1000000) : scL lenD [.t (.d (.str (S l)))] M = .ok (.t (.d (.int (l.length : Nat)))) M := by
  show (match (if (S l).length ≤ strCap then some (D.int ((S l).length : Nat)) else none) with | some d => _ | none => _) = _
  rw [if_pos (show (S l).length ≤ strCap from h)]
  rfl
theorem getS (l : List Nat) (i : Int) (M : Mst) (h0 : 0 ≤ i) (h1 : i < l.length) (hc : l.length ≤ 1000000) : getR (.t (.d (.str (S l)))) (.t (.d (.int i))) M = .ok (.t (.d (.str (S [l.getD i.toNat 0])))) M := by
  obtain ⟨j, rfl⟩ : ∃ j : Nat, i = (j : Int) := ⟨i.toNat, by omega⟩
  have hj : j < l.length := by omega
  show (match atI l (j : Int) with | some c => (if (S l).length ≤ strCap then _ else _) | none => _) = _
  rw [atI_nat (x := l[j]) _ j (by simp [hj])]
  show (if (S l).length ≤ strCap then _ else _) = _
  rw [if_pos (show (S l).length ≤ strCap from hc)]
  simp [hj]
theorem getLst (ds : List D) (i : Int) (M : Mst) (h0 : 0 ≤ i) (h1 : i < ds.length) : getR (.t (.d (.lst ds))) (.t (.d (.int i))) M = .ok (.t (.d (ds.getD i.toNat .non))) M := by
  obtain ⟨j, rfl⟩ : ∃ j : Nat, i = (j : Int) := ⟨i.toNat, by omega⟩
  have hj : j < ds.length := by omega
  show (match atI (ds.map T.d) (j : Int) with | some t => _ | none => _) = _
  rw [atI_nat (x := T.d ds[j]) _ j (by simp [hj])]
  simp [hj]
theorem catSS (a b : List Nat) (M : Mst) (h : a.length + b.length ≤ 1000000) : addR (.t (.d (.str (S a)))) (.t (.d (.str (S b)))) M = .ok (.t (.d (.str (S (a ++ b))))) M := by
  show (if (S a).length + (S b).length ≤ strCap then Out.ok (R.t (T.d (.str (S a ++ S b)))) M else Out.bad) = _
  rw [if_pos (show (S a).length + (S b).length ≤ strCap from h), S_app]
/-! ### the reel goes on -/
def RD (k : Nat) (M0 M : Mst) : Prop := ∃ cs p r s, Reel M k cs p r s ∧ M = M0.set k (reelT cs p r s)
theorem RD.self {M : Mst} {k : Nat} {cs : List Int} {p r s : Int} (h : Reel M k cs p r s) : RD k M M := ⟨cs, p, r, s, h, by
  apply List.ext_getElem?
  intro j
  by_cases hj : j = k
  · subst hj; rw [List.getElem?_set_self h.lt, h.at_]
  · rw [List.getElem?_set_ne (fun e => hj e.symm)]⟩
theorem RD.draw {M0 M : Mst} {k : Nat} (h : RD k M0 M) {size : Int} (hs : 0 < size) (h60 : size < 10 ^ 60) : ∃ i M', m_zdraw [.h k, .d (.int size)] M = .ok (.t (.d (.int i))) M' ∧ 0 ≤ i ∧ i < size ∧ RD k M0 M' := by
  obtain ⟨cs, p, r, s, h, e⟩ := h
  obtain ⟨i, p', r', s', h1, h2, h3, h4⟩ := Toy.draw h size hs h60
  exact ⟨i, _, h1, h2, h3, cs, p', r', s', h4, by rw [e, set_set']⟩
theorem RD.ofS {M0 M : Mst} {k : Nat} (h : RD k M0 M) {l : List Nat} (hl : 0 < l.length) (hc : l.length ≤ 1000000) : ∃ c M', m_zof [.h k, .d (.str (S l))] M = .ok (.t (.d (.str (S [c])))) M' ∧ c ∈ l ∧ RD k M0 M' := by
  obtain ⟨i, M', h1, h2, h3, h4⟩ := h.draw (size := (l.length : Nat)) (by omega) (by omega)
  have hlen : M'.length = M.length := by
    obtain ⟨_, _, _, _, _, e⟩ := h
    obtain ⟨_, _, _, _, _, e'⟩ := h4
    rw [e, e']; simp
  refine ⟨l.getD i.toNat 0, M', ?_, ?_, h4⟩
  · show outOf M.length (b_zof [some (.h k), some (.d (.str (S l)))] M) = _
    unfold b_zof
    simp only [Out.bind, eVar, eC, eSeq2, eNil, eCons, eTB, tAndD, tOrD, tNotD, bindS, sSeq, sNil, sIf, sRet, sAsg, gSet, svR, frz, eB, gItem, List.getElem?_cons_zero, List.getElem?_cons_succ, List.set_cons_zero, List.set_cons_succ, if_true, if_false, Bool.false_eq_true, decide_true, decide_false, eCall, eArity, List.map, lenS l _ hc, List.length, if_true, Nat.reduceAdd, h1, getS l i M' h2 h3 hc]
    exact outOf_rt _ _ _ hlen
  · have : i.toNat < l.length := by omega
    simp [this]
theorem RD.ofL {M0 M : Mst} {k : Nat} (h : RD k M0 M) {ds : List D} (hl : 0 < ds.length) (hc : ds.length ≤ 1000000) : ∃ d M', m_zof [.h k, .d (.lst ds)] M = .ok (.t (.d d)) M' ∧ d ∈ ds ∧ RD k M0 M' := by
  obtain ⟨i, M', h1, h2, h3, h4⟩ := h.draw (size := (ds.length : Nat)) (by omega) (by omega)
  have hlen : M'.length = M.length := by
    obtain ⟨_, _, _, _, _, e⟩ := h
    obtain ⟨_, _, _, _, _, e'⟩ := h4
    rw [e, e']; simp
  refine ⟨ds.getD i.toNat .non, M', ?_, ?_, h4⟩
  · show outOf M.length (b_zof [some (.h k), some (.d (.lst ds))] M) = _
    unfold b_zof
    simp only [Out.bind, eVar, eC, eSeq2, eNil, eCons, eTB, tAndD, tOrD, tNotD, bindS, sSeq, sNil, sIf, sRet, sAsg, gSet, svR, frz, eB, gItem, List.getElem?_cons_zero, List.getElem?_cons_succ, List.set_cons_zero, List.set_cons_succ, if_true, if_false, Bool.false_eq_true, decide_true, decide_false, eCall, eArity, List.map, lenL, List.length, if_true, Nat.reduceAdd, h1, getLst ds i M' h2 h3]
    exact outOf_rt _ _ _ hlen
  · have : i.toNat < ds.length := by omega
    simp [this]
/-! ### comprehensions -/
theorem lc_inv {g : Tg} {own : List Nat} {c : DenT} {f : Den} {ρ : Ev} (P : Mst → Prop) (Q : D → D → Prop) : ∀ (ds : List D), (∀ d ∈ ds, ∀ M, P M → ∃ ρ1 x M', setT g d (wipeE ρ own) = some ρ1 ∧ c ρ1 M = .ok true M ∧ f ρ1 M = .ok (.t (.d x)) M' ∧ P M' ∧ Q d x) → ∀ (acc : List T) (M : Mst), P M → acc.length + ds.length ≤ 1000000 →
    ∃ (xs : List D) (M' : Mst), lcL g own c f ρ ds acc M = .ok (acc ++ xs.map T.d) M' ∧ P M' ∧ xs.length = ds.length ∧ ∀ x ∈ xs, ∃ d ∈ ds, Q d x := by
  intro ds
  induction ds with
  | nil => exact fun _ acc M hP _ => ⟨[], M, by simp [lcL], hP, rfl, fun _ z => nomatch z⟩
  | cons d r ih =>
    intro h acc M hP hn
    obtain ⟨ρ1, x, M1, e1, e2, e3, p1, q1⟩ := h d (List.mem_cons_self ..) M hP
    have hn' : acc.length + (r.length + 1) ≤ 1000000 := hn
    obtain ⟨xs, M2, f1, f2, f3, f4⟩ := ih (fun d' hd => h d' (List.mem_cons_of_mem _ hd)) (acc ++ [T.d x]) M1 p1 (by rw [List.length_append]; show acc.length + 1 + r.length ≤ _; omega)
    refine ⟨x :: xs, M2, ?_, f2, by rw [List.length_cons, f3]; rfl, fun y hy => ?_⟩
    · unfold lcL
      rw [e1]
      simp only [e2, noX, Out.bind, if_true, e3]
      rw [if_pos (by omega)]
      show lcL g own c f ρ r (acc ++ [T.d x]) M1 = _
      rw [f1]
      simp
    · rcases List.mem_cons.mp hy with rfl | hy
      · exact ⟨d, List.mem_cons_self .., q1⟩
      · obtain ⟨d', m, q⟩ := f4 y hy
        exact ⟨d', List.mem_cons_of_mem _ m, q⟩
/-- one that changes nothing: a map -/
theorem lc_map {g : Tg} {own : List Nat} {c : DenT} {f : Den} {ρ : Ev} {M : Mst} (q : D → D) : ∀ (ds : List D), (∀ d ∈ ds, ∃ ρ1, setT g d (wipeE ρ own) = some ρ1 ∧ c ρ1 M = .ok true M ∧ f ρ1 M = .ok (.t (.d (q d))) M) → ∀ acc : List T, acc.length + ds.length ≤ 1000000 →
    lcL g own c f ρ ds acc M = .ok (acc ++ (ds.map q).map T.d) M := by
  intro ds
  induction ds with
  | nil => exact fun _ acc _ => by simp [lcL]
  | cons d r ih =>
    intro h acc hn
    obtain ⟨ρ1, e1, e2, e3⟩ := h d (List.mem_cons_self ..)
    have hn' : acc.length + (r.length + 1) ≤ 1000000 := hn
    unfold lcL
    rw [e1]
    simp only [e2, noX, Out.bind, if_true, e3]
    rw [if_pos (by omega)]
    show lcL g own c f ρ r (acc ++ [T.d (q d)]) M = _
    rw [ih (fun d' hd => h d' (List.mem_cons_of_mem _ hd)) _ (by rw [List.length_append]; show acc.length + 1 + r.length ≤ _; omega)]
    simp

/-! ### slices, join -/
theorem slS (l : List Nat) (lo hi : Option Int) (M : Mst) (hc : l.length ≤ 1000000) : slR lo hi (.t (.d (.str (S l)))) M = .ok (.t (.d (.str (S ((l.drop (HT.sIx l.length 0 lo)).take (HT.sIx l.length l.length hi - HT.sIx l.length 0 lo)))))) M := by
  show (if (S l).length ≤ strCap then _ else _) = _
  rw [if_pos (show (S l).length ≤ strCap from hc)]
  rfl
theorem sIxI (n d : Nat) (i : Int) (h : 0 ≤ i) : HT.sIx n d (some i) = min i.toNat n := by
  obtain ⟨j, rfl⟩ : ∃ j : Nat, i = (j : Int) := ⟨i.toNat, by omega⟩
  rw [HT.sIx_nat]; rfl
theorem slS_to (l : List Nat) (i : Int) (M : Mst) (hc : l.length ≤ 1000000) (h : 0 ≤ i) : slR none (some i) (.t (.d (.str (S l)))) M = .ok (.t (.d (.str (S (l.take i.toNat))))) M := by
  rw [slS l _ _ M hc, sIxI _ _ _ h, HT.sIx_none]
  congr 5
  rw [Nat.sub_zero, List.drop_zero]
  by_cases hi : i.toNat ≤ l.length
  · rw [Nat.min_eq_left hi]
  · rw [Nat.min_eq_right (by omega), List.take_of_length_le (Nat.le_refl _), List.take_of_length_le (by omega)]
theorem slS_from (l : List Nat) (i : Int) (M : Mst) (hc : l.length ≤ 1000000) (h : 0 ≤ i) : slR (some i) none (.t (.d (.str (S l)))) M = .ok (.t (.d (.str (S (l.drop i.toNat))))) M := by
  rw [slS l _ _ M hc, sIxI _ _ _ h, HT.sIx_none]
  congr 5
  apply List.ext_getElem?
  intro j
  by_cases hi : i.toNat ≤ l.length
  · rw [Nat.min_eq_left hi, List.take_of_length_le (by simp)]
  · rw [Nat.min_eq_right (by omega), List.drop_eq_nil_of_le (as := l) (i := i.toNat) (by omega)]
    simp
theorem slS_mid (l : List Nat) (i j : Int) (M : Mst) (hc : l.length ≤ 1000000) (h : 0 ≤ i) (hij : i ≤ j) (hj : j ≤ l.length) : slR (some i) (some j) (.t (.d (.str (S l)))) M = .ok (.t (.d (.str (S ((l.drop i.toNat).take (j.toNat - i.toNat)))))) M := by
  rw [slS l _ _ M hc, sIxI _ _ _ h, sIxI _ _ _ (by omega), Nat.min_eq_left (by omega), Nat.min_eq_left (by omega)]
def abc : List Nat := [97, 98, 99, 100, 101, 102, 103, 104, 105, 106, 107, 108, 109, 110, 111, 112, 113, 114, 115, 116, 117, 118, 119, 120, 121, 122]
theorem abc_lit : ("abcdefghijklmnopqrstuvwxyz" : Str) = S abc := by decide +kernel
theorem mem_abc (c : Nat) : c ∈ abc ↔ 97 ≤ c ∧ c ≤ 122 := by
  constructor
  · intro h; simp [abc] at h; omega
  · intro h; simp [abc]; omega
theorem frz_ds (ds : List D) : frz (.lst (ds.map T.d)) = .lst ds := by
  unfold frz
  rw [frzL_eq]
  congr 1
  rw [List.map_map]
  exact (List.map_congr_left fun x _ => rfl).trans (List.map_id ds)
theorem frzL_ds (ds : List D) : frzL (ds.map T.d) = ds := by
  rw [frzL_eq, List.map_map]
  exact (List.map_congr_left fun x _ => rfl).trans (List.map_id ds)
theorem joinS (cs : List Nat) (M : Mst) (h : cs.length ≤ 1000000) : joinR "" (.t (.lst ((cs.map fun c => D.str (S [c])).map T.d))) M = .ok (.t (.d (.str (S cs)))) M := by
  have e1 : src M (.t (.lst ((cs.map fun c => D.str (S [c])).map T.d))) = some (.l (cs.map fun c => D.str (S [c])), M) := by
    show (match sqD (frz (.lst ((cs.map fun c => D.str (S [c])).map T.d))) with | some q => some (q, M) | none => none) = _
    rw [frz_ds]; rfl
  have e2 : strsD (cs.map fun c => D.str (S [c])) = some (cs.map fun c => S [c]) := by
    rw [show (cs.map fun c => D.str (S [c])) = (cs.map fun c => S [c]).map D.str by rw [List.map_map]; rfl]
    exact strsD_map _
  have e3 : Txt.join ("" : Str) (cs.map fun c => S [c]) = S cs := by
    rw [show Txt.join ("" : Str) (cs.map fun c => S [c]) = Str.join "" (cs.map fun c => S [c]) from TL.join_eq _ _]
    clear e1 e2 h
    induction cs with
    | nil => rfl
    | cons c r ih =>
      cases r with
      | nil => rfl
      | cons c' r' =>
        show S [c] ++ ("" : Str) ++ Str.join "" ((c' :: r').map fun c => S [c]) = _
        rw [ih, show ("" : Str) = S [] by decide +kernel, S_app, S_app]
        rfl
  unfold joinR
  rw [e1]
  show (match Sq.l (cs.map fun c => D.str (S [c])), strsD (cs.map fun c => D.str (S [c])) with | .l _, some ys => _ | .t _, some ys => _ | _, _ => _) = _
  rw [e2]
  show (if _ then Out.ok (R.t (T.d (.str (Txt.join "" (cs.map fun c => S [c]))))) M else Out.bad) = _
  rw [if_pos, e3]
  rw [List.map_map, show ((fun x : Str => x.length) ∘ fun c => S [c]) = fun _ => 1 from rfl, show (("" : Str)).length = 0 by decide +kernel]
  have : ∀ cs : List Nat, (cs.map fun _ => 1).sum = cs.length := fun cs => by
    induction cs with
    | nil => rfl
    | cons x r ih => rw [List.map_cons, List.sum_cons, ih, List.length_cons, Nat.add_comm]
  rw [this]
  omega
/-! ### is_word -/
theorem isi_ev (d : D) (n t : String) (M : Mst) (h : tyName d = some t) (ho : okTy n = true) : isiR [.t (.d d), .t (.d (.ty n))] M = .ok (.t (.d (.bl (isI t n)))) M := by
  show (match tyName d with | some t => (if okTy n = true then _ else _) | none => _) = _
  rw [h]
  show (if okTy n = true then _ else _) = _
  rw [if_pos ho]
theorem leI (i j : Int) (M : Mst) : leR (.t (.d (.int i))) (.t (.d (.int j))) M = .ok (.t (.d (.bl (decide (i ≤ j))))) M := rfl
theorem inS (c : Nat) (l : List Nat) (M : Mst) : sc2 (inOp false) (.t (.d (.str (S [c])))) (.t (.d (.str (S l)))) M = .ok (.t (.d (.bl (decide (c ∈ l))))) M := rfl
def isW (l : List Nat) (most : Int) : Bool := decide (1 ≤ (l.length : Int) ∧ (l.length : Int) ≤ most) && l.all fun c => decide (c ∈ abc)
theorem outOf_rt' (x : T) (M : Mst) : outOf M.length (some (.rt (.t x), M)) = .ok (.t x) M := outOf_rt _ _ _ rfl
/-! ### words -/
theorem subI (i j : Int) (M : Mst) : subR (.t (.d (.int i))) (.t (.d (.int j))) M = .ok (.t (.d (.int (i - j)))) M := rfl
theorem RD.len {k : Nat} {M0 M : Mst} (h : RD k M0 M) : M.length = M0.length := by
  obtain ⟨_, _, _, _, _, e⟩ := h
  rw [e]; simp
theorem nats_of {P : Nat → Prop} : ∀ xs : List D, (∀ x ∈ xs, ∃ c, P c ∧ x = .str (S [c])) → ∃ cs : List Nat, xs = cs.map (fun c => D.str (S [c])) ∧ ∀ c ∈ cs, P c
  | [], _ => ⟨[], rfl, fun _ z => nomatch z⟩
  | x :: r, h => by
    obtain ⟨c, hc, rfl⟩ := h x (List.mem_cons_self ..)
    obtain ⟨cs, e, hcs⟩ := nats_of r fun y hy => h y (List.mem_cons_of_mem _ hy)
    exact ⟨c :: cs, by rw [e]; rfl, fun y hy => by rcases List.mem_cons.mp hy with rfl | hy; exact hc; exact hcs y hy⟩
theorem ints_of {P : Int → Prop} : ∀ xs : List D, (∀ x ∈ xs, ∃ c, P c ∧ x = .int c) → ∃ cs : List Int, xs = cs.map D.int ∧ ∀ c ∈ cs, P c
  | [], _ => ⟨[], rfl, fun _ z => nomatch z⟩
  | x :: r, h => by
    obtain ⟨c, hc, rfl⟩ := h x (List.mem_cons_self ..)
    obtain ⟨cs, e, hcs⟩ := ints_of r fun y hy => h y (List.mem_cons_of_mem _ hy)
    exact ⟨c :: cs, by rw [e]; rfl, fun y hy => by rcases List.mem_cons.mp hy with rfl | hy; exact hc; exact hcs y hy⟩
theorem rangeD_len (lo : Int) (n : Nat) : (rangeD lo n).length = n := by unfold rangeD; simp
theorem range1_ev {A : DenA} {ρ : Ev} {M M1 : Mst} (i : Int) (h : i < 1000000000 ∧ -1000000000 < i) (hA : A ρ M = .ok [.t (.d (.int i))] M1) : iRange1 A ρ M = .ok (rangeD 0 i.toNat) M1 := by
  unfold iRange1
  rw [hA]
  show (if i < 1000000000 ∧ -1000000000 < i then Out.ok (rangeD 0 i.toNat) M1 else .bad) = _
  rw [if_pos h]
theorem range1_nat {A : DenA} {ρ : Ev} {M M1 : Mst} (n : Nat) (h : n ≤ 1000) (hA : A ρ M = .ok [.t (.d (.int (n : Nat)))] M1) : iRange1 A ρ M = .ok (rangeD 0 n) M1 := by
  rw [range1_ev (n : Int) (by omega) hA, Int.toNat_natCast]
/-! ### _law_same is reflexive -/
def okS : Nat → D → Bool
  | _, .non => true
  | _, .bl _ => true
  | _, .int _ => true
  | _, .str _ => true
  | n + 1, .lst ds => decide (ds.length ≤ 1000) && ds.all (okS n)
  | n + 1, .tupP _ ds => decide (ds.length ≤ 1000) && ds.all (okS n)
  | _, _ => false
theorem isN_ev (d : D) (M : Mst) : sc2 (isN false) (.t (.d d)) (.t (.d .non)) M = .ok (.t (.d (.bl (isNonD d)))) M := rfl
abbrev r4 (d : D) : Ev := [some (.d d), some (.d d), none, none]
theorem same_unf (n : Nat) (d : D) (M : Mst) : m_zsame (n + 1) [.d d, .d d] M = outOf M.length (sSeq (t_zsame_0 (m_zsame n)) (sSeq (t_zsame_1 (m_zsame n)) (sSeq (t_zsame_2 (m_zsame n)) (sSeq (t_zsame_3 (m_zsame n)) (sSeq (t_zsame_4 (m_zsame n)) (t_zsame_5 (m_zsame n)))))) (r4 d) M) := rfl
theorem same_non (n : Nat) (M : Mst) : m_zsame (n + 1) [.d .non, .d .non] M = .ok (.t (.d (.bl true))) M := by
  rw [same_unf, seq_ret (r := .t (.d (.bl true))) (M' := M), outOf_rt']
  unfold t_zsame_0
  simp only [Out.bind, eVar, eC, eSeq2, eNil, eCons, eTB, tAndD, tOrD, tNotD, bindS, sSeq, sNil, sIf, sRet, sAsg, gSet, svR, frz, eB, gItem, List.getElem?_cons_zero, List.getElem?_cons_succ, List.set_cons_zero, List.set_cons_succ, if_true, if_false, Bool.false_eq_true, decide_true, decide_false, isN_ev, isNonD, eAnd]
theorem same0 (rec : Fn) (d : D) (M : Mst) (h : isNonD d = false) : t_zsame_0 rec (r4 d) M = some (.nx (r4 d), M) := by
  unfold t_zsame_0
  simp only [Out.bind, eVar, eC, eSeq2, eNil, eCons, eTB, tAndD, tOrD, tNotD, bindS, sSeq, sNil, sIf, sRet, sAsg, gSet, svR, frz, eB, gItem, List.getElem?_cons_zero, List.getElem?_cons_succ, List.set_cons_zero, List.set_cons_succ, if_true, if_false, Bool.false_eq_true, decide_true, decide_false, isN_ev, h]
theorem same_isi (rec : Fn) (d : D) (M : Mst) (t : String) (ht : tyName d = some t) :
    (isI t "list" = false → t_zsame_1 rec (r4 d) M = some (.nx (r4 d), M)) ∧ (isI t "tuple" = false → t_zsame_2 rec (r4 d) M = some (.nx (r4 d), M)) ∧ (isI t "bool" = false → t_zsame_3 rec (r4 d) M = some (.nx (r4 d), M)) ∧ (isI t "int" = false → t_zsame_4 rec (r4 d) M = some (.nx (r4 d), M)) := by
  refine ⟨fun h => ?_, fun h => ?_, fun h => ?_, fun h => ?_⟩
  · unfold t_zsame_1; simp only [Out.bind, eVar, eC, eSeq2, eNil, eCons, eTB, tAndD, tOrD, tNotD, bindS, sSeq, sNil, sIf, sRet, sAsg, gSet, svR, frz, eB, gItem, List.getElem?_cons_zero, List.getElem?_cons_succ, List.set_cons_zero, List.set_cons_succ, if_true, if_false, Bool.false_eq_true, decide_true, decide_false, eTru, frzR, isi_ev d "list" t M ht (by decide), truth, h]
  · unfold t_zsame_2; simp only [Out.bind, eVar, eC, eSeq2, eNil, eCons, eTB, tAndD, tOrD, tNotD, bindS, sSeq, sNil, sIf, sRet, sAsg, gSet, svR, frz, eB, gItem, List.getElem?_cons_zero, List.getElem?_cons_succ, List.set_cons_zero, List.set_cons_succ, if_true, if_false, Bool.false_eq_true, decide_true, decide_false, eTru, frzR, isi_ev d "tuple" t M ht (by decide), truth, h]
  · unfold t_zsame_3; simp only [Out.bind, eVar, eC, eSeq2, eNil, eCons, eTB, tAndD, tOrD, tNotD, bindS, sSeq, sNil, sIf, sRet, sAsg, gSet, svR, frz, eB, gItem, List.getElem?_cons_zero, List.getElem?_cons_succ, List.set_cons_zero, List.set_cons_succ, if_true, if_false, Bool.false_eq_true, decide_true, decide_false, eTru, frzR, isi_ev d "bool" t M ht (by decide), truth, h]
  · unfold t_zsame_4; simp only [Out.bind, eVar, eC, eSeq2, eNil, eCons, eTB, tAndD, tOrD, tNotD, bindS, sSeq, sNil, sIf, sRet, sAsg, gSet, svR, frz, eB, gItem, List.getElem?_cons_zero, List.getElem?_cons_succ, List.set_cons_zero, List.set_cons_succ, if_true, if_false, Bool.false_eq_true, decide_true, decide_false, eTru, frzR, isi_ev d "int" t M ht (by decide), truth, h]
theorem eqB (a b : Bool) (M : Mst) : eqR (.t (.d (.bl a))) (.t (.d (.bl b))) M = .ok (.t (.d (.bl (decide (a = b))))) M := by cases a <;> cases b <;> rfl
theorem eqS (a b : Str) (M : Mst) : eqR (.t (.d (.str a))) (.t (.d (.str b))) M = .ok (.t (.d (.bl (decide (a = b))))) M := rfl
theorem neI (i j : Int) (M : Mst) : neR (.t (.d (.int i))) (.t (.d (.int j))) M = .ok (.t (.d (.bl (!decide (i = j))))) M := by
  show Out.ok (R.t (T.d (D.bl (!eqv (.int i) (.int j))))) M = _
  congr 4
theorem pair_mem {ds : List D} {d : D} (h : d ∈ pairD ds ds) : ∃ a ∈ ds, d = .tup [a, a] := by
  induction ds with
  | nil => cases h
  | cons x r ih =>
    rcases List.mem_cons.mp h with rfl | h
    · exact ⟨x, List.mem_cons_self .., rfl⟩
    · obtain ⟨a, m, e⟩ := ih h
      exact ⟨a, List.mem_cons_of_mem _ m, e⟩
theorem pair_len (ds : List D) : (pairD ds ds).length = ds.length := by unfold pairD; simp
theorem all_true (n : Nat) (M : Mst) : scL allDD [.t (.lst ((List.replicate n (D.bl true)).map T.d))] M = .ok (.t (.d (.bl true))) M := by
  show (match allDD [frz (.lst _)] with | some d => _ | none => _) = _
  rw [frz_ds]
  have : boolsD (List.replicate n (D.bl true)) = some (List.replicate n true) := by
    induction n with
    | zero => rfl
    | succ n ih => show (boolsD (List.replicate n _)).map _ = _; rw [ih]; rfl
  show (match (boolsD (List.replicate n (D.bl true))).map fun bs => D.bl (bs.all id) with | some d => _ | none => _) = _
  rw [this]
  show Out.ok (R.t (T.d (D.bl ((List.replicate n true).all id)))) M = _
  congr 4
  simp
theorem same_lc (rec : Fn) (ds : List D) (D0 : D) (M : Mst) (hl : ds.length ≤ 1000) (hr : ∀ a ∈ ds, ∀ M, rec [.d a, .d a] M = .ok (.t (.d (.bl true))) M) :
    lcL (.many [2, 3]) [2, 3] tYesD (eCall rec (eArity 2 (eCons (eVar 2) (eCons (eVar 3) eNil)))) (r4 D0) (pairD ds ds) [] M = .ok ((List.replicate ds.length (D.bl true)).map T.d) M := by
  have e := lc_map (g := .many [2, 3]) (own := [2, 3]) (c := tYesD) (f := (eCall rec (eArity 2 (eCons (eVar 2) (eCons (eVar 3) eNil))))) (ρ := r4 D0) (M := M) (fun _ => .bl true) (pairD ds ds) (fun d hd => by
    obtain ⟨a, ha, rfl⟩ := pair_mem hd
    refine ⟨_, rfl, rfl, ?_⟩
    show rec [.d a, .d a] M = _
    exact hr a ha M) [] (by rw [pair_len]; show 0 + ds.length ≤ _; omega)
  rw [e, List.nil_append, List.map_const', pair_len]
theorem sc_l (rec : Fn) (ds : List D) (M : Mst) (hl : ds.length ≤ 1000) (hr : ∀ a ∈ ds, ∀ M, rec [.d a, .d a] M = .ok (.t (.d (.bl true))) M) : t_zsame_1 rec (r4 (.lst ds)) M = some (.rt (.t (.d (.bl true))), M) := by
  have e1 : iZipD (eCons (eVar 0) (eCons (eVar 1) eNil)) (r4 (.lst ds)) M = .ok (pairD ds ds) M := rfl
  unfold t_zsame_1
  simp only [Out.bind, eVar, eC, eSeq2, eNil, eCons, eTB, tAndD, tOrD, tNotD, bindS, sSeq, sNil, sIf, sRet, sAsg, gSet, svR, frz, eB, gItem, List.getElem?_cons_zero, List.getElem?_cons_succ, List.set_cons_zero, List.set_cons_succ, if_true, if_false, Bool.false_eq_true, decide_true, decide_false, eTru, frzR, isi_ev (.lst ds) "list" "list" M rfl (by decide), truth, show isI "list" "list" = true by decide, lenL, neI, Bool.not_true, eLc, e1, same_lc rec ds (.lst ds) M hl hr, all_true]
theorem lenT (p : Bool) (ds : List D) (M : Mst) : scL lenD [.t (.d (.tupP p ds))] M = .ok (.t (.d (.int (ds.length : Nat)))) M := rfl
theorem sc_t (p : Bool) (rec : Fn) (ds : List D) (M : Mst) (hl : ds.length ≤ 1000) (hr : ∀ a ∈ ds, ∀ M, rec [.d a, .d a] M = .ok (.t (.d (.bl true))) M) : t_zsame_2 rec (r4 (.tupP p ds)) M = some (.rt (.t (.d (.bl true))), M) := by
  have e1 : iZipD (eCons (eVar 0) (eCons (eVar 1) eNil)) (r4 (.tupP p ds)) M = .ok (pairD ds ds) M := rfl
  unfold t_zsame_2
  simp only [Out.bind, eVar, eC, eSeq2, eNil, eCons, eTB, tAndD, tOrD, tNotD, bindS, sSeq, sNil, sIf, sRet, sAsg, gSet, svR, frz, eB, gItem, List.getElem?_cons_zero, List.getElem?_cons_succ, List.set_cons_zero, List.set_cons_succ, if_true, if_false, Bool.false_eq_true, decide_true, decide_false, eTru, frzR, isi_ev (.tupP p ds) "tuple" "tuple" M rfl (by decide), truth, show isI "tuple" "tuple" = true by decide, lenT, neI, Bool.not_true, eLc, e1, same_lc rec ds (.tupP p ds) M hl hr, all_true]
theorem same_refl : ∀ (n : Nat) (d : D) (M : Mst), okS n d = true → m_zsame (n + 1) [.d d, .d d] M = .ok (.t (.d (.bl true))) M := by
  intro n d M h
  cases d with
  | non => exact same_non n M
  | bl b =>
    obtain ⟨s1, s2, s3, s4⟩ := same_isi (m_zsame n) (.bl b) M "bool" rfl
    rw [same_unf, seq_step (same0 _ _ _ rfl), seq_step (s1 (by decide)), seq_step (s2 (by decide)), seq_ret (r := .t (.d (.bl true))) (M' := M), outOf_rt']
    unfold t_zsame_3
    simp only [Out.bind, eVar, eC, eSeq2, eNil, eCons, eTB, tAndD, tOrD, tNotD, bindS, sSeq, sNil, sIf, sRet, sAsg, gSet, svR, frz, eB, gItem, List.getElem?_cons_zero, List.getElem?_cons_succ, List.set_cons_zero, List.set_cons_succ, if_true, if_false, Bool.false_eq_true, decide_true, decide_false, eTru, frzR, isi_ev (.bl b) "bool" "bool" M rfl (by decide), truth, show isI "bool" "bool" = true by decide, eAnd, eqB]
  | int i =>
    obtain ⟨s1, s2, s3, s4⟩ := same_isi (m_zsame n) (.int i) M "int" rfl
    rw [same_unf, seq_step (same0 _ _ _ rfl), seq_step (s1 (by decide)), seq_step (s2 (by decide)), seq_step (s3 (by decide)), seq_ret (r := .t (.d (.bl true))) (M' := M), outOf_rt']
    unfold t_zsame_4
    simp only [Out.bind, eVar, eC, eSeq2, eNil, eCons, eTB, tAndD, tOrD, tNotD, bindS, sSeq, sNil, sIf, sRet, sAsg, gSet, svR, frz, eB, gItem, List.getElem?_cons_zero, List.getElem?_cons_succ, List.set_cons_zero, List.set_cons_succ, if_true, if_false, Bool.false_eq_true, decide_true, decide_false, eTru, frzR, isi_ev (.int i) "int" "int" M rfl (by decide), isi_ev (.int i) "bool" "int" M rfl (by decide), truth, show isI "int" "int" = true by decide, show isI "int" "bool" = false by decide, eAnd, eNot, Bool.not_false, eqI]
  | str x =>
    obtain ⟨s1, s2, s3, s4⟩ := same_isi (m_zsame n) (.str x) M "str" rfl
    rw [same_unf, seq_step (same0 _ _ _ rfl), seq_step (s1 (by decide)), seq_step (s2 (by decide)), seq_step (s3 (by decide)), seq_step (s4 (by decide))]
    have : t_zsame_5 (m_zsame n) (r4 (.str x)) M = some (.rt (.t (.d (.bl true))), M) := by
      unfold t_zsame_5
      simp only [Out.bind, eVar, eC, eSeq2, eNil, eCons, eTB, tAndD, tOrD, tNotD, bindS, sSeq, sNil, sIf, sRet, sAsg, gSet, svR, frz, eB, gItem, List.getElem?_cons_zero, List.getElem?_cons_succ, List.set_cons_zero, List.set_cons_succ, if_true, if_false, Bool.false_eq_true, decide_true, decide_false, eTru, frzR, isi_ev (.str x) "str" "str" M rfl (by decide), truth, show isI "str" "str" = true by decide, eAnd, eqS]
    rw [this, outOf_rt']
  | lst ds =>
    cases n with
    | zero => cases h
    | succ n =>
      have h : (decide (ds.length ≤ 1000) && ds.all (okS n)) = true := h
      rw [Bool.and_eq_true, decide_eq_true_eq, List.all_eq_true] at h
      rw [same_unf, seq_step (same0 _ _ _ rfl), seq_ret (sc_l _ ds M h.1 fun a ha M => same_refl n a M (h.2 a ha)), outOf_rt']
  | tupP p ds =>
    cases n with
    | zero => cases h
    | succ n =>
      have h : (decide (ds.length ≤ 1000) && ds.all (okS n)) = true := h
      rw [Bool.and_eq_true, decide_eq_true_eq, List.all_eq_true] at h
      obtain ⟨s1, s2, s3, s4⟩ := same_isi (m_zsame (n + 1)) (.tupP p ds) M "tuple" rfl
      rw [same_unf, seq_step (same0 _ _ _ rfl), seq_step (s1 (by decide)), seq_ret (sc_t p _ ds M h.1 fun a ha M => same_refl n a M (h.2 a ha)), outOf_rt']
  | ins c f => cases n <;> cases h
  | dic f => cases n <;> cases h
  | glo x => cases n <;> cases h
  | ty x => cases n <;> cases h
  | ro x => cases n <;> cases h
  | junk => cases n <;> cases h
  | exn c f => cases n <;> cases h

/-! ### the law -/
theorem src_lst (ds : List D) (M : Mst) : src M (.t (.lst (ds.map T.d))) = some (.l ds, M) := by
  show (match sqD (frz (.lst (ds.map T.d))) with | some q => some (q, M) | none => none) = _
  rw [frz_ds]; rfl
theorem src_ld (ds : List D) (M : Mst) : src M (.t (.d (.lst ds))) = some (.l ds, M) := rfl
theorem catLL {r1 r2 : R} {a b : List D} {M : Mst} (h1 : src M r1 = some (.l a, M)) (h2 : src M r2 = some (.l b, M)) (hq : isSq (frzR M r1) = true) (h : a.length + b.length ≤ 1000000) : addR r1 r2 M = .ok (.t (.lst ((a ++ b).map T.d))) M := by
  unfold addR case2
  rw [if_pos hq]
  unfold catR
  simp only [h1, h2]
  rw [if_pos h]
theorem isSq_lst (ds : List D) (M : Mst) : isSq (frzR M (.t (.lst (ds.map T.d)))) = true := by
  show isSq (frz _) = true
  rw [frz_ds]; rfl
theorem iOf_lst {F : Den} {ρ : Ev} {M : Mst} {ds : List D} (h : F ρ M = .ok (.t (.lst (ds.map T.d))) M) : iOf F ρ M = .ok ds M := by
  unfold iOf
  rw [h]
  show (match items (frz (.lst (ds.map T.d))) with | some ds => Out.ok ds M | none => .bad) = _
  rw [frz_ds]; rfl
theorem lc_ev {G : DenI} {g : Tg} {own : List Nat} {f : Den} {ρ : Ev} {M : Mst} (q : D → D) {ds : List D} (hG : G ρ M = .ok ds M) (h : ∀ d ∈ ds, ∃ ρ1, setT g d (wipeE ρ own) = some ρ1 ∧ f ρ1 M = .ok (.t (.d (q d))) M) (hn : ds.length ≤ 1000) :
    eLc G g own tYesD f ρ M = .ok (.t (.lst ((ds.map q).map T.d))) M := by
  unfold eLc
  rw [hG]
  show (lcL g own tYesD f ρ ds [] M).bind _ = _
  rw [lc_map (c := tYesD) q ds (fun d hd => let ⟨ρ1, h1, h2⟩ := h d hd; ⟨ρ1, h1, rfl, h2⟩) [] (by rw [List.length_nil]; omega)]
  rfl
theorem same_step {A B : Den} {ρ : Ev} {M : Mst} {r1 r2 : R} {d : D} (hA : A ρ M = .ok r1 M) (hB : B ρ M = .ok r2 M) (h1 : svR r1 = .d d) (h2 : svR r2 = .d d) (ho : okS 3 d = true) :
    eCall (m_zsame 4) (eArity 2 (eCons A (eCons B eNil))) ρ M = .ok (.t (.d (.bl true))) M := by
  simp only [Out.bind, eVar, eC, eSeq2, eNil, eCons, eTB, tAndD, tOrD, tNotD, bindS, sSeq, sNil, sIf, sRet, sAsg, gSet, svR, frz, eB, gItem, List.getElem?_cons_zero, List.getElem?_cons_succ, List.set_cons_zero, List.set_cons_succ, if_true, if_false, Bool.false_eq_true, decide_true, decide_false, eCall, eArity, hA, hB, List.length, Nat.reduceAdd, List.map]
  show m_zsame 4 [svR r1, svR r2] M = _
  rw [h1, h2, same_refl 3 d M ho]
theorem svR_lst (ds : List D) : svR (.t (.lst (ds.map T.d))) = .d (.lst ds) := by
  show SV.d (frz _) = _
  rw [frz_ds]
theorem guard_step {A : Den} {ρ : Ev} {M : Mst} (h : A ρ M = .ok (.t (.d (.bl true))) M) : sIf (tNotD (eTru A)) (sRet (eC (.bl false))) sNil ρ M = some (.nx ρ, M) := by
  simp only [Out.bind, eVar, eC, eSeq2, eNil, eCons, eTB, tAndD, tOrD, tNotD, bindS, sSeq, sNil, sIf, sRet, sAsg, gSet, svR, frz, eB, gItem, List.getElem?_cons_zero, List.getElem?_cons_succ, List.set_cons_zero, List.set_cons_succ, if_true, if_false, Bool.false_eq_true, decide_true, decide_false, eTru, h, frzR, truth, Bool.not_true]
theorem isW_good {w : List Nat} {most : Int} (h : 1 ≤ w.length ∧ (w.length : Int) ≤ most ∧ ∀ c ∈ w, c ∈ abc) : isW w most = true := by
  unfold isW
  rw [Bool.and_eq_true, List.all_eq_true]
  exact ⟨decide_eq_true ⟨by omega, h.2.1⟩, fun c hc => decide_eq_true (h.2.2 c hc)⟩
theorem reel_evM (ns : List Int) (M : Mst) : ∃ cs s, m_zreel [.d (.ro (ns.map D.int))] M = .ok (.t (reelT cs 0 0 s)) M ∧ 0 ≤ s ∧ s < 18446744073709551616 := by
  have hc : cutD (ns.map D.int) none (some 63) = (ns.take 63).map D.int := by
    unfold cutD
    rw [HT.sIx_none, sIxI _ _ _ (by decide), List.drop_zero, Nat.sub_zero]
    rw [show (63 : Int).toNat = 63 from rfl, List.length_map]
    by_cases h : 63 ≤ ns.length
    · rw [Nat.min_eq_left h, List.map_take]
    · rw [Nat.min_eq_right (by omega), List.take_of_length_le (by simp), List.take_of_length_le (l := ns) (by omega)]
  have hl : (ns.take 63).length ≤ 63 := by rw [List.length_take]; omega
  refine ⟨ns.take 63, 12011 + 7 * ((ns.take 63).length : Nat), ?_, by omega, by omega⟩
  have e0 : slR none (some 63) (.t (.d (.ro (ns.map D.int)))) M = .ok (.t (.lst (((ns.take 63).map D.int).map T.d))) M := by
    show Out.ok (R.t (.lst ((cutD (ns.map D.int) none (some 63)).map T.d))) M = _
    rw [hc]
  have e1 : listR [.t (.lst (((ns.take 63).map D.int).map T.d))] M = .ok (.t (.lst (((ns.take 63).map D.int).map T.d))) M := by
    simp only [listR, src_lst]
  show outOf M.length (sSeq t_zreel_0 t_zreel_1 [some (.d (.ro (ns.map D.int))), none] M) = _
  rw [seq_step (ρ' := [some (.d (.ro (ns.map D.int))), some (.d (.lst ((ns.take 63).map D.int)))]) (M' := M)]
  · unfold t_zreel_1
    have m7 := mulI 7 ((ns.take 63).length : Nat) M (mulC_l _ _ (by decide))
    simp only [Out.bind, eVar, eC, eSeq2, eNil, eCons, eTB, tAndD, tOrD, tNotD, bindS, sSeq, sNil, sIf, sRet, sAsg, gSet, svR, frz, eB, gItem, List.getElem?_cons_zero, List.getElem?_cons_succ, List.set_cons_zero, List.set_cons_succ, if_true, if_false, Bool.false_eq_true, decide_true, decide_false, eLst, lenL, List.length_map, m7, addI, treesM, List.length, Nat.reduceAdd, Nat.reduceLeDiff]
    exact outOf_rt' _ _
  · unfold t_zreel_0
    simp only [Out.bind, eVar, eC, eSeq2, eNil, eCons, eTB, tAndD, tOrD, tNotD, bindS, sSeq, sNil, sIf, sRet, sAsg, gSet, svR, frz, eB, gItem, List.getElem?_cons_zero, List.getElem?_cons_succ, List.set_cons_zero, List.set_cons_succ, if_true, if_false, Bool.false_eq_true, decide_true, decide_false, eSl, oNone, oSome, frzR, e0, e1, frzL_ds]

theorem reel_ev (ns : List Int) : ∃ cs s, m_zreel [.d (.ro (ns.map D.int))] [] = .ok (.t (reelT cs 0 0 s)) [] ∧ 0 ≤ s ∧ s < 18446744073709551616 := reel_evM ns []
theorem isW_bad {w : List Nat} {most : Int} {c : Nat} (h : c ∈ w) (hc : c ∉ abc) : isW w most = false := by
  unfold isW
  rw [Bool.and_eq_false_iff]
  refine .inr ?_
  rw [List.all_eq_false]
  exact ⟨c, h, by simpa using hc⟩
theorem isW_long {w : List Nat} {most : Int} (h : most < w.length) : isW w most = false := by
  unfold isW
  rw [decide_eq_false (fun z => by have := z.2; omega), Bool.false_and]
end
end Toy

/-! what a denotation promises, from behind -/
namespace Toy
open PySem L2 DL
def WpF {α : Type} (o : Out α) (Q : α → Mst → Prop) (E : Exc → Mst → Prop) : Prop := match o with
  | .ok a M => Q a M
  | .exc e M => E e M
  | .bad => False
structure Wp {α : Type} (o : Out α) (Q : α → Mst → Prop) (E : Exc → Mst → Prop) : Prop where
  w : WpF o Q E
def WpSF (o : Option (Fl × Mst)) (Φ : Fl → Mst → Prop) : Prop := match o with
  | some (f, M) => Φ f M
  | none => False
structure WpS (o : Option (Fl × Mst)) (Φ : Fl → Mst → Prop) : Prop where
  w : WpSF o Φ
section
variable {α β : Type} {Q : α → Mst → Prop} {Q' : R → Mst → Prop} {E : Exc → Mst → Prop} {Φ : Fl → Mst → Prop} {M : Mst} {ρ : Ev}
theorem Wp.mono {o : Out α} {Q1 : α → Mst → Prop} (h : Wp o Q1 E) (k : ∀ a M, Q1 a M → Q a M) : Wp o Q E := by
  obtain ⟨h⟩ := h
  cases o with
  | ok a M => exact ⟨k a M h⟩
  | exc e M => exact ⟨h⟩
  | bad => exact h.elim
theorem WpS.mono {o : Option (Fl × Mst)} {Φ1 : Fl → Mst → Prop} (h : WpS o Φ1) (k : ∀ a M, Φ1 a M → Φ a M) : WpS o Φ := by
  obtain ⟨h⟩ := h
  cases o with
  | none => exact h.elim
  | some q => exact ⟨k q.1 q.2 h⟩
theorem wp_ok (a : α) : Wp (.ok a M) Q E ↔ Q a M := ⟨fun h => h.w, fun h => ⟨h⟩⟩
theorem wp_exc (e : Exc) : Wp (.exc e M : Out α) Q E ↔ E e M := ⟨fun h => h.w, fun h => ⟨h⟩⟩
theorem wp_bad : Wp (.bad : Out α) Q E ↔ False := ⟨fun h => h.w, False.elim⟩
theorem wp_bind (o : Out β) (k : β → Mst → Out α) : Wp (o.bind k) Q E ↔ Wp o (fun b M1 => Wp (k b M1) Q E) E := by cases o <;> first | exact ⟨fun h => ⟨h⟩, fun h => h.w⟩ | exact ⟨fun h => ⟨h.w⟩, fun h => ⟨h.w⟩⟩
theorem wp_ite (c : Prop) [Decidable c] (a b : Out α) : Wp (if c then a else b) Q E ↔ (if c then Wp a Q E else Wp b Q E) := by split <;> exact Iff.rfl
theorem wps_some (f : Fl) : WpS (some (f, M)) Φ ↔ Φ f M := ⟨fun h => h.w, fun h => ⟨h⟩⟩
theorem wps_none : WpS none Φ ↔ False := ⟨fun h => h.w, False.elim⟩
theorem wps_ite (c : Prop) [Decidable c] (a b : Option (Fl × Mst)) : WpS (if c then a else b) Φ ↔ (if c then WpS a Φ else WpS b Φ) := by split <;> exact Iff.rfl
theorem wps_bind (o : Out α) (k : α → Mst → Option (Fl × Mst)) : WpS (bindS o ρ k) Φ ↔ Wp o (fun a M1 => WpS (k a M1) Φ) (fun e M1 => Φ (.xc e ρ) M1) := by cases o <;> first | exact ⟨fun h => ⟨h⟩, fun h => h.w⟩ | exact ⟨fun h => ⟨h.w⟩, fun h => ⟨h.w⟩⟩
def seqK (G : DenS) (Φ : Fl → Mst → Prop) : Fl → Mst → Prop
  | .nx ρ1, M1 => WpS (G ρ1 M1) Φ
  | f, M1 => Φ f M1
theorem wps_seq (F G : DenS) : WpS (sSeq F G ρ M) Φ ↔ WpS (F ρ M) (seqK G Φ) := by
  unfold sSeq
  cases h : F ρ M with
  | none => exact ⟨fun h => ⟨h.w⟩, fun h => ⟨h.w⟩⟩
  | some q =>
    obtain ⟨f, M1⟩ := q
    cases f <;> first | exact ⟨fun h => ⟨h⟩, fun h => h.w⟩ | exact ⟨fun h => ⟨h.w⟩, fun h => ⟨h.w⟩⟩
theorem seqK_nx (G : DenS) (ρ1 : Ev) (M1 : Mst) : seqK G Φ (.nx ρ1) M1 ↔ WpS (G ρ1 M1) Φ := Iff.rfl
theorem seqK_rt (G : DenS) (r : R) (M1 : Mst) : seqK G Φ (.rt r) M1 ↔ Φ (.rt r) M1 := Iff.rfl
theorem seqK_xc (G : DenS) (e : Exc) (ρ1 : Ev) (M1 : Mst) : seqK G Φ (.xc e ρ1) M1 ↔ Φ (.xc e ρ1) M1 := Iff.rfl
theorem seqK_ct (G : DenS) (ρ1 : Ev) (M1 : Mst) : seqK G Φ (.ct ρ1) M1 ↔ Φ (.ct ρ1) M1 := Iff.rfl
theorem seqK_bk (G : DenS) (ρ1 : Ev) (M1 : Mst) : seqK G Φ (.bk ρ1) M1 ↔ Φ (.bk ρ1) M1 := Iff.rfl
/-- what is wanted behind a def's body -/
def fnK (n : Nat) (Q : R → Mst → Prop) (E : Exc → Mst → Prop) : Fl → Mst → Prop
  | .nx _, M' => Q (.t (.d .non)) (M'.take n)
  | .rt r, M' => Q (retR n M' r) (M'.take n)
  | .xc e _, M' => E e (M'.take n)
  | _, _ => False
theorem wp_body (N : Nat) (b : DenS) (xs : List SV) : Wp (body N b xs M) Q' E ↔ WpS (b (env0 N xs) M) (fnK M.length Q' E) := by
  unfold body outOf
  cases h : b (env0 N xs) M with
  | none => exact ⟨fun h => ⟨h.w⟩, fun h => ⟨h.w⟩⟩
  | some q =>
    obtain ⟨f, M1⟩ := q
    cases f <;> exact ⟨fun h => ⟨h.w⟩, fun h => ⟨h.w⟩⟩
/-- a def by its body -/
theorem wp_fn {N : Nat} {b : DenS} {xs : List SV} {ρ : Ev} (he : env0 N xs = ρ) (h : WpS (b ρ M) (fnK M.length Q' E)) : Wp (body N b xs M) Q' E := by
  rw [wp_body, he]; exact h
theorem fnK_rt (n : Nat) (x : T) (M' : Mst) : fnK n Q' E (.rt (.t x)) M' ↔ Q' (.t x) (M'.take n) := Iff.rfl
theorem fnK_nx (n : Nat) (ρ' : Ev) (M' : Mst) : fnK n Q' E (.nx ρ') M' ↔ Q' (.t (.d .non)) (M'.take n) := Iff.rfl
theorem wp_eq {o : Out α} {a : α} {M' : Mst} (h : o = .ok a M') (q : Q a M') : Wp o Q E := by rw [h]; exact ⟨q⟩
theorem ok_of {o : Out R} {r : R} {M' : Mst} (h : Wp o (fun a M1 => a = r ∧ M1 = M') (fun _ _ => False)) : o = .ok r M' := by
  obtain ⟨h⟩ := h
  cases o with
  | ok a M1 => obtain ⟨h1, h2⟩ := h; subst h1; subst h2; rfl
  | exc e M1 => exact h.elim
  | bad => exact h.elim
/-- what a promise without exceptions gives -/
theorem Wp.get {o : Out α} (h : Wp o Q (fun _ _ => False)) : ∃ a M', o = .ok a M' ∧ Q a M' := by
  obtain ⟨h⟩ := h
  cases o with
  | ok a M1 => exact ⟨a, M1, rfl, h⟩
  | exc e M1 => exact h.elim
  | bad => exact h.elim
theorem take_len (M : Mst) : M.take M.length = M := List.take_length
/-! ### comprehensions, loops -/
theorem wp_lc {G : DenI} {g : Tg} {own : List Nat} {c : DenT} {f : Den} (I : List D → Mst → Prop)
    (h : Wp (G ρ M) (fun ds M1 => ds.length ≤ 1000000 ∧ I [] M1 ∧ (∀ (n : Nat) (d : D) (xs : List D) M2, ds[n]? = some d → xs.length = n → I xs M2 → ∃ ρ1, setT g d (wipeE ρ own) = some ρ1 ∧ c ρ1 M2 = .ok true M2 ∧ Wp (f ρ1 M2) (fun r M3 => ∃ x, r = .t (.d x) ∧ I (xs ++ [x]) M3) (fun _ _ => False)) ∧
      ∀ xs M2, xs.length = ds.length → I xs M2 → Q' (.t (.lst (xs.map T.d))) M2) E) : Wp (eLc G g own c f ρ M) Q' E := by
  unfold eLc
  rw [wp_bind]
  refine h.mono fun ds M1 ⟨hl, h0, hs, hq⟩ => ?_
  rw [wp_bind]
  have key : ∀ (ds' : List D) (xs : List D) (M2 : Mst), (∃ pre, ds = pre ++ ds' ∧ pre.length = xs.length) → I xs M2 → ∃ xs' M3, lcL g own c f ρ ds' (xs.map T.d) M2 = .ok (xs'.map T.d) M3 ∧ xs'.length = ds.length ∧ I xs' M3 := by
    intro ds'
    induction ds' with
    | nil => intro xs M2 ⟨pre, e, el⟩ hI; exact ⟨xs, M2, rfl, by rw [e, List.append_nil, el], hI⟩
    | cons d r ih =>
      intro xs M2 ⟨pre, e, el⟩ hI
      have hd : ds[xs.length]? = some d := by rw [e, ← el]; simp
      obtain ⟨ρ1, e1, e2, e3⟩ := hs xs.length d xs M2 hd rfl hI
      cases z : f ρ1 M2 with
      | bad => rw [z] at e3; exact e3.w.elim
      | exc _ _ => rw [z] at e3; exact e3.w.elim
      | ok r3 M3 =>
        rw [z] at e3
        obtain ⟨x, rfl, hx⟩ := e3.w
        obtain ⟨xs', M4, k1, k2, k3⟩ := ih (xs ++ [x]) M3 ⟨pre ++ [d], by rw [e]; simp, by simp [el]⟩ hx
        refine ⟨xs', M4, ?_, k2, k3⟩
        unfold lcL
        rw [e1]
        simp only [e2, noX, Out.bind, if_true, z]
        have hlen : xs.length < ds.length := (List.getElem?_eq_some_iff.mp hd).1
        rw [List.length_map, if_pos (by omega)]
        show lcL g own c f ρ r (xs.map T.d ++ [T.d x]) M3 = _
        rw [show xs.map T.d ++ [T.d x] = (xs ++ [x]).map T.d by simp]
        exact k1
  obtain ⟨xs', M3, k1, k2, k3⟩ := key ds [] M1 ⟨[], rfl, rfl⟩ h0
  rw [show ([] : List T) = ([] : List D).map T.d from rfl, k1]
  exact ⟨⟨hq xs' M3 k2 k3⟩⟩
/-- .. a map that changes nothing -/
theorem wp_lcm {G : DenI} {g : Tg} {own : List Nat} {f : Den} (q : D → D)
    (h : Wp (G ρ M) (fun ds M1 => ds.length ≤ 1000000 ∧ (∀ d ∈ ds, ∃ ρ1, setT g d (wipeE ρ own) = some ρ1 ∧ Wp (f ρ1 M1) (fun r M3 => r = .t (.d (q d)) ∧ M3 = M1) (fun _ _ => False)) ∧ Q' (.t (.lst ((ds.map q).map T.d))) M1) E) : Wp (eLc G g own tYesD f ρ M) Q' E := by
  unfold eLc
  rw [wp_bind]
  refine h.mono fun ds M1 ⟨hl, hs, hq⟩ => ?_
  have e := lc_map (g := g) (own := own) (c := tYesD) (f := f) (ρ := ρ) (M := M1) q ds (fun d hd => let ⟨ρ1, e1, e2⟩ := hs d hd; ⟨ρ1, e1, rfl, ok_of e2⟩) [] (by simpa using hl)
  rw [e, List.nil_append]
  exact ⟨hq⟩
/-- .. of rows that are kept as trees -/
theorem lc_mapT {g : Tg} {own : List Nat} {c : DenT} {f : Den} {ρ : Ev} {M : Mst} (q : D → T) (hq : ∀ d, treeT M (.t (q d)) = q d) : ∀ (ds : List D), (∀ d ∈ ds, ∃ ρ1, setT g d (wipeE ρ own) = some ρ1 ∧ c ρ1 M = .ok true M ∧ f ρ1 M = .ok (.t (q d)) M) → ∀ acc : List T, acc.length + ds.length ≤ 1000000 →
    lcL g own c f ρ ds acc M = .ok (acc ++ ds.map q) M := by
  intro ds
  induction ds with
  | nil => exact fun _ acc _ => by simp [lcL]
  | cons d r ih =>
    intro h acc hn
    obtain ⟨ρ1, e1, e2, e3⟩ := h d (List.mem_cons_self ..)
    have hn' : acc.length + (r.length + 1) ≤ 1000000 := hn
    unfold lcL
    rw [e1]
    simp only [e2, noX, Out.bind, if_true, e3]
    rw [if_pos (by omega)]
    show lcL g own c f ρ r (acc ++ [q d]) M = _
    rw [ih (fun d' hd => h d' (List.mem_cons_of_mem _ hd)) _ (by rw [List.length_append]; show acc.length + 1 + r.length ≤ _; omega)]
    simp
theorem wp_lcT {G : DenI} {g : Tg} {own : List Nat} {f : Den} (q : D → T)
    (h : Wp (G ρ M) (fun ds M1 => ds.length ≤ 1000000 ∧ (∀ d ∈ ds, ∃ ρ1, setT g d (wipeE ρ own) = some ρ1 ∧ Wp (f ρ1 M1) (fun r M3 => r = .t (q d) ∧ M3 = M1) (fun _ _ => False)) ∧ Q' (.t (.lst (ds.map q))) M1) E) : Wp (eLc G g own tYesD f ρ M) Q' E := by
  unfold eLc
  rw [wp_bind]
  refine h.mono fun ds M1 ⟨hl, hs, hq⟩ => ?_
  have e := lc_mapT (g := g) (own := own) (c := tYesD) (f := f) (ρ := ρ) (M := M1) q (fun _ => rfl) ds (fun d hd => let ⟨ρ1, e1, e2⟩ := hs d hd; ⟨ρ1, e1, rfl, ok_of e2⟩) [] (by simpa using hl)
  rw [e, List.nil_append]
  exact ⟨hq⟩
/-- a loop by its invariant -/
theorem wps_forS {g : Tg} {b : DenS} (I : Ev → Mst → Prop) : ∀ (ds : List D) (ρ : Ev) (M : Mst), I ρ M → (∀ d ∈ ds, ∀ ρ M, I ρ M → ∃ ρ1, setT g d ρ = some ρ1 ∧ WpS (b ρ1 M) fun f M' => match f with
      | .nx ρ2 => I ρ2 M'
      | .ct ρ2 => I ρ2 M'
      | .rt r => Φ (.rt r) M'
      | .xc e ρ2 => Φ (.xc e ρ2) M'
      | .bk _ => False) → (∀ ρ M, I ρ M → Φ (.nx ρ) M) → WpS (forS g b ds ρ M) Φ := by
  intro ds
  induction ds with
  | nil => exact fun ρ M hI _ k => ⟨k ρ M hI⟩
  | cons d r ih =>
    intro ρ M hI hb k
    obtain ⟨ρ1, e1, e2⟩ := hb d List.mem_cons_self ρ M hI
    unfold forS
    rw [e1]
    show WpS (match b ρ1 M with
      | some (.nx ρ2, M2) => forS g b r ρ2 M2
      | some (.ct ρ2, M2) => forS g b r ρ2 M2
      | some (.bk ρ2, M2) => some (.nx ρ2, M2)
      | o => o) Φ
    have go := ih
    cases z : b ρ1 M with
    | none => rw [z] at e2; exact e2.w.elim
    | some q =>
      obtain ⟨f, M2⟩ := q
      rw [z] at e2
      replace e2 := e2.w
      cases f with
      | nx ρ2 => exact ih ρ2 M2 e2 (fun d hd => hb d (List.mem_cons_of_mem _ hd)) k
      | ct ρ2 => exact ih ρ2 M2 e2 (fun d hd => hb d (List.mem_cons_of_mem _ hd)) k
      | rt r => exact ⟨e2⟩
      | xc e ρ2 => exact ⟨e2⟩
      | bk ρ2 => exact e2.elim
theorem wps_for {G : DenI} {g : Tg} {b : DenS} (I : Ev → Mst → Prop) (h : Wp (G ρ M) (fun ds M1 => I ρ M1 ∧ (∀ d ∈ ds, ∀ ρ M, I ρ M → ∃ ρ1, setT g d ρ = some ρ1 ∧ WpS (b ρ1 M) fun f M' => match f with
      | .nx ρ2 => I ρ2 M'
      | .ct ρ2 => I ρ2 M'
      | .rt r => Φ (.rt r) M'
      | .xc e ρ2 => Φ (.xc e ρ2) M'
      | .bk _ => False) ∧ ∀ ρ M, I ρ M → Φ (.nx ρ) M) (fun e M1 => Φ (.xc e ρ) M1)) : WpS (sFor G g b ρ M) Φ := by
  unfold sFor
  rw [wps_bind]
  exact h.mono fun ds M1 ⟨h0, h1, h2⟩ => wps_forS I ds ρ M1 h0 h1 h2
end
end Toy

/-! numbers that are drawn, for laws without tables -/
namespace Toy
open PySem L2 DL
section
variable {M0 M M1 M' : Mst} {k : Nat}
theorem RD.trans (h1 : RD k M0 M) (h2 : RD k M M') : RD k M0 M' := by
  obtain ⟨_, _, _, _, _, e1⟩ := h1
  obtain ⟨cs, p, r, s, q, e2⟩ := h2
  exact ⟨cs, p, r, s, q, by rw [e2, e1, set_set']⟩
theorem RD.refl (h : RD k M0 M) : RD k M M := by
  obtain ⟨cs, p, r, s, q, _⟩ := h
  exact RD.self q
theorem RD.lt (h : RD k M0 M) : k < M.length := by
  obtain ⟨cs, p, r, s, q, _⟩ := h
  exact q.lt
theorem RD.push (h : RD k M0 M) (x : T) : RD k (M ++ [x]) (M ++ [x]) := by
  obtain ⟨cs, p, r, s, q, _⟩ := h
  exact RD.self (cs := cs) (p := p) (r := r) (s := s) ⟨by rw [List.getElem?_append_left q.lt]; exact q.at_, q.p0, q.s0, q.s1⟩
theorem RD.app {x : T} (hk : k < M.length) (h : RD k (M ++ [x]) M1) : ∃ M', M1 = M' ++ [x] ∧ RD k M M' := by
  obtain ⟨cs, p, r, s, q, e⟩ := h
  have e1 : M1 = M.set k (reelT cs p r s) ++ [x] := by rw [e, List.set_append_left _ _ hk]
  refine ⟨_, e1, cs, p, r, s, ⟨List.getElem?_set_self hk, q.p0, q.s0, q.s1⟩, rfl⟩
theorem outOf_rt2 {n : Nat} (x : T) (h : M'.length = n) : outOf n (some (.rt (.t x), M')) = .ok (.t x) M' := outOf_rt _ _ _ h
theorem RD.takeL (h : RD k M M') : M'.take M.length = M' := by rw [← h.len, List.take_length]
/-- a def that draws: its end -/
theorem fnK_rd {Q : R → Mst → Prop} {E : Exc → Mst → Prop} {x : T} (h : RD k M M') (q : Q (.t x) M') : fnK M.length Q E (.rt (.t x)) M' := by
  rw [fnK_rt, ← h.len, List.take_length]
  exact q
theorem Wp.draw {Q : R → Mst → Prop} {E : Exc → Mst → Prop} (h : RD k M0 M) {size : Int} (hs : 0 < size) (h60 : size < 10 ^ 60) (q : ∀ i M', 0 ≤ i → i < size → RD k M0 M' → RD k M M' → Q (.t (.d (.int i))) M') : Wp (m_zdraw [.h k, .d (.int size)] M) Q E := by
  obtain ⟨i, M', h1, h2, h3, h4⟩ := h.refl.draw hs h60
  rw [h1]
  exact ⟨q i M' h2 h3 (h.trans h4) h4⟩
theorem pow29 (M : Mst) : powR (.t (.d (.int 10))) (.t (.d (.int 29))) M = .ok (.t (.d (.int 100000000000000000000000000000))) M := rfl
def NumOk (i : Int) : Prop := -100000000000000000000000000000 ≤ i ∧ i ≤ 100000000000000000000000000000
theorem number (h : RD k M0 M) : ∃ i M', m_znumber [.h k] M = .ok (.t (.d (.int i))) M' ∧ NumOk i ∧ RD k M0 M' := by
  have main : Wp (m_znumber [.h k] M) (fun r M' => ∃ i, r = .t (.d (.int i)) ∧ NumOk i ∧ RD k M M') (fun _ _ => False) := by
    refine wp_fn (ρ := [some (.h k), none]) rfl ?_
    unfold b_znumber
    rw [wps_seq]
    unfold t_znumber_0
    simp only [wp_ok, wp_bind, wp_ite, wps_some, wps_none, wps_ite, wps_bind, wps_seq, seqK_nx, seqK_rt, seqK_xc, seqK_ct, seqK_bk, fnK_rt, fnK_nx, eVar, eC, eSeq2, eSeq1, eNil, eCons, eTB, eTru, tAndD, tOrD, tNotD, eNot, eAnd, eOr, eIf, sNil, sBad, sIf, sRet, sExpr, sAsg, gSet, svR, frz, frzR, eB, eCall, eArity, eLst, eTup, treesM, tYesD, eChain, dat, truth, List.getElem?_cons_zero, List.getElem?_cons_succ, List.set_cons_zero, List.set_cons_succ, List.map_cons, List.map_nil, List.length_cons, List.length_nil, Nat.reduceAdd, if_true, if_false, Bool.false_eq_true, decide_true, decide_false, Bool.not_true, Bool.not_false, frzL, take_len, and_true, true_and]
    refine Wp.draw h (by decide) (by decide) fun way M1 w0 w4 _ r1 => ?_
    simp only [wp_ok, wp_bind, wp_ite, wps_some, wps_none, wps_ite, wps_bind, wps_seq, seqK_nx, seqK_rt, seqK_xc, seqK_ct, seqK_bk, fnK_rt, fnK_nx, eVar, eC, eSeq2, eSeq1, eNil, eCons, eTB, eTru, tAndD, tOrD, tNotD, eNot, eAnd, eOr, eIf, sNil, sBad, sIf, sRet, sExpr, sAsg, gSet, svR, frz, frzR, eB, eCall, eArity, eLst, eTup, treesM, tYesD, eChain, dat, truth, List.getElem?_cons_zero, List.getElem?_cons_succ, List.set_cons_zero, List.set_cons_succ, List.map_cons, List.map_nil, List.length_cons, List.length_nil, Nat.reduceAdd, if_true, if_false, Bool.false_eq_true, decide_true, decide_false, Bool.not_true, Bool.not_false, frzL, take_len, and_true, true_and]
    unfold t_znumber_1
    simp only [wp_ok, wp_bind, wp_ite, wps_some, wps_none, wps_ite, wps_bind, wps_seq, seqK_nx, seqK_rt, seqK_xc, seqK_ct, seqK_bk, fnK_rt, fnK_nx, eVar, eC, eSeq2, eSeq1, eNil, eCons, eTB, eTru, tAndD, tOrD, tNotD, eNot, eAnd, eOr, eIf, sNil, sBad, sIf, sRet, sExpr, sAsg, gSet, svR, frz, frzR, eB, eCall, eArity, eLst, eTup, treesM, tYesD, eChain, dat, truth, List.getElem?_cons_zero, List.getElem?_cons_succ, List.set_cons_zero, List.set_cons_succ, List.map_cons, List.map_nil, List.length_cons, List.length_nil, Nat.reduceAdd, if_true, if_false, Bool.false_eq_true, decide_true, decide_false, Bool.not_true, Bool.not_false, frzL, take_len, and_true, true_and, eqI]
    by_cases c0 : way = 0
    · simp only [wp_ok, wp_bind, wp_ite, wps_some, wps_none, wps_ite, wps_bind, wps_seq, seqK_nx, seqK_rt, seqK_xc, seqK_ct, seqK_bk, fnK_rt, fnK_nx, eVar, eC, eSeq2, eSeq1, eNil, eCons, eTB, eTru, tAndD, tOrD, tNotD, eNot, eAnd, eOr, eIf, sNil, sBad, sIf, sRet, sExpr, sAsg, gSet, svR, frz, frzR, eB, eCall, eArity, eLst, eTup, treesM, tYesD, eChain, dat, truth, List.getElem?_cons_zero, List.getElem?_cons_succ, List.set_cons_zero, List.set_cons_succ, List.map_cons, List.map_nil, List.length_cons, List.length_nil, Nat.reduceAdd, if_true, if_false, Bool.false_eq_true, decide_true, decide_false, Bool.not_true, Bool.not_false, frzL, take_len, and_true, true_and, c0]
      refine Wp.draw (h.trans r1) (by decide) (by decide) fun i M2 i0 i1 _ r2 => ?_
      simp only [wp_ok, wp_bind, wp_ite, wps_some, wps_none, wps_ite, wps_bind, wps_seq, seqK_nx, seqK_rt, seqK_xc, seqK_ct, seqK_bk, fnK_rt, fnK_nx, eVar, eC, eSeq2, eSeq1, eNil, eCons, eTB, eTru, tAndD, tOrD, tNotD, eNot, eAnd, eOr, eIf, sNil, sBad, sIf, sRet, sExpr, sAsg, gSet, svR, frz, frzR, eB, eCall, eArity, eLst, eTup, treesM, tYesD, eChain, dat, truth, List.getElem?_cons_zero, List.getElem?_cons_succ, List.set_cons_zero, List.set_cons_succ, List.map_cons, List.map_nil, List.length_cons, List.length_nil, Nat.reduceAdd, if_true, if_false, Bool.false_eq_true, decide_true, decide_false, Bool.not_true, Bool.not_false, frzL, take_len, and_true, true_and, subI]
      rw [(r1.trans r2).takeL]
      exact ⟨_, rfl, ⟨by omega, by omega⟩, r1.trans r2⟩
    · simp only [wp_ok, wp_bind, wp_ite, wps_some, wps_none, wps_ite, wps_bind, wps_seq, seqK_nx, seqK_rt, seqK_xc, seqK_ct, seqK_bk, fnK_rt, fnK_nx, eVar, eC, eSeq2, eSeq1, eNil, eCons, eTB, eTru, tAndD, tOrD, tNotD, eNot, eAnd, eOr, eIf, sNil, sBad, sIf, sRet, sExpr, sAsg, gSet, svR, frz, frzR, eB, eCall, eArity, eLst, eTup, treesM, tYesD, eChain, dat, truth, List.getElem?_cons_zero, List.getElem?_cons_succ, List.set_cons_zero, List.set_cons_succ, List.map_cons, List.map_nil, List.length_cons, List.length_nil, Nat.reduceAdd, if_true, if_false, Bool.false_eq_true, decide_true, decide_false, Bool.not_true, Bool.not_false, frzL, take_len, and_true, true_and, c0]
      unfold t_znumber_2
      simp only [wp_ok, wp_bind, wp_ite, wps_some, wps_none, wps_ite, wps_bind, wps_seq, seqK_nx, seqK_rt, seqK_xc, seqK_ct, seqK_bk, fnK_rt, fnK_nx, eVar, eC, eSeq2, eSeq1, eNil, eCons, eTB, eTru, tAndD, tOrD, tNotD, eNot, eAnd, eOr, eIf, sNil, sBad, sIf, sRet, sExpr, sAsg, gSet, svR, frz, frzR, eB, eCall, eArity, eLst, eTup, treesM, tYesD, eChain, dat, truth, List.getElem?_cons_zero, List.getElem?_cons_succ, List.set_cons_zero, List.set_cons_succ, List.map_cons, List.map_nil, List.length_cons, List.length_nil, Nat.reduceAdd, if_true, if_false, Bool.false_eq_true, decide_true, decide_false, Bool.not_true, Bool.not_false, frzL, take_len, and_true, true_and, eqI]
      by_cases c1 : way = 1
      · simp only [wp_ok, wp_bind, wp_ite, wps_some, wps_none, wps_ite, wps_bind, wps_seq, seqK_nx, seqK_rt, seqK_xc, seqK_ct, seqK_bk, fnK_rt, fnK_nx, eVar, eC, eSeq2, eSeq1, eNil, eCons, eTB, eTru, tAndD, tOrD, tNotD, eNot, eAnd, eOr, eIf, sNil, sBad, sIf, sRet, sExpr, sAsg, gSet, svR, frz, frzR, eB, eCall, eArity, eLst, eTup, treesM, tYesD, eChain, dat, truth, List.getElem?_cons_zero, List.getElem?_cons_succ, List.set_cons_zero, List.set_cons_succ, List.map_cons, List.map_nil, List.length_cons, List.length_nil, Nat.reduceAdd, if_true, if_false, Bool.false_eq_true, decide_true, decide_false, Bool.not_true, Bool.not_false, frzL, take_len, and_true, true_and, c1]
        refine Wp.draw (h.trans r1) (by decide) (by decide) fun i M2 i0 i1 _ r2 => ?_
        simp only [wp_ok, wp_bind, wp_ite, wps_some, wps_none, wps_ite, wps_bind, wps_seq, seqK_nx, seqK_rt, seqK_xc, seqK_ct, seqK_bk, fnK_rt, fnK_nx, eVar, eC, eSeq2, eSeq1, eNil, eCons, eTB, eTru, tAndD, tOrD, tNotD, eNot, eAnd, eOr, eIf, sNil, sBad, sIf, sRet, sExpr, sAsg, gSet, svR, frz, frzR, eB, eCall, eArity, eLst, eTup, treesM, tYesD, eChain, dat, truth, List.getElem?_cons_zero, List.getElem?_cons_succ, List.set_cons_zero, List.set_cons_succ, List.map_cons, List.map_nil, List.length_cons, List.length_nil, Nat.reduceAdd, if_true, if_false, Bool.false_eq_true, decide_true, decide_false, Bool.not_true, Bool.not_false, frzL, take_len, and_true, true_and]
        rw [(r1.trans r2).takeL]
        exact ⟨_, rfl, ⟨by omega, by omega⟩, r1.trans r2⟩
      · simp only [wp_ok, wp_bind, wp_ite, wps_some, wps_none, wps_ite, wps_bind, wps_seq, seqK_nx, seqK_rt, seqK_xc, seqK_ct, seqK_bk, fnK_rt, fnK_nx, eVar, eC, eSeq2, eSeq1, eNil, eCons, eTB, eTru, tAndD, tOrD, tNotD, eNot, eAnd, eOr, eIf, sNil, sBad, sIf, sRet, sExpr, sAsg, gSet, svR, frz, frzR, eB, eCall, eArity, eLst, eTup, treesM, tYesD, eChain, dat, truth, List.getElem?_cons_zero, List.getElem?_cons_succ, List.set_cons_zero, List.set_cons_succ, List.map_cons, List.map_nil, List.length_cons, List.length_nil, Nat.reduceAdd, if_true, if_false, Bool.false_eq_true, decide_true, decide_false, Bool.not_true, Bool.not_false, frzL, take_len, and_true, true_and, c1]
        unfold t_znumber_3
        simp only [wp_ok, wp_bind, wp_ite, wps_some, wps_none, wps_ite, wps_bind, wps_seq, seqK_nx, seqK_rt, seqK_xc, seqK_ct, seqK_bk, fnK_rt, fnK_nx, eVar, eC, eSeq2, eSeq1, eNil, eCons, eTB, eTru, tAndD, tOrD, tNotD, eNot, eAnd, eOr, eIf, sNil, sBad, sIf, sRet, sExpr, sAsg, gSet, svR, frz, frzR, eB, eCall, eArity, eLst, eTup, treesM, tYesD, eChain, dat, truth, List.getElem?_cons_zero, List.getElem?_cons_succ, List.set_cons_zero, List.set_cons_succ, List.map_cons, List.map_nil, List.length_cons, List.length_nil, Nat.reduceAdd, if_true, if_false, Bool.false_eq_true, decide_true, decide_false, Bool.not_true, Bool.not_false, frzL, take_len, and_true, true_and, eqI]
        by_cases c2 : way = 2
        · simp only [wp_ok, wp_bind, wp_ite, wps_some, wps_none, wps_ite, wps_bind, wps_seq, seqK_nx, seqK_rt, seqK_xc, seqK_ct, seqK_bk, fnK_rt, fnK_nx, eVar, eC, eSeq2, eSeq1, eNil, eCons, eTB, eTru, tAndD, tOrD, tNotD, eNot, eAnd, eOr, eIf, sNil, sBad, sIf, sRet, sExpr, sAsg, gSet, svR, frz, frzR, eB, eCall, eArity, eLst, eTup, treesM, tYesD, eChain, dat, truth, List.getElem?_cons_zero, List.getElem?_cons_succ, List.set_cons_zero, List.set_cons_succ, List.map_cons, List.map_nil, List.length_cons, List.length_nil, Nat.reduceAdd, if_true, if_false, Bool.false_eq_true, decide_true, decide_false, Bool.not_true, Bool.not_false, frzL, take_len, and_true, true_and, c2, pow29, mulI 2 100000000000000000000000000000 _ (mulC_l _ _ (by decide)), addI]
          refine Wp.draw (h.trans r1) (by decide) (by decide) fun i M2 i0 i1 _ r2 => ?_
          simp only [wp_ok, wp_bind, wp_ite, wps_some, wps_none, wps_ite, wps_bind, wps_seq, seqK_nx, seqK_rt, seqK_xc, seqK_ct, seqK_bk, fnK_rt, fnK_nx, eVar, eC, eSeq2, eSeq1, eNil, eCons, eTB, eTru, tAndD, tOrD, tNotD, eNot, eAnd, eOr, eIf, sNil, sBad, sIf, sRet, sExpr, sAsg, gSet, svR, frz, frzR, eB, eCall, eArity, eLst, eTup, treesM, tYesD, eChain, dat, truth, List.getElem?_cons_zero, List.getElem?_cons_succ, List.set_cons_zero, List.set_cons_succ, List.map_cons, List.map_nil, List.length_cons, List.length_nil, Nat.reduceAdd, if_true, if_false, Bool.false_eq_true, decide_true, decide_false, Bool.not_true, Bool.not_false, frzL, take_len, and_true, true_and, pow29, subI]
          rw [(r1.trans r2).takeL]
          exact ⟨_, rfl, ⟨by omega, by omega⟩, r1.trans r2⟩
        · simp only [wp_ok, wp_bind, wp_ite, wps_some, wps_none, wps_ite, wps_bind, wps_seq, seqK_nx, seqK_rt, seqK_xc, seqK_ct, seqK_bk, fnK_rt, fnK_nx, eVar, eC, eSeq2, eSeq1, eNil, eCons, eTB, eTru, tAndD, tOrD, tNotD, eNot, eAnd, eOr, eIf, sNil, sBad, sIf, sRet, sExpr, sAsg, gSet, svR, frz, frzR, eB, eCall, eArity, eLst, eTup, treesM, tYesD, eChain, dat, truth, List.getElem?_cons_zero, List.getElem?_cons_succ, List.set_cons_zero, List.set_cons_succ, List.map_cons, List.map_nil, List.length_cons, List.length_nil, Nat.reduceAdd, if_true, if_false, Bool.false_eq_true, decide_true, decide_false, Bool.not_true, Bool.not_false, frzL, take_len, and_true, true_and, c2]
          unfold t_znumber_4
          simp only [wp_ok, wp_bind, wp_ite, wps_some, wps_none, wps_ite, wps_bind, wps_seq, seqK_nx, seqK_rt, seqK_xc, seqK_ct, seqK_bk, fnK_rt, fnK_nx, eVar, eC, eSeq2, eSeq1, eNil, eCons, eTB, eTru, tAndD, tOrD, tNotD, eNot, eAnd, eOr, eIf, sNil, sBad, sIf, sRet, sExpr, sAsg, gSet, svR, frz, frzR, eB, eCall, eArity, eLst, eTup, treesM, tYesD, eChain, dat, truth, List.getElem?_cons_zero, List.getElem?_cons_succ, List.set_cons_zero, List.set_cons_succ, List.map_cons, List.map_nil, List.length_cons, List.length_nil, Nat.reduceAdd, if_true, if_false, Bool.false_eq_true, decide_true, decide_false, Bool.not_true, Bool.not_false, frzL, take_len, and_true, true_and]
          refine Wp.draw (h.trans r1) (by decide) (by decide) fun i M2 i0 i1 _ r2 => ?_
          simp only [wp_ok, wp_bind, wp_ite, wps_some, wps_none, wps_ite, wps_bind, wps_seq, seqK_nx, seqK_rt, seqK_xc, seqK_ct, seqK_bk, fnK_rt, fnK_nx, eVar, eC, eSeq2, eSeq1, eNil, eCons, eTB, eTru, tAndD, tOrD, tNotD, eNot, eAnd, eOr, eIf, sNil, sBad, sIf, sRet, sExpr, sAsg, gSet, svR, frz, frzR, eB, eCall, eArity, eLst, eTup, treesM, tYesD, eChain, dat, truth, List.getElem?_cons_zero, List.getElem?_cons_succ, List.set_cons_zero, List.set_cons_succ, List.map_cons, List.map_nil, List.length_cons, List.length_nil, Nat.reduceAdd, if_true, if_false, Bool.false_eq_true, decide_true, decide_false, Bool.not_true, Bool.not_false, frzL, take_len, and_true, true_and, subI]
          rw [(r1.trans r2).takeL]
          exact ⟨_, rfl, ⟨by omega, by omega⟩, r1.trans r2⟩
  obtain ⟨r, M', e, i, rfl, h1, h2⟩ := main.get
  exact ⟨i, M', e, h1, h.trans h2⟩
abbrev ri (r : List Int) : List D := r.map D.int
theorem Wp.number {Q : R → Mst → Prop} {E : Exc → Mst → Prop} (h : RD k M0 M) (q : ∀ i M', NumOk i → RD k M0 M' → RD k M M' → Q (.t (.d (.int i))) M') : Wp (m_znumber [.h k] M) Q E := by
  obtain ⟨i, M', h1, h2, h3⟩ := Toy.number h.refl
  rw [h1]
  exact ⟨q i M' h2 (h.trans h3) h3⟩
theorem Wp.ofL {Q : R → Mst → Prop} {E : Exc → Mst → Prop} (h : RD k M0 M) {ds : List D} (hl : 0 < ds.length) (hc : ds.length ≤ 1000000) (q : ∀ d M', d ∈ ds → RD k M0 M' → RD k M M' → Q (.t (.d d)) M') : Wp (m_zof [.h k, .d (.lst ds)] M) Q E := by
  obtain ⟨i, M', h1, h2, h3⟩ := h.refl.ofL hl hc
  rw [h1]
  exact ⟨q i M' h2 (h.trans h3) h3⟩
theorem range1_w {Q : List D → Mst → Prop} {E : Exc → Mst → Prop} {A : DenA} {ρ : Ev} (n : Nat) (h : n ≤ 1000) (hA : Wp (A ρ M) (fun rs M1 => rs = [.t (.d (.int (n : Nat)))] ∧ Q (rangeD 0 n) M1) E) : Wp (iRange1 A ρ M) Q E := by
  cases z : A ρ M with
  | bad => rw [z] at hA; exact hA.w.elim
  | exc e M1 =>
    rw [z] at hA
    unfold iRange1
    rw [z]
    exact ⟨hA.w⟩
  | ok rs M1 =>
    rw [z] at hA
    obtain ⟨rfl, q⟩ := hA.w
    rw [range1_nat n h z]
    exact ⟨q⟩
theorem range_mem {lo : Int} {n m : Nat} {d : D} (h : (rangeD lo n)[m]? = some d) : m < n ∧ d = .int (lo + (m : Nat)) := by
  unfold rangeD at h
  rw [List.getElem?_map] at h
  by_cases hm : m < n
  · rw [List.getElem?_range hm] at h
    cases h
    exact ⟨hm, rfl⟩
  · rw [List.getElem?_eq_none (by simpa using hm)] at h; cases h
/-- a list of drawn ints -/
theorem wp_drawn {Q : R → Mst → Prop} {E : Exc → Mst → Prop} {ρ : Ev} {A : DenA} {j : Nat} {own : List Nat} {f : Den} (P : Int → Prop) (n : Nat) (hn : n ≤ 1000) (h : RD k M0 M) (hA : A ρ M = .ok [.t (.d (.int (n : Nat)))] M) (hj : ∀ d, ∃ ρ1, setT (.one j) d (wipeE ρ own) = some ρ1 ∧ ∀ M1, RD k M0 M1 → Wp (f ρ1 M1) (fun r M2 => ∃ i, r = .t (.d (.int i)) ∧ P i ∧ RD k M0 M2) (fun _ _ => False))
    (q : ∀ (is : List Int) M', is.length = n → (∀ i ∈ is, P i) → RD k M0 M' → Q (.t (.lst ((ri is).map T.d))) M') : Wp (eLc (iRange1 A) (.one j) own tYesD f ρ M) Q E := by
  refine wp_lc (fun xs M' => RD k M0 M' ∧ ∃ is : List Int, xs = ri is ∧ ∀ i ∈ is, P i) (range1_w n hn (wp_eq hA ⟨rfl, by rw [rangeD_len]; omega, ⟨h, [], rfl, fun _ z => nomatch z⟩, fun m d xs M2 hd hx hI => ?_, fun xs M2 hx hI => ?_⟩))
  · obtain ⟨h2, is, rfl, hP⟩ := hI
    obtain ⟨ρ1, e1, e2⟩ := hj d
    refine ⟨ρ1, e1, rfl, (e2 M2 h2).mono fun r M3 ⟨i, e, p, h3⟩ => ⟨.int i, e, h3, is ++ [i], by simp, fun i' hi => ?_⟩⟩
    rcases List.mem_append.mp hi with z | z
    · exact hP _ z
    · rw [List.mem_singleton.mp z]; exact p
  · obtain ⟨h2, is, rfl, hP⟩ := hI
    exact q is M2 (by rw [List.length_map, rangeD_len] at hx; exact hx) hP h2
theorem eqvAll_ints : ∀ a b : List Int, PyData.eqvAll (pydL (ri a)) (pydL (ri b)) = decide (a = b)
  | [], [] => rfl
  | [], _ :: _ => rfl
  | _ :: _, [] => rfl
  | x :: a, y :: b => by
    have ih := eqvAll_ints a b
    show (PyData.eqv (.int x) (.int y) && PyData.eqvAll (pydL (ri a)) (pydL (ri b))) = _
    rw [ih]
    show ((x == y) && decide (a = b)) = _
    by_cases h1 : x = y
    · subst h1; by_cases h2 : a = b
      · subst h2; simp
      · simp [h2]
    · simp [h1]
theorem okD_ints (a : List Int) : okD 12 (.lst (ri a)) = true := by
  show (ri a).all (okD 11) = true
  rw [List.all_eq_true]
  intro d hd
  obtain ⟨i, _, rfl⟩ := List.mem_map.mp hd
  rfl
theorem neInts {r1 r2 : R} {a b : List Int} (h1 : frzR M r1 = .lst (ri a)) (h2 : frzR M r2 = .lst (ri b)) : neR r1 r2 M = .ok (.t (.d (.bl (!decide (a = b))))) M := by
  show (if ((fun a b => isStr a && isStr b) (frzR M r1) (frzR M r2)) = true then _ else sc2 neOp r1 r2 M) = _
  rw [h1, h2, if_neg (show ¬ ((fun a b => isStr a && isStr b) (D.lst (ri a)) (D.lst (ri b))) = true from fun z => nomatch (show false = true from z))]
  show (match neOp (frzR M r1) (frzR M r2) with | some x => Out.ok (R.t (.d x)) M | none => .bad) = _
  rw [h1, h2]
  unfold neOp
  rw [if_pos ⟨okD_ints a, okD_ints b⟩]
  show Out.ok (R.t (.d (.bl (!eqv (.lst (ri a)) (.lst (ri b)))))) M = _
  rw [show eqv (.lst (ri a)) (.lst (ri b)) = PyData.eqvAll (pydL (ri a)) (pydL (ri b)) from rfl, eqvAll_ints]
end
end Toy

/-! k03: measures -/
namespace Toy
open PySem L2 DL
section
variable {M0 M M1 M' : Mst} {ρ : Ev} {Q : R → Mst → Prop} {E : Exc → Mst → Prop} {ns is : List Int}
theorem isWay (d : D) (b : Bool) (h : ∀ M, b_is_way [some (.d d)] M = some (.rt (.t (.d (.bl b))), M)) (M : Mst) : m_is_way [.d d] M = .ok (.t (.d (.bl b))) M := by
  show outOf M.length (b_is_way [some (.d d)] M) = _
  rw [h, outOf_rt']
theorem way1 (M : Mst) : m_is_way [.d (.str "sum")] M = .ok (.t (.d (.bl true))) M := isWay _ _ (fun M => by kernel_rfl) M
theorem way2 (M : Mst) : m_is_way [.d (.str "greatest")] M = .ok (.t (.d (.bl true))) M := isWay _ _ (fun M => by kernel_rfl) M
theorem way3 (M : Mst) : m_is_way [.d (.str "least")] M = .ok (.t (.d (.bl true))) M := isWay _ _ (fun M => by kernel_rfl) M
theorem way4 (M : Mst) : m_is_way [.d (.str "bag")] M = .ok (.t (.d (.bl true))) M := isWay _ _ (fun M => by kernel_rfl) M
theorem meas_step (d y : D) (h : m_is_way [.d d] M = .ok (.t (.d (.bl true))) M) : t_measured_0 [some (.d d), some (.d y)] M = some (.nx [some (.d d), some (.d y)], M) := by
  unfold t_measured_0
  simp only [Out.bind, eVar, eC, eSeq2, eNil, eCons, eTB, tAndD, tOrD, tNotD, bindS, sSeq, sNil, sIf, sRet, sAsg, gSet, svR, frz, eB, gItem, List.getElem?_cons_zero, List.getElem?_cons_succ, List.set_cons_zero, List.set_cons_succ, if_true, if_false, Bool.false_eq_true, decide_true, decide_false, eCall, eArity, eTru, h, frzR, truth, Bool.not_true, List.map, List.length, Nat.reduceAdd]
theorem meas_bad (d y : D) (h : m_is_way [.d d] M = .ok (.t (.d (.bl false))) M) : m_measured [.d d, .d y] M = .exc ⟨"InvalidWay", [("value", d), ("code", .str "InvalidWay")]⟩ M := by
  show outOf M.length (sSeq t_measured_0 _ [some (.d d), some (.d y)] M) = _
  have e : t_measured_0 [some (.d d), some (.d y)] M = some (.xc ⟨"InvalidWay", [("value", d), ("code", .str "InvalidWay")]⟩ [some (.d d), some (.d y)], M) := by
    unfold t_measured_0
    simp only [Out.bind, eVar, eC, eSeq2, eNil, eCons, eTB, tAndD, tOrD, tNotD, bindS, sSeq, sNil, sIf, sRet, sAsg, gSet, svR, frz, eB, gItem, List.getElem?_cons_zero, List.getElem?_cons_succ, List.set_cons_zero, List.set_cons_succ, if_true, if_false, Bool.false_eq_true, decide_true, decide_false, eCall, eArity, eTru, h, frzR, truth, Bool.not_false, List.map, List.length, Nat.reduceAdd]
    rfl
  unfold sSeq
  rw [e]
  show Out.exc _ (M.take M.length) = _
  rw [List.take_length]
theorem scl (h : List D → Option D) (ds : List D) (M : Mst) : scL h [.t (.lst (ds.map T.d))] M = scL h [.t (.d (.lst ds))] M := by
  show (match h [frz (.lst (ds.map T.d))] with | some d => _ | none => _) = _
  rw [frz_ds]; rfl
theorem sum_ev (is : List Int) (M : Mst) : scL sumD [.t (.d (.lst (ri is)))] M = .ok (.t (.d (.int is.sum))) M := by
  show (match (intsD (ri is)).map fun is => D.int is.sum with | some d => _ | none => _) = _
  rw [intsD_map]; rfl
def mxD : List Int → D
  | [] => .non
  | x :: r => .int (maxL (x :: r))
def mnD : List Int → D
  | [] => .non
  | x :: r => .int (minL (x :: r))
theorem max_ev (x : Int) (r : List Int) (M : Mst) : scL maxD [.t (.d (.lst (ri (x :: r))))] M = .ok (.t (.d (mxD (x :: r)))) M := by
  show (match (match intsD (ri (x :: r)) with | some (x :: r) => some (D.int (maxL (x :: r))) | _ => none) with | some d => _ | none => _) = _
  rw [intsD_map]; rfl
theorem min_ev (x : Int) (r : List Int) (M : Mst) : scL minD [.t (.d (.lst (ri (x :: r))))] M = .ok (.t (.d (mnD (x :: r)))) M := by
  show (match (match intsD (ri (x :: r)) with | some (x :: r) => some (D.int (minL (x :: r))) | _ => none) with | some d => _ | none => _) = _
  rw [intsD_map]; rfl
theorem sorted_ev (is : List Int) (M : Mst) {r : R} (h : src M r = some (.l (ri is), M)) (hl : is.length < 64) : sortedR [r] M = .ok (.t (.lst ((ri (sortI is)).map T.d))) M := by
  show (match src M r with | some (.l ds, M1) => (match intsD ds with | some is => if is.length < 64 then _ else _ | none => _) | _ => _) = _
  rw [h]
  show (match intsD (ri is) with | some is => if is.length < 64 then _ else _ | none => _) = _
  rw [intsD_map]
  show (if is.length < 64 then _ else _) = _
  rw [if_pos hl]
theorem list_l (ds : List D) (M : Mst) : listR [.t (.d (.lst ds))] M = .ok (.t (.lst (ds.map T.d))) M := rfl
theorem list_t (p : Bool) (ds : List D) (M : Mst) : listR [.t (.d (.tupP p ds))] M = .ok (.t (.lst (ds.map T.d))) M := rfl
theorem lenL0 (is : List Int) (M : Mst) : scL lenD [.t (.d (.lst (ri is)))] M = .ok (.t (.d (.int (is.length : Nat)))) M := by
  rw [lenL, List.length_map]
theorem m_sum (is : List Int) (M : Mst) : m_measured [.d (.str "sum"), .d (.lst (ri is))] M = .ok (.t (.d (.int is.sum))) M := by
  show outOf M.length (sSeq t_measured_0 (sSeq t_measured_1 _) [some (.d (.str "sum")), some (.d (.lst (ri is)))] M) = _
  rw [seq_step (meas_step _ _ (way1 M)), seq_ret (r := .t (.d (.int is.sum))) (M' := M), outOf_rt']
  unfold t_measured_1
  have e : eqR (.t (.d (.str "sum"))) (.t (.d (.str "sum"))) M = .ok (.t (.d (.bl true))) M := by kernel_rfl
  simp only [Out.bind, eVar, eC, eSeq2, eNil, eCons, eTB, tAndD, tOrD, tNotD, bindS, sSeq, sNil, sIf, sRet, sAsg, gSet, svR, frz, eB, gItem, List.getElem?_cons_zero, List.getElem?_cons_succ, List.set_cons_zero, List.set_cons_succ, if_true, if_false, Bool.false_eq_true, decide_true, decide_false, e, list_l, scl, sum_ev]
theorem m_bag (y : D) (is : List Int) (hy : ∀ M, listR [.t (.d y)] M = .ok (.t (.lst ((ri is).map T.d))) M) (hl : is.length < 64) (M : Mst) : m_measured [.d (.str "bag"), .d y] M = .ok (.t (.lst ((ri (sortI is)).map T.d))) M := by
  show outOf M.length (sSeq t_measured_0 (sSeq t_measured_1 (sSeq t_measured_2 _)) [some (.d (.str "bag")), some (.d y)] M) = _
  have e1 : t_measured_1 [some (.d (.str "bag")), some (.d y)] M = some (.nx [some (.d (.str "bag")), some (.d y)], M) := by kernel_rfl
  rw [seq_step (meas_step _ _ (way4 M)), seq_step e1, seq_ret (r := .t (.lst ((ri (sortI is)).map T.d))) (M' := M), outOf_rt']
  unfold t_measured_2
  have e : eqR (.t (.d (.str "bag"))) (.t (.d (.str "bag"))) M = .ok (.t (.d (.bl true))) M := by kernel_rfl
  simp only [Out.bind, eVar, eC, eSeq2, eNil, eCons, eTB, tAndD, tOrD, tNotD, bindS, sSeq, sNil, sIf, sRet, sAsg, gSet, svR, frz, eB, gItem, List.getElem?_cons_zero, List.getElem?_cons_succ, List.set_cons_zero, List.set_cons_succ, if_true, if_false, Bool.false_eq_true, decide_true, decide_false, e, hy, sorted_ev is M (src_lst _ _) hl]
theorem m_great (is : List Int) (M : Mst) : m_measured [.d (.str "greatest"), .d (.lst (ri is))] M = .ok (.t (.d (mxD is))) M := by
  show outOf M.length (sSeq t_measured_0 (sSeq t_measured_1 (sSeq t_measured_2 (sSeq t_measured_3 t_measured_4))) [some (.d (.str "greatest")), some (.d (.lst (ri is)))] M) = _
  have e1 : t_measured_1 [some (.d (.str "greatest")), some (.d (.lst (ri is)))] M = some (.nx [some (.d (.str "greatest")), some (.d (.lst (ri is)))], M) := by kernel_rfl
  have e2 : t_measured_2 [some (.d (.str "greatest")), some (.d (.lst (ri is)))] M = some (.nx [some (.d (.str "greatest")), some (.d (.lst (ri is)))], M) := by kernel_rfl
  rw [seq_step (meas_step _ _ (way2 M)), seq_step e1, seq_step e2]
  cases is with
  | nil =>
    rw [seq_ret (r := .t (.d .non)) (M' := M), outOf_rt']
    · rfl
    · kernel_rfl
  | cons x r =>
    rw [seq_step (ρ' := [some (.d (.str "greatest")), some (.d (.lst (ri (x :: r))))]) (M' := M)]
    · have e3 : t_measured_4 [some (.d (.str "greatest")), some (.d (.lst (ri (x :: r))))] M = some (.rt (.t (.d (mxD (x :: r)))), M) := by
        unfold t_measured_4
        have e : eqR (.t (.d (.str "greatest"))) (.t (.d (.str "greatest"))) M = .ok (.t (.d (.bl true))) M := by kernel_rfl
        simp only [Out.bind, eVar, eC, eSeq2, eNil, eCons, eTB, tAndD, tOrD, tNotD, bindS, sSeq, sNil, sIf, sRet, sAsg, gSet, svR, frz, eB, gItem, List.getElem?_cons_zero, List.getElem?_cons_succ, List.set_cons_zero, List.set_cons_succ, if_true, if_false, Bool.false_eq_true, decide_true, decide_false, eIf, e, list_l, scl, max_ev]
      rw [e3, outOf_rt']
    · unfold t_measured_3
      have hn : decide (((x :: r).length : Nat) = (0 : Int)) = false := decide_eq_false (by rw [List.length_cons]; omega)
      simp only [Out.bind, eVar, eC, eSeq2, eNil, eCons, eTB, tAndD, tOrD, tNotD, bindS, sSeq, sNil, sIf, sRet, sAsg, gSet, svR, frz, eB, gItem, List.getElem?_cons_zero, List.getElem?_cons_succ, List.set_cons_zero, List.set_cons_succ, if_true, if_false, Bool.false_eq_true, decide_true, decide_false, lenL0, eqI, hn]
theorem m_least (is : List Int) (M : Mst) : m_measured [.d (.str "least"), .d (.lst (ri is))] M = .ok (.t (.d (mnD is))) M := by
  show outOf M.length (sSeq t_measured_0 (sSeq t_measured_1 (sSeq t_measured_2 (sSeq t_measured_3 t_measured_4))) [some (.d (.str "least")), some (.d (.lst (ri is)))] M) = _
  have e1 : t_measured_1 [some (.d (.str "least")), some (.d (.lst (ri is)))] M = some (.nx [some (.d (.str "least")), some (.d (.lst (ri is)))], M) := by kernel_rfl
  have e2 : t_measured_2 [some (.d (.str "least")), some (.d (.lst (ri is)))] M = some (.nx [some (.d (.str "least")), some (.d (.lst (ri is)))], M) := by kernel_rfl
  rw [seq_step (meas_step _ _ (way3 M)), seq_step e1, seq_step e2]
  cases is with
  | nil =>
    rw [seq_ret (r := .t (.d .non)) (M' := M), outOf_rt']
    · rfl
    · kernel_rfl
  | cons x r =>
    rw [seq_step (ρ' := [some (.d (.str "least")), some (.d (.lst (ri (x :: r))))]) (M' := M)]
    · have e3 : t_measured_4 [some (.d (.str "least")), some (.d (.lst (ri (x :: r))))] M = some (.rt (.t (.d (mnD (x :: r)))), M) := by
        unfold t_measured_4
        have e : eqR (.t (.d (.str "least"))) (.t (.d (.str "greatest"))) M = .ok (.t (.d (.bl false))) M := by kernel_rfl
        simp only [Out.bind, eVar, eC, eSeq2, eNil, eCons, eTB, tAndD, tOrD, tNotD, bindS, sSeq, sNil, sIf, sRet, sAsg, gSet, svR, frz, eB, gItem, List.getElem?_cons_zero, List.getElem?_cons_succ, List.set_cons_zero, List.set_cons_succ, if_true, if_false, Bool.false_eq_true, decide_true, decide_false, eIf, e, list_l, scl, min_ev]
      rw [e3, outOf_rt']
    · unfold t_measured_3
      have hn : decide (((x :: r).length : Nat) = (0 : Int)) = false := decide_eq_false (by rw [List.length_cons]; omega)
      simp only [Out.bind, eVar, eC, eSeq2, eNil, eCons, eTB, tAndD, tOrD, tNotD, bindS, sSeq, sNil, sIf, sRet, sAsg, gSet, svR, frz, eB, gItem, List.getElem?_cons_zero, List.getElem?_cons_succ, List.set_cons_zero, List.set_cons_succ, if_true, if_false, Bool.false_eq_true, decide_true, decide_false, lenL0, eqI, hn]
/-! ### the law -/
abbrev rL (ns : List Int) (t a b c d o : Option SV) : Ev := [some (.d (.ro (ns.map D.int))), some (.h 1), t, a, b, c, d, o, none]
def RL (M : Mst) : Prop := ∃ M0, RD 1 M0 M ∧ M0[0]? = some (.tbl "law" (lamQ "law"))
theorem nums {t a b c d o : Option SV} (hR : RL M) (q : ∀ (is : List Int) M', is.length ≤ 20 → RL M' → Q (.t (.lst ((ri is).map T.d))) M') : Wp (eLc (iRange1 (eCons (eCall m_zdraw (eArity 2 (eCons (eVar 1) (eCons (eC (.int 21)) eNil)))) eNil)) (.one 8) [8] tYesD (eCall m_znumber (eArity 1 (eCons (eVar 1) eNil))) (rL ns t a b c d o) M) Q E := by
  obtain ⟨M0, hM, h0⟩ := hR
  obtain ⟨i, M1, h1, h2, h3, h4⟩ := hM.draw (size := 21) (by decide) (by decide)
  have hA : (eCons (eCall m_zdraw (eArity 2 (eCons (eVar 1) (eCons (eC (.int 21)) eNil)))) eNil) (rL ns t a b c d o) M = .ok [.t (.d (.int i))] M1 := by
    simp only [Out.bind, eVar, eC, eSeq2, eNil, eCons, eTB, tAndD, tOrD, tNotD, bindS, sSeq, sNil, sIf, sRet, sAsg, gSet, svR, frz, eB, gItem, List.getElem?_cons_zero, List.getElem?_cons_succ, List.set_cons_zero, List.set_cons_succ, if_true, if_false, Bool.false_eq_true, decide_true, decide_false, eCall, eArity, List.map, List.length, Nat.reduceAdd, h1]
  refine wp_lc (fun xs M' => RD 1 M0 M' ∧ ∃ is : List Int, xs = ri is) (wp_eq (range1_ev i ⟨by omega, by omega⟩ hA) ⟨by rw [rangeD_len]; omega, ⟨h4, [], rfl⟩, fun n d xs M2 hd hx hI => ?_, fun xs M2 hx hI => ?_⟩)
  · obtain ⟨h5, is, rfl⟩ := hI
    refine ⟨_, rfl, rfl, ?_⟩
    show Wp (m_znumber [.h 1] M2) _ _
    exact Wp.number h5 fun i M' _ r1 _ => ⟨.int i, rfl, r1, is ++ [i], by simp⟩
  · obtain ⟨h5, is, rfl⟩ := hI
    refine q is M2 ?_ ⟨M0, h5, h0⟩
    rw [List.length_map, rangeD_len] at hx
    omega
theorem okInts (n : Nat) (a : List Int) (h : a.length ≤ 1000) : okS (n + 1) (.lst (ri a)) = true := by
  show (decide ((ri a).length ≤ 1000) && (ri a).all (okS n)) = true
  rw [Bool.and_eq_true, decide_eq_true_eq, List.all_eq_true]
  refine ⟨by rw [List.length_map]; exact h, fun d hd => ?_⟩
  obtain ⟨x, _, rfl⟩ := List.mem_map.mp hd
  cases n <;> rfl
def toldD (is : List Int) : D := .lst [.int is.sum, mxD is, mnD is, .lst (ri (sortI is)), .lst (ri (sortI is))]
def toldT (is : List Int) : T := .lst [.d (.int is.sum), .d (mxD is), .d (mnD is), .lst ((ri (sortI is)).map T.d), .lst ((ri (sortI is)).map T.d)]
theorem frz_told (is : List Int) : frz (toldT is) = toldD is := by
  unfold toldT toldD
  simp only [frz, frzL, frzL_ds]
theorem ok_mx (n : Nat) : okS n (mxD is) = true := by cases is <;> cases n <;> rfl
theorem ok_mn (n : Nat) : okS n (mnD is) = true := by cases is <;> cases n <;> rfl
theorem sortI_len (r : List Int) : (sortI r).length = r.length := (sortI_perm r).length_eq
theorem ok_told (h : is.length ≤ 20) (hs : (sortI is).length = is.length) : okS 3 (toldD is) = true := by
  show (decide (5 ≤ 1000) && ([.int is.sum, mxD is, mnD is, .lst (ri (sortI is)), .lst (ri (sortI is))] : List D).all (okS 2)) = true
  simp only [List.all_cons, List.all_nil, ok_mx, ok_mn, okInts 1 (sortI is) (by omega)]
  rfl
theorem neE (is : List Int) (M : Mst) : neR (.t (.d (.lst (ri is)))) (.t (.lst [])) M = .ok (.t (.d (.bl (!decide (is = []))))) M := neInts (a := is) (b := []) rfl rfl
theorem told_ev (is : List Int) (hl : is.length ≤ 20) (t c d o : Option SV) (M : Mst) : eLst (eCons (eCall m_measured (eArity 2 (eCons (eC (.str "sum")) (eCons (eVar 4) eNil)))) (eCons (eCall m_measured (eArity 2 (eCons (eC (.str "greatest")) (eCons (eVar 4) eNil)))) (eCons (eCall m_measured (eArity 2 (eCons (eC (.str "least")) (eCons (eVar 4) eNil)))) (eCons (eCall m_measured (eArity 2 (eCons (eC (.str "bag")) (eCons (eVar 4) eNil)))) (eCons
        (eCallK m_measured [1, 0] (eCons (eB tuplePR (eCons (eVar 4) eNil)) (eCons (eC (.str "bag")) eNil))) eNil))))) (rL ns t (some (.d (.lst (ri is)))) (some (.d (.lst (ri is)))) c d o) M = .ok (.t (toldT is)) M := by
  have tp : tuplePR [.t (.d (.lst (ri is)))] M = .ok (.t (.d (.tupP true (ri is)))) M := rfl
  have b1 := m_bag (.lst (ri is)) is (fun M => list_l _ M) (by omega) M
  have b2 := m_bag (.tupP true (ri is)) is (fun M => list_t _ _ M) (by omega) M
  have pk : permL [1, 0] (SV.d D.non) [SV.d (D.tupP true (ri is)), SV.d (D.str "bag")] = [SV.d (D.str "bag"), SV.d (D.tupP true (ri is))] := rfl
  simp only [Out.bind, eVar, eC, eSeq2, eNil, eCons, eTB, tAndD, tOrD, tNotD, bindS, sSeq, sNil, sIf, sRet, sAsg, gSet, svR, frz, eB, gItem, List.getElem?_cons_zero, List.getElem?_cons_succ, List.set_cons_zero, List.set_cons_succ, if_true, if_false, Bool.false_eq_true, decide_true, decide_false, eLst, eCall, eCallK, eArity, List.map, List.length, Nat.reduceAdd, m_sum, m_great, m_least, b1, b2, tp, treesM, pk, Nat.reduceLeDiff]
  rfl
theorem due_ev (is : List Int) (hl : is.length ≤ 20) (t b c d o : Option SV) (M : Mst) : eLst (eCons (eB (scL sumD) (eCons (eVar 3) eNil)) (eCons (eIf (eTB (eSeq2 neR (eVar 3) (eLst eNil))) (eB (scL maxD) (eCons (eVar 3) eNil)) (eC .non)) (eCons (eIf (eTB (eSeq2 neR (eVar 3) (eLst eNil))) (eB (scL minD) (eCons (eVar 3) eNil)) (eC .non)) (eCons (eB sortedR (eCons (eVar 3) eNil)) (eCons (eB sortedR (eCons (eVar 3) eNil)) eNil))))) (rL ns t (some (.d (.lst (ri is)))) b c d o) M = .ok (.t (toldT is)) M := by
  have s1 := sorted_ev is M (src_ld (ri is) M) (by omega)
  have e0 : eLst eNil (rL ns t (some (.d (.lst (ri is)))) b c d o) M = .ok (.t (.lst [])) M := rfl
  cases is with
  | nil =>
    simp only [Out.bind, eVar, eC, eSeq2, eNil, eCons, eTB, tAndD, tOrD, tNotD, bindS, sSeq, sNil, sIf, sRet, sAsg, gSet, svR, frz, eB, gItem, List.getElem?_cons_zero, List.getElem?_cons_succ, List.set_cons_zero, List.set_cons_succ, if_true, if_false, Bool.false_eq_true, decide_true, decide_false, eLst, eIf, List.length, Nat.reduceAdd, sum_ev, neE, s1, treesM, Nat.reduceLeDiff]
    rfl
  | cons x r =>
    have hn : decide (x :: r = []) = false := rfl
    simp only [Out.bind, eVar, eC, eSeq2, eNil, eCons, eTB, tAndD, tOrD, tNotD, bindS, sSeq, sNil, sIf, sRet, sAsg, gSet, svR, frz, eB, gItem, List.getElem?_cons_zero, List.getElem?_cons_succ, List.set_cons_zero, List.set_cons_succ, if_true, if_false, Bool.false_eq_true, decide_true, decide_false, eLst, eIf, List.length, Nat.reduceAdd, sum_ev, neE, max_ev, min_ev, s1, treesM, hn, Bool.not_false, Nat.reduceLeDiff]
    rfl
theorem app_ev (is : List Int) (hl : is.length ≤ 20) (t b c d o : Option SV) (M : Mst) : eAppT (eCall m_measured (eArity 2 (eCons (eC (.str "bag")) (eCons (eVar 4) eNil)))) (vC (.int 0)) (rL ns t b (some (.d (.lst (ri is)))) c d o) M = .ok (.t (.d .non)) M := by
  have b1 := m_bag (.lst (ri is)) is (fun M => list_l _ M) (by omega) M
  simp only [Out.bind, eVar, eC, eSeq2, eNil, eCons, eTB, tAndD, tOrD, tNotD, bindS, sSeq, sNil, sIf, sRet, sAsg, gSet, svR, frz, eB, gItem, List.getElem?_cons_zero, List.getElem?_cons_succ, List.set_cons_zero, List.set_cons_succ, if_true, if_false, Bool.false_eq_true, decide_true, decide_false, eAppT, eCall, eArity, List.map, List.length, Nat.reduceAdd, b1, vC]
  have hs : ((ri (sortI is)).map T.d).length + 1 ≤ 1000000 := by rw [List.length_map, List.length_map, sortI_len]; omega
  rw [if_pos hs]
theorem loop_rest (is : List Int) (hl : is.length ≤ 20) (t b c d o : Option SV) (M : Mst) : ∃ b' c' d', (sSeq (sAsg (eB listR (eCons (eVar 3) eNil)) (gSet 4))
    (sSeq (sAsg (eLst (eCons (eCall m_measured (eArity 2 (eCons (eC (.str "sum")) (eCons (eVar 4) eNil)))) (eCons (eCall m_measured (eArity 2 (eCons (eC (.str "greatest")) (eCons (eVar 4) eNil)))) (eCons (eCall m_measured (eArity 2 (eCons (eC (.str "least")) (eCons (eVar 4) eNil)))) (eCons (eCall m_measured (eArity 2 (eCons (eC (.str "bag")) (eCons (eVar 4) eNil)))) (eCons
        (eCallK m_measured [1, 0] (eCons (eB tuplePR (eCons (eVar 4) eNil)) (eCons (eC (.str "bag")) eNil))) eNil)))))) (gSet 5))
    (sSeq (sAsg (eLst (eCons (eB (scL sumD) (eCons (eVar 3) eNil)) (eCons (eIf (eTB (eSeq2 neR (eVar 3) (eLst eNil))) (eB (scL maxD) (eCons (eVar 3) eNil)) (eC .non)) (eCons (eIf (eTB (eSeq2 neR (eVar 3) (eLst eNil))) (eB (scL minD) (eCons (eVar 3) eNil)) (eC .non)) (eCons (eB sortedR (eCons (eVar 3) eNil)) (eCons (eB sortedR (eCons (eVar 3) eNil)) eNil)))))) (gSet 6))
    (sSeq (sIf (tOrD (tNotD (eTru (eCall (m_zsame 4) (eArity 2 (eCons (eVar 5) (eCons (eVar 6) eNil)))))) (tNotD (eTru (eCall (m_zsame 4) (eArity 2 (eCons (eVar 4) (eCons (eVar 3) eNil))))))) (sRet (eC (.bl false))) sNil)
    (sSeq (sExpr (eAppT (eCall m_measured (eArity 2 (eCons (eC (.str "bag")) (eCons (eVar 4) eNil)))) (vC (.int 0))))
    (sIf (tNotD (eTru (eCall (m_zsame 4) (eArity 2 (eCons (eVar 4) (eCons (eVar 3) eNil)))))) (sRet (eC (.bl false))) sNil)))))) (rL ns t (some (.d (.lst (ri is)))) b c d o) M = some (.nx (rL ns t (some (.d (.lst (ri is)))) b' c' d' o), M) := by
  refine ⟨some (.d (.lst (ri is))), some (.d (toldD is)), some (.d (toldD is)), ?_⟩
  have oki := okInts 2 is (by omega)
  have okt := ok_told (is := is) hl (sortI_len is)
  rw [seq_step (ρ' := rL ns t (some (.d (.lst (ri is)))) (some (.d (.lst (ri is)))) c d o) (M' := M) (by simp only [Out.bind, eVar, eC, eSeq2, eNil, eCons, eTB, tAndD, tOrD, tNotD, bindS, sSeq, sNil, sIf, sRet, sAsg, gSet, svR, frz, eB, gItem, List.getElem?_cons_zero, List.getElem?_cons_succ, List.set_cons_zero, List.set_cons_succ, if_true, if_false, Bool.false_eq_true, decide_true, decide_false, list_l, frzL_ds])]
  rw [seq_step (ρ' := rL ns t (some (.d (.lst (ri is)))) (some (.d (.lst (ri is)))) (some (.d (toldD is))) d o) (M' := M) (by simp only [sAsg, told_ev is hl, bindS, gSet, svR, frz_told]; rfl)]
  rw [seq_step (ρ' := rL ns t (some (.d (.lst (ri is)))) (some (.d (.lst (ri is)))) (some (.d (toldD is))) (some (.d (toldD is))) o) (M' := M) (by simp only [sAsg, due_ev is hl, bindS, gSet, svR, frz_told]; rfl)]
  have s1 := same_step (ρ := rL ns t (some (.d (.lst (ri is)))) (some (.d (.lst (ri is)))) (some (.d (toldD is))) (some (.d (toldD is))) o) (M := M) (A := eVar 5) (B := eVar 6) (r1 := .t (.d (toldD is))) (r2 := .t (.d (toldD is))) rfl rfl rfl rfl okt
  have s2 := same_step (ρ := rL ns t (some (.d (.lst (ri is)))) (some (.d (.lst (ri is)))) (some (.d (toldD is))) (some (.d (toldD is))) o) (M := M) (A := eVar 4) (B := eVar 3) (r1 := .t (.d (.lst (ri is)))) (r2 := .t (.d (.lst (ri is)))) rfl rfl rfl rfl oki
  rw [seq_step (ρ' := rL ns t (some (.d (.lst (ri is)))) (some (.d (.lst (ri is)))) (some (.d (toldD is))) (some (.d (toldD is))) o) (M' := M) (by simp only [sIf, tOrD, tNotD, eTru, s1, s2, Out.bind, bindS, frzR_d, truth, Bool.not_true, Bool.false_eq_true, if_false, sNil])]
  rw [seq_step (ρ' := rL ns t (some (.d (.lst (ri is)))) (some (.d (.lst (ri is)))) (some (.d (toldD is))) (some (.d (toldD is))) o) (M' := M) (by simp only [sExpr, app_ev is hl, bindS])]
  exact guard_step s2
theorem turns (L : Addr) {Φ : Fl → Mst → Prop} (hR : RL M) (k : ∀ t a b c d M', RL M' → Φ (.nx (rL ns t a b c d none)) M') : WpS (t_law_1 L (rL ns none none none none none none) M) Φ := by
  unfold t_law_1
  refine wps_for (fun ρ M' => RL M' ∧ ∃ t a b c d, ρ = rL ns t a b c d none) (wp_eq (M' := M) (range1_ev 5 ⟨by decide, by decide⟩ rfl) ⟨⟨hR, none, none, none, none, none, rfl⟩, fun x _ ρ M' hI => ?_, fun ρ M' ⟨h1, t, a, b, c, d, hρ⟩ => by rw [hρ]; exact k t a b c d M' h1⟩)
  obtain ⟨hM, t, a, b, c, d, rfl⟩ := hI
  refine ⟨_, rfl, ?_⟩
  show WpS (sSeq _ _ (rL ns (some (.d x)) a b c d none) M') _
  rw [wps_seq]
  simp only [sAsg, wps_bind]
  refine nums hM fun is M1 hl h1 => ?_
  show WpS (some (.nx (rL ns (some (.d x)) (some (.d (frz (.lst ((ri is).map T.d))))) b c d none), M1)) _
  rw [frz_ds, wps_some, seqK_nx]
  obtain ⟨b', c', d', e⟩ := loop_rest (ns := ns) is hl (some (.d x)) b c d none M1
  rw [e]
  exact ⟨⟨h1, _, _, _, _, _, rfl⟩⟩
def odds : List D := [.non, .int 3, .str "", .str "Sum", .str "most", .lst [.str "sum"], .tup [.str "bag"], .bl true, .str "beside"]
theorem odd_ok {d : D} (h : d ∈ odds) : (∀ M, b_is_way [some (.d d)] M = some (.rt (.t (.d (.bl false))), M)) ∧ okS 1 d = true := by
  simp only [odds, List.mem_cons, List.not_mem_nil, or_false] at h
  rcases h with rfl | rfl | rfl | rfl | rfl | rfl | rfl | rfl | rfl
  all_goals exact ⟨fun M => by kernel_rfl, rfl⟩
theorem law_last (L : Addr) {t a b c d : Option SV} {x : D} (hx : x ∈ odds) (hR : RL M) : t_law_3 L (rL ns t a b c d (some (.d x))) M = some (.rt (.t (.d (.bl true))), M) := by
  obtain ⟨hw, hk⟩ := odd_ok hx
  have h0 : M[0]? = some (.tbl "law" (lamQ "law")) := by
    obtain ⟨M0, ⟨_, _, _, _, _, e⟩, h0⟩ := hR
    rw [e, List.getElem?_set_ne (by decide)]
    exact h0
  have f0 : eCall m_measured (eArity 2 (eCons (eVar 7) (eCons (eLst eNil) eNil))) (rL ns t a b c d (some (.d x))) M = .exc ⟨"InvalidWay", [("value", x), ("code", .str "InvalidWay")]⟩ M := meas_bad x (.lst []) (isWay x false hw M)
  have f1 : eCall m_measured (eArity 2 (eCons (eVar 7) (eCons (eLst (eCons (eC (.int 1)) (eCons (eC (.int 2)) eNil))) eNil))) (rL ns t a b c d (some (.d x))) M = .exc ⟨"InvalidWay", [("value", x), ("code", .str "InvalidWay")]⟩ M := meas_bad x (.lst [.int 1, .int 2]) (isWay x false hw M)
  have tl : told xnames (.exc ⟨"InvalidWay", [("value", x), ("code", .str "InvalidWay")]⟩ M) = .ok (.t (.tup [.d (.str "InvalidWay"), .d x])) M := by kernel_rfl
  have hA : eTriesL 0 "law" (lamQ "law") [lm_law_0, lm_law_1] [(lm_law_0, (eCall m_measured (eArity 2 (eCons (eVar 7) (eCons (eLst eNil) eNil))))), (lm_law_1, (eCall m_measured (eArity 2 (eCons (eVar 7) (eCons (eLst (eCons (eC (.int 1)) (eCons (eC (.int 2)) eNil))) eNil)))))] xnames (rL ns t a b c d (some (.d x))) M = .ok (.t (.lst [.tup [.d (.str "InvalidWay"), .d x], .tup [.d (.str "InvalidWay"), .d x]])) M := by
    unfold eTriesL
    rw [h0]
    show (if _ then _ else _) = _
    rw [if_pos ⟨rfl, rfl, by decide⟩]
    have te := triesL_eq (bs := [(lm_law_0, (eCall m_measured (eArity 2 (eCons (eVar 7) (eCons (eLst eNil) eNil))))), (lm_law_1, (eCall m_measured (eArity 2 (eCons (eVar 7) (eCons (eLst (eCons (eC (.int 1)) (eCons (eC (.int 2)) eNil))) eNil)))))]) (xs := xnames) (ρ := rL ns t a b c d (some (.d x))) (show ([none, some "_law_a"] : List (Option Str)).Nodup by decide) _ [] M (fun q hq => hq)
    rw [show ([lm_law_0, lm_law_1] : List Lm) = [(lm_law_0, (eCall m_measured (eArity 2 (eCons (eVar 7) (eCons (eLst eNil) eNil))))), (lm_law_1, (eCall m_measured (eArity 2 (eCons (eVar 7) (eCons (eLst (eCons (eC (.int 1)) (eCons (eC (.int 2)) eNil))) eNil)))))].map (·.1) from rfl, te]
    simp only [List.map_cons, List.map_nil, triesD, f0, f1, tl, Out.bind, List.length_nil, List.length_cons, List.nil_append, List.cons_append, List.length_append, Nat.reduceAdd, Nat.reduceLT, if_true]
  have hS := same_step hA (B := eSeq2 mulR (eLst (eCons (eTup (eCons (eC (.str "InvalidWay")) (eCons (eVar 7) eNil))) eNil)) (eC (.int 2))) (r2 := .t (.lst [.d (.tup [.str "InvalidWay", x]), .d (.tup [.str "InvalidWay", x])])) (d := .lst [.tup [.str "InvalidWay", x], .tup [.str "InvalidWay", x]]) (by kernel_rfl) rfl rfl (by
    show (decide (2 ≤ 1000) && ((decide (2 ≤ 1000) && (true && (okS 1 x && true))) && ((decide (2 ≤ 1000) && (true && (okS 1 x && true))) && true))) = true
    rw [hk]
    rfl)
  unfold t_law_3
  simp only [sRet, hS, bindS]
theorem law_true (L : Addr) (ns : List Int) (_ : ns.length ≤ 63) : ∃ M, mL_law L [.d (.ro (ns.map D.int))] (tabM tabs) = .ok (.t (.d (.bl true))) M := by
  obtain ⟨cs, s, r1, r2, r3⟩ := reel_evM ns (tabM tabs)
  have hR : Reel (tabM tabs ++ [reelT cs 0 0 s]) 1 cs 0 0 s := ⟨rfl, by decide, r2, r3⟩
  have main : Wp (mL_law L [.d (.ro (ns.map D.int))] (tabM tabs)) (fun r _ => r = .t (.d (.bl true))) (fun _ _ => False) := by
    refine wp_fn (ρ := [some (.d (.ro (ns.map D.int))), none, none, none, none, none, none, none, none]) rfl ?_
    unfold b_law
    rw [wps_seq]
    unfold t_law_0
    simp only [wp_ok, wp_bind, wp_ite, wps_some, wps_none, wps_ite, wps_bind, seqK_rt, seqK_xc, seqK_ct, seqK_bk, fnK_rt, fnK_nx, eVar, eC, eSeq2, eSeq1, eNil, eCons, eTB, eTru, tAndD, tOrD, tNotD, eNot, eAnd, eOr, eIf, sNil, sBad, sIf, sRet, sExpr, sAsg, gSet, svR, frz, frzR, eB, eCall, eArity, eLst, eTup, treesM, tYesD, eChain, dat, truth, List.getElem?_cons_zero, List.getElem?_cons_succ, List.set_cons_zero, List.set_cons_succ, List.map_cons, List.map_nil, List.length_cons, List.length_nil, Nat.reduceAdd, if_true, if_false, Bool.false_eq_true, decide_true, decide_false, Bool.not_true, Bool.not_false, frzL, take_len, and_true, true_and, r1]
    show WpS (some (.nx (rL ns none none none none none none), tabM tabs ++ [reelT cs 0 0 s])) _
    rw [wps_some, seqK_nx, wps_seq]
    refine turns L ⟨_, RD.self hR, rfl⟩ fun t a b c d M' hM => ?_
    rw [seqK_nx, wps_seq]
    unfold t_law_2
    simp only [sAsg, wps_bind]
    obtain ⟨M0, h1, h2⟩ := hM
    show Wp (m_zof [.h 1, .d (.lst odds)] M') _ _
    refine Wp.ofL h1 (by decide) (by decide) fun x M2 hx r1 _ => ?_
    show WpS (some (.nx (rL ns t a b c d (some (.d x))), M2)) _
    rw [wps_some, seqK_nx, law_last L hx ⟨M0, r1, h2⟩]
    exact ⟨rfl⟩
  obtain ⟨r, M', e, rfl⟩ := main.get
  exact ⟨M', e⟩
end
end Toy

/-! What the top has written, told by facts; the law (printed by gen.py) -/
namespace Toy
open PySem L2 DL PyProof.Rows
abbrev g_law_draw (K : PySem.W.Frag) : Addr := He.ga K "_law_draw"
abbrev g_law_number (K : PySem.W.Frag) : Addr := He.ga K "_law_number"
abbrev g_law_of (K : PySem.W.Frag) : Addr := He.ga K "_law_of"
abbrev g_law_reel (K : PySem.W.Frag) : Addr := He.ga K "_law_reel"
abbrev g_law_same (K : PySem.W.Frag) : Addr := He.ga K "_law_same"
abbrev g_is_way (K : PySem.W.Frag) : Addr := He.ga K "is_way"
abbrev g_measured (K : PySem.W.Frag) : Addr := He.ga K "measured"
abbrev g_law (K : PySem.W.Frag) : Addr := He.ga K "law"
abbrev g_InvalidWay (K : PySem.W.Frag) : Addr := He.ga K "InvalidWay"
abbrev h_InvalidWay_init (K : PySem.W.Frag) : Addr := He.ma K (g_InvalidWay K) "__init__"
abbrev g_law_parts (K : PySem.W.Frag) : Addr := He.ga K "_law_parts"
abbrev g_law_try (K : PySem.W.Frag) : Addr := He.ga K "_law_try"
abbrev g_law_tries (K : PySem.W.Frag) : Addr := He.ga K "_law_tries"
abbrev g_WalkError (K : PySem.W.Frag) : Addr := He.ga K "WalkError"
abbrev g_Missing (K : PySem.W.Frag) : Addr := He.ga K "Missing"
abbrev g_NothingLeft (K : PySem.W.Frag) : Addr := He.ga K "NothingLeft"
abbrev g_WAYS (K : PySem.W.Frag) : Addr := He.ga K "WAYS"
def dfs0 : List He5.DefA := [⟨fun K => (g_law_draw K), "_law_draw", "_law_draw", defArgs s_zdraw, defBody s_zdraw, defScope s_zdraw, [], []⟩,
  ⟨fun K => (g_law_number K), "_law_number", "_law_number", defArgs s_znumber, defBody s_znumber, defScope s_znumber, [], []⟩,
  ⟨fun K => (g_law_of K), "_law_of", "_law_of", defArgs s_zof, defBody s_zof, defScope s_zof, [], []⟩,
  ⟨fun K => (g_law_reel K), "_law_reel", "_law_reel", defArgs s_zreel, defBody s_zreel, defScope s_zreel, [], []⟩,
  ⟨fun K => (g_law_same K), "_law_same", "_law_same", defArgs s_zsame, defBody s_zsame, defScope s_zsame, [], []⟩,
  ⟨fun K => (g_is_way K), "is_way", "is_way", defArgs s_is_way, defBody s_is_way, defScope s_is_way, [], []⟩,
  ⟨fun K => (g_measured K), "measured", "measured", defArgs s_measured, defBody s_measured, defScope s_measured, [], []⟩,
  ⟨fun K => (g_law K), "law", "law", defArgs s_law, defBody s_law, defScope s_law, [], []⟩,
  ⟨fun K => (g_law_parts K), "_law_parts", "_law_parts", defArgs s_zparts, defBody s_zparts, defScope s_zparts, [], []⟩,
  ⟨fun K => (g_law_try K), "_law_try", "_law_try", defArgs s_ztry, defBody s_ztry, defScope s_ztry, [], []⟩,
  ⟨fun K => (g_law_tries K), "_law_tries", "_law_tries", defArgs s_ztries, defBody s_ztries, defScope s_ztries, [], []⟩,
  ⟨fun K => (h_InvalidWay_init K), "__init__", "InvalidWay.__init__", defArgs s_x_InvalidWay, defBody s_x_InvalidWay, defScope s_x_InvalidWay, [], []⟩]
def dfs : List He5.DefA := dfs0
def bs0 (K : PySem.W.Frag) : List Bool := [He.eqO (PySem.W.nsIn K mainGlobals "_law_parts") (some (some (.ref (g_law_parts K)))),
  He.eqO (PySem.W.nsIn K mainGlobals "_law_try") (some (some (.ref (g_law_try K)))),
  He.eqO (PySem.W.nsIn K mainGlobals "_law_tries") (some (some (.ref (g_law_tries K)))),
  He.eqO (PySem.W.nsIn K mainGlobals "_law_draw") (some (some (.ref (g_law_draw K)))),
  He.eqO (PySem.W.nsIn K mainGlobals "_law_number") (some (some (.ref (g_law_number K)))),
  He.eqO (PySem.W.nsIn K mainGlobals "_law_of") (some (some (.ref (g_law_of K)))),
  He.eqO (PySem.W.nsIn K mainGlobals "_law_reel") (some (some (.ref (g_law_reel K)))),
  He.eqO (PySem.W.nsIn K mainGlobals "_law_same") (some (some (.ref (g_law_same K)))),
  He.eqO (PySem.W.nsIn K mainGlobals "is_way") (some (some (.ref (g_is_way K)))),
  He.eqO (PySem.W.nsIn K mainGlobals "measured") (some (some (.ref (g_measured K)))),
  He.eqO (PySem.W.nsIn K mainGlobals "law") (some (some (.ref (g_law K)))),
  He.eqO (PySem.W.nsIn K mainGlobals "InvalidWay") (some (some (.ref (g_InvalidWay K)))),
  He.eqO (PySem.W.nsIn K mainGlobals "WalkError") (some (some (.ref (g_WalkError K)))),
  decide (PySem.W.typeIn K (.ref (g_WalkError K)) = some (tyA K (.ref (g_WalkError K)))),
  PySem.W.readsIn K (g_WalkError K) (tyA K (.ref (g_WalkError K))),
  He.eqO (PySem.W.specialIn K (.ref (g_WalkError K)) "__getattribute__") (some (some (.builtin "type.__getattribute__"))),
  fvB K (.ref (g_WalkError K)) (tyA K (.ref (g_WalkError K))) "__init__" && decide (fvV K (.ref (g_WalkError K)) (tyA K (.ref (g_WalkError K))) "__init__" = .builtin "ValueError.__init__"),
  He.eqO (PySem.W.specialIn K (.builtin "object.__class__") "__get__") (some (some (.builtin "getset_descriptor.__get__"))),
  decide (PySem.W.takesIn K (.builtin "object.__class__") = some true),
  xclB K (g_InvalidWay K) [.ref (g_WalkError K), .type "ValueError", .type "Exception", .type "BaseException", .type "object"] "ValueError.__new__",
  He.eqO (PySem.W.findIn K (.ref (g_InvalidWay K)) "__setattr__") (some (some (.builtin "object.__setattr__"))),
  decide (PySem.W.subIn K (.ref (g_InvalidWay K)) (.type "BaseException") = some true),
  decide (PySem.W.typeIn K (.ref (g_InvalidWay K)) = some (.type "type")),
  PySem.W.keepIn K (.ref (g_InvalidWay K)),
  He.eqO (PySem.W.findIn K (.ref (g_InvalidWay K)) "__init__") (some (some (.ref (h_InvalidWay_init K)))),
  PySem.W.isFn K (.ref (h_InvalidWay_init K)),
  He.eqO (PySem.W.findIn K (.ref (g_InvalidWay K)) "code") (some none),
  He.eqO (PySem.W.findIn K (.ref (g_InvalidWay K)) "value") (some none),
  PySem.W.hasDictIn K (g_InvalidWay K),
  He.eqO (PySem.W.findIn K (.ref (g_InvalidWay K)) "__getattribute__") (some (some (.builtin "BaseException.__getattribute__")))]
def bs1 (K : PySem.W.Frag) : List Bool := [He.eqO (PySem.W.findIn K (.ref (g_InvalidWay K)) "__getattr__") (some none),
  He.eqO (PySem.W.findIn K (.ref (g_InvalidWay K)) "__class__") (some (some (.builtin "object.__class__"))),
  decide (PySem.W.mroIn K (g_InvalidWay K) (.type "object") = some true),
  He.eqO (PySem.W.nsIn K mainGlobals "Missing") (some (some (.ref (g_Missing K)))),
  He.eqO (PySem.W.nsIn K mainGlobals "NothingLeft") (some (some (.ref (g_NothingLeft K)))),
  decide (PySem.W.exmAny K (.ref (g_InvalidWay K)) [.ref (g_WalkError K), .ref (g_Missing K), .ref (g_NothingLeft K)] = some true),
  (partsLast ++ partsCl.flatMap (·.2)).all (fun n => He.eqO (PySem.W.findIn K (.ref (g_InvalidWay K)) n) (some none)),
  decide ((tabs.map (tabP K)).Nodup),
  He.eqO (PySem.W.nsIn K mainGlobals "all") (some none),
  He.eqO (PySem.W.nsIn K mainGlobals "bool") (some none),
  He.eqO (PySem.W.nsIn K mainGlobals "int") (some none),
  He.eqO (PySem.W.nsIn K mainGlobals "isinstance") (some none),
  He.eqO (PySem.W.nsIn K mainGlobals "len") (some none),
  He.eqO (PySem.W.nsIn K mainGlobals "list") (some none),
  He.eqO (PySem.W.nsIn K mainGlobals "max") (some none),
  He.eqO (PySem.W.nsIn K mainGlobals "min") (some none),
  He.eqO (PySem.W.nsIn K mainGlobals "range") (some none),
  He.eqO (PySem.W.nsIn K mainGlobals "sorted") (some none),
  He.eqO (PySem.W.nsIn K mainGlobals "str") (some none),
  He.eqO (PySem.W.nsIn K mainGlobals "sum") (some none),
  He.eqO (PySem.W.nsIn K mainGlobals "tuple") (some none),
  He.eqO (PySem.W.nsIn K mainGlobals "zip") (some none),
  He.eqO (PySem.W.nsIn K mainGlobals "WAYS") (some (some (.ref (g_WAYS K)))),
  tupB K (g_WAYS K) ["sum", "greatest", "least", "bag"]]
def bsl (K : PySem.W.Frag) : List (List Bool) := [bs0 K, bs1 K]
def tbs : List He.Defn := [("law", none)]
theorem tbs_of : ∀ t ∈ tabs, (t.1, none) ∈ tbs := by decide +kernel
abbrev SayK (h : Heap) (K : PySem.W.Frag) : Prop := SaysK dfs (fun K => allB (bsl K)) tbs h K
theorem all_mk {P : Program} {w : World} {K : PySem.W.Frag} {h : Heap} {mg : Str → Option Value} {fa : Addr} (X : K.In h) (G : h.Ns mainGlobals mg) (hfa : mg "law" = some (.ref fa)) (c : SayK h K) :
    ∃ fd : FuncData, (∀ (s : Shared) (v : Value), BindsTo s fd ⟨[v], []⟩ [("_law_script", v)]) ∧ ∀ base : Heap, K.In base → base.Ns mainGlobals mg → (∀ p ∈ tbs.map (He.cT K), LamX.TabB base mg p.1 p.2) → FnOk P w K mg base (L2.CX P w) 9 fa fd ["_law_script"] (spLawT K tabs) := by
  have bs := c.bs
  have a_zparts : PySem.W.nsIn K mainGlobals "_law_parts" = some (some (.ref (g_law_parts K))) := He.eqO_ok (allB_at (ls := bsl K) (b := He.eqO (PySem.W.nsIn K mainGlobals "_law_parts") (some (some (.ref (g_law_parts K))))) bs 0 0)
  have a_ztry : PySem.W.nsIn K mainGlobals "_law_try" = some (some (.ref (g_law_try K))) := He.eqO_ok (allB_at (ls := bsl K) (b := He.eqO (PySem.W.nsIn K mainGlobals "_law_try") (some (some (.ref (g_law_try K))))) bs 0 1)
  have a_ztries : PySem.W.nsIn K mainGlobals "_law_tries" = some (some (.ref (g_law_tries K))) := He.eqO_ok (allB_at (ls := bsl K) (b := He.eqO (PySem.W.nsIn K mainGlobals "_law_tries") (some (some (.ref (g_law_tries K))))) bs 0 2)
  have a_zdraw : PySem.W.nsIn K mainGlobals "_law_draw" = some (some (.ref (g_law_draw K))) := He.eqO_ok (allB_at (ls := bsl K) (b := He.eqO (PySem.W.nsIn K mainGlobals "_law_draw") (some (some (.ref (g_law_draw K))))) bs 0 3)
  have a_znumber : PySem.W.nsIn K mainGlobals "_law_number" = some (some (.ref (g_law_number K))) := He.eqO_ok (allB_at (ls := bsl K) (b := He.eqO (PySem.W.nsIn K mainGlobals "_law_number") (some (some (.ref (g_law_number K))))) bs 0 4)
  have a_zof : PySem.W.nsIn K mainGlobals "_law_of" = some (some (.ref (g_law_of K))) := He.eqO_ok (allB_at (ls := bsl K) (b := He.eqO (PySem.W.nsIn K mainGlobals "_law_of") (some (some (.ref (g_law_of K))))) bs 0 5)
  have a_zreel : PySem.W.nsIn K mainGlobals "_law_reel" = some (some (.ref (g_law_reel K))) := He.eqO_ok (allB_at (ls := bsl K) (b := He.eqO (PySem.W.nsIn K mainGlobals "_law_reel") (some (some (.ref (g_law_reel K))))) bs 0 6)
  have a_zsame : PySem.W.nsIn K mainGlobals "_law_same" = some (some (.ref (g_law_same K))) := He.eqO_ok (allB_at (ls := bsl K) (b := He.eqO (PySem.W.nsIn K mainGlobals "_law_same") (some (some (.ref (g_law_same K))))) bs 0 7)
  have a_is_way : PySem.W.nsIn K mainGlobals "is_way" = some (some (.ref (g_is_way K))) := He.eqO_ok (allB_at (ls := bsl K) (b := He.eqO (PySem.W.nsIn K mainGlobals "is_way") (some (some (.ref (g_is_way K))))) bs 0 8)
  have a_measured : PySem.W.nsIn K mainGlobals "measured" = some (some (.ref (g_measured K))) := He.eqO_ok (allB_at (ls := bsl K) (b := He.eqO (PySem.W.nsIn K mainGlobals "measured") (some (some (.ref (g_measured K))))) bs 0 9)
  have a_law : PySem.W.nsIn K mainGlobals "law" = some (some (.ref (g_law K))) := He.eqO_ok (allB_at (ls := bsl K) (b := He.eqO (PySem.W.nsIn K mainGlobals "law") (some (some (.ref (g_law K))))) bs 0 10)
  have ac_InvalidWay : PySem.W.nsIn K mainGlobals "InvalidWay" = some (some (.ref (g_InvalidWay K))) := He.eqO_ok (allB_at (ls := bsl K) (b := He.eqO (PySem.W.nsIn K mainGlobals "InvalidWay") (some (some (.ref (g_InvalidWay K))))) bs 0 11)
  have ac_WalkError : PySem.W.nsIn K mainGlobals "WalkError" = some (some (.ref (g_WalkError K))) := He.eqO_ok (allB_at (ls := bsl K) (b := He.eqO (PySem.W.nsIn K mainGlobals "WalkError") (some (some (.ref (g_WalkError K))))) bs 0 12)
  have cy_w_WalkError : PySem.W.typeIn K (.ref (g_WalkError K)) = some (tyA K (.ref (g_WalkError K))) := of_decide_eq_true (allB_at (ls := bsl K) (b := decide (PySem.W.typeIn K (.ref (g_WalkError K)) = some (tyA K (.ref (g_WalkError K))))) bs 0 13)
  have cr_w_WalkError : PySem.W.readsIn K (g_WalkError K) (tyA K (.ref (g_WalkError K))) = true := (allB_at (ls := bsl K) (b := PySem.W.readsIn K (g_WalkError K) (tyA K (.ref (g_WalkError K)))) bs 0 14)
  have cg_w_WalkError : PySem.W.specialIn K (.ref (g_WalkError K)) "__getattribute__" = some (some (.builtin "type.__getattribute__")) := He.eqO_ok (allB_at (ls := bsl K) (b := He.eqO (PySem.W.specialIn K (.ref (g_WalkError K)) "__getattribute__") (some (some (.builtin "type.__getattribute__")))) bs 0 15)
  have wf_WalkError : PySem.W.findCls K (.ref (g_WalkError K)) (tyA K (.ref (g_WalkError K))) "__init__" = some (.val (.builtin "ValueError.__init__")) := fvE_ok (allB_at (ls := bsl K) (b := fvB K (.ref (g_WalkError K)) (tyA K (.ref (g_WalkError K))) "__init__" && decide (fvV K (.ref (g_WalkError K)) (tyA K (.ref (g_WalkError K))) "__init__" = .builtin "ValueError.__init__")) bs 0 16)
  have gx_s : PySem.W.specialIn K (.builtin "object.__class__") "__get__" = some (some (.builtin "getset_descriptor.__get__")) := He.eqO_ok (allB_at (ls := bsl K) (b := He.eqO (PySem.W.specialIn K (.builtin "object.__class__") "__get__") (some (some (.builtin "getset_descriptor.__get__")))) bs 0 17)
  have gx_t : PySem.W.takesIn K (.builtin "object.__class__") = some true := of_decide_eq_true (allB_at (ls := bsl K) (b := decide (PySem.W.takesIn K (.builtin "object.__class__") = some true)) bs 0 18)
  obtain ⟨nm_lx_InvalidWay, q_lx_InvalidWay, N_lx_InvalidWay, bs_lx_InvalidWay, sn_lx_InvalidWay, sub_lx_InvalidWay, ab_lx_InvalidWay, col_lx_InvalidWay, dd_lx_InvalidWay, k0_lx_InvalidWay, k1_lx_InvalidWay, k2_lx_InvalidWay, k3_lx_InvalidWay, k5_lx_InvalidWay, lk_lx_InvalidWay⟩ := xclB_ok (allB_at (ls := bsl K) (b := xclB K (g_InvalidWay K) [.ref
        (g_WalkError K), .type "ValueError", .type "Exception", .type "BaseException", .type "object"] "ValueError.__new__") bs 0 19)
  have sx_InvalidWay : PySem.W.findIn K (.ref (g_InvalidWay K)) "__setattr__" = some (some (.builtin "object.__setattr__")) := He.eqO_ok (allB_at (ls := bsl K) (b := He.eqO (PySem.W.findIn K (.ref (g_InvalidWay K)) "__setattr__") (some (some (.builtin "object.__setattr__")))) bs 0 20)
  have xc_InvalidWay : PySem.W.subIn K (.ref (g_InvalidWay K)) (.type "BaseException") = some true := of_decide_eq_true (allB_at (ls := bsl K) (b := decide (PySem.W.subIn K (.ref (g_InvalidWay K)) (.type "BaseException") = some true)) bs 0 21)
  have tx_InvalidWay : PySem.W.typeIn K (.ref (g_InvalidWay K)) = some (.type "type") := of_decide_eq_true (allB_at (ls := bsl K) (b := decide (PySem.W.typeIn K (.ref (g_InvalidWay K)) = some (.type "type"))) bs 0 22)
  have kx_InvalidWay : PySem.W.keepIn K (.ref (g_InvalidWay K)) = true := (allB_at (ls := bsl K) (b := PySem.W.keepIn K (.ref (g_InvalidWay K))) bs 0 23)
  have vx_InvalidWay : PySem.W.findIn K (.ref (g_InvalidWay K)) "__init__" = some (some (.ref (h_InvalidWay_init K))) := He.eqO_ok (allB_at (ls := bsl K) (b := He.eqO (PySem.W.findIn K (.ref (g_InvalidWay K)) "__init__") (some (some (.ref (h_InvalidWay_init K))))) bs 0 24)
  have i_x_InvalidWay : PySem.W.isFn K (.ref (h_InvalidWay_init K)) = true := (allB_at (ls := bsl K) (b := PySem.W.isFn K (.ref (h_InvalidWay_init K))) bs 0 25)
  have nf_InvalidWay_code : PySem.W.findIn K (.ref (g_InvalidWay K)) "code" = some none := He.eqO_ok (allB_at (ls := bsl K) (b := He.eqO (PySem.W.findIn K (.ref (g_InvalidWay K)) "code") (some none)) bs 0 26)
  have nf_InvalidWay_value : PySem.W.findIn K (.ref (g_InvalidWay K)) "value" = some none := He.eqO_ok (allB_at (ls := bsl K) (b := He.eqO (PySem.W.findIn K (.ref (g_InvalidWay K)) "value") (some none)) bs 0 27)
  have hx_InvalidWay : PySem.W.hasDictIn K (g_InvalidWay K) = true := (allB_at (ls := bsl K) (b := PySem.W.hasDictIn K (g_InvalidWay K)) bs 0 28)
  have gb_InvalidWay : PySem.W.findIn K (.ref (g_InvalidWay K)) "__getattribute__" = some (some (.builtin "BaseException.__getattribute__")) := He.eqO_ok (allB_at (ls := bsl K) (b := He.eqO (PySem.W.findIn K (.ref (g_InvalidWay K)) "__getattribute__") (some (some (.builtin "BaseException.__getattribute__")))) bs 0 29)
  have gg_InvalidWay : PySem.W.findIn K (.ref (g_InvalidWay K)) "__getattr__" = some none := He.eqO_ok (allB_at (ls := bsl K) (b := He.eqO (PySem.W.findIn K (.ref (g_InvalidWay K)) "__getattr__") (some none)) bs 1 0)
  have cc_InvalidWay : PySem.W.findIn K (.ref (g_InvalidWay K)) "__class__" = some (some (.builtin "object.__class__")) := He.eqO_ok (allB_at (ls := bsl K) (b := He.eqO (PySem.W.findIn K (.ref (g_InvalidWay K)) "__class__") (some (some (.builtin "object.__class__")))) bs 1 1)
  have mo_InvalidWay : PySem.W.mroIn K (g_InvalidWay K) (.type "object") = some true := of_decide_eq_true (allB_at (ls := bsl K) (b := decide (PySem.W.mroIn K (g_InvalidWay K) (.type "object") = some true)) bs 1 2)
  have ac_Missing : PySem.W.nsIn K mainGlobals "Missing" = some (some (.ref (g_Missing K))) := He.eqO_ok (allB_at (ls := bsl K) (b := He.eqO (PySem.W.nsIn K mainGlobals "Missing") (some (some (.ref (g_Missing K))))) bs 1 3)
  have ac_NothingLeft : PySem.W.nsIn K mainGlobals "NothingLeft" = some (some (.ref (g_NothingLeft K))) := He.eqO_ok (allB_at (ls := bsl K) (b := He.eqO (PySem.W.nsIn K mainGlobals "NothingLeft") (some (some (.ref (g_NothingLeft K))))) bs 1 4)
  have te_InvalidWay : PySem.W.exmAny K (.ref (g_InvalidWay K)) [.ref (g_WalkError K), .ref (g_Missing K), .ref (g_NothingLeft K)] = some true := of_decide_eq_true (allB_at (ls := bsl K) (b := decide (PySem.W.exmAny K (.ref (g_InvalidWay K)) [.ref (g_WalkError K), .ref (g_Missing K), .ref (g_NothingLeft K)] = some true)) bs 1 5)
  have tn_InvalidWay : (partsLast ++ partsCl.flatMap (·.2)).all (fun n => He.eqO (PySem.W.findIn K (.ref (g_InvalidWay K)) n) (some none)) = true := (allB_at (ls := bsl K) (b := (partsLast ++ partsCl.flatMap (·.2)).all (fun n => He.eqO (PySem.W.findIn K (.ref (g_InvalidWay K)) n) (some none))) bs 1 6)
  have tnd : decide ((tabs.map (tabP K)).Nodup) = true := (allB_at (ls := bsl K) (b := decide ((tabs.map (tabP K)).Nodup)) bs 1 7)
  have z_all : PySem.W.nsIn K mainGlobals "all" = some none := He.eqO_ok (allB_at (ls := bsl K) (b := He.eqO (PySem.W.nsIn K mainGlobals "all") (some none)) bs 1 8)
  have z_bool : PySem.W.nsIn K mainGlobals "bool" = some none := He.eqO_ok (allB_at (ls := bsl K) (b := He.eqO (PySem.W.nsIn K mainGlobals "bool") (some none)) bs 1 9)
  have z_int : PySem.W.nsIn K mainGlobals "int" = some none := He.eqO_ok (allB_at (ls := bsl K) (b := He.eqO (PySem.W.nsIn K mainGlobals "int") (some none)) bs 1 10)
  have z_isinstance : PySem.W.nsIn K mainGlobals "isinstance" = some none := He.eqO_ok (allB_at (ls := bsl K) (b := He.eqO (PySem.W.nsIn K mainGlobals "isinstance") (some none)) bs 1 11)
  have z_len : PySem.W.nsIn K mainGlobals "len" = some none := He.eqO_ok (allB_at (ls := bsl K) (b := He.eqO (PySem.W.nsIn K mainGlobals "len") (some none)) bs 1 12)
  have z_list : PySem.W.nsIn K mainGlobals "list" = some none := He.eqO_ok (allB_at (ls := bsl K) (b := He.eqO (PySem.W.nsIn K mainGlobals "list") (some none)) bs 1 13)
  have z_max : PySem.W.nsIn K mainGlobals "max" = some none := He.eqO_ok (allB_at (ls := bsl K) (b := He.eqO (PySem.W.nsIn K mainGlobals "max") (some none)) bs 1 14)
  have z_min : PySem.W.nsIn K mainGlobals "min" = some none := He.eqO_ok (allB_at (ls := bsl K) (b := He.eqO (PySem.W.nsIn K mainGlobals "min") (some none)) bs 1 15)
  have z_range : PySem.W.nsIn K mainGlobals "range" = some none := He.eqO_ok (allB_at (ls := bsl K) (b := He.eqO (PySem.W.nsIn K mainGlobals "range") (some none)) bs 1 16)
  have z_sorted : PySem.W.nsIn K mainGlobals "sorted" = some none := He.eqO_ok (allB_at (ls := bsl K) (b := He.eqO (PySem.W.nsIn K mainGlobals "sorted") (some none)) bs 1 17)
  have z_str : PySem.W.nsIn K mainGlobals "str" = some none := He.eqO_ok (allB_at (ls := bsl K) (b := He.eqO (PySem.W.nsIn K mainGlobals "str") (some none)) bs 1 18)
  have z_sum : PySem.W.nsIn K mainGlobals "sum" = some none := He.eqO_ok (allB_at (ls := bsl K) (b := He.eqO (PySem.W.nsIn K mainGlobals "sum") (some none)) bs 1 19)
  have z_tuple : PySem.W.nsIn K mainGlobals "tuple" = some none := He.eqO_ok (allB_at (ls := bsl K) (b := He.eqO (PySem.W.nsIn K mainGlobals "tuple") (some none)) bs 1 20)
  have z_zip : PySem.W.nsIn K mainGlobals "zip" = some none := He.eqO_ok (allB_at (ls := bsl K) (b := He.eqO (PySem.W.nsIn K mainGlobals "zip") (some none)) bs 1 21)
  have a_WAYS : PySem.W.nsIn K mainGlobals "WAYS" = some (some (.ref (g_WAYS K))) := He.eqO_ok (allB_at (ls := bsl K) (b := He.eqO (PySem.W.nsIn K mainGlobals "WAYS") (some (some (.ref (g_WAYS K))))) bs 1 22)
  have l_WAYS : TupS K (g_WAYS K) ["sum", "greatest", "least", "bag"] := tupB_ok (allB_at (ls := bsl K) (b := tupB K (g_WAYS K) ["sum", "greatest", "least", "bag"]) bs 1 23) (by decide)
  have e := hfa.symm.trans (PySem.W.mg_of X G a_law)
  cases e
  obtain ⟨fd_zdraw, FD_zdraw⟩ := c.def_ 0
  have F_zdraw : Fun K "_law_draw" "_law_draw" s_zdraw (g_law_draw K) fd_zdraw := He5.fun_of FD_zdraw
  have b_zdraw := F_zdraw.binds (ps := ["_law_reel_here", "_law_size"]) fun _ _ _ _ _ _ us hl => match us, hl with | [_, _], _ => rfl
  obtain ⟨fd_znumber, FD_znumber⟩ := c.def_ 1
  have F_znumber : Fun K "_law_number" "_law_number" s_znumber (g_law_number K) fd_znumber := He5.fun_of FD_znumber
  have b_znumber := F_znumber.binds (ps := ["_law_reel_here"]) fun _ _ _ _ _ _ us hl => match us, hl with | [_], _ => rfl
  obtain ⟨fd_zof, FD_zof⟩ := c.def_ 2
  have F_zof : Fun K "_law_of" "_law_of" s_zof (g_law_of K) fd_zof := He5.fun_of FD_zof
  have b_zof := F_zof.binds (ps := ["_law_reel_here", "_law_some"]) fun _ _ _ _ _ _ us hl => match us, hl with | [_, _], _ => rfl
  obtain ⟨fd_zreel, FD_zreel⟩ := c.def_ 3
  have F_zreel : Fun K "_law_reel" "_law_reel" s_zreel (g_law_reel K) fd_zreel := He5.fun_of FD_zreel
  have b_zreel := F_zreel.binds (ps := ["_law_script"]) fun _ _ _ _ _ _ us hl => match us, hl with | [_], _ => rfl
  obtain ⟨fd_zsame, FD_zsame⟩ := c.def_ 4
  have F_zsame : Fun K "_law_same" "_law_same" s_zsame (g_law_same K) fd_zsame := He5.fun_of FD_zsame
  have b_zsame := F_zsame.binds (ps := ["_law_found", "_law_due"]) fun _ _ _ _ _ _ us hl => match us, hl with | [_, _], _ => rfl
  obtain ⟨fd_is_way, FD_is_way⟩ := c.def_ 5
  have F_is_way : Fun K "is_way" "is_way" s_is_way (g_is_way K) fd_is_way := He5.fun_of FD_is_way
  have b_is_way := F_is_way.binds (ps := ["value"]) fun _ _ _ _ _ _ us hl => match us, hl with | [_], _ => rfl
  obtain ⟨fd_measured, FD_measured⟩ := c.def_ 6
  have F_measured : Fun K "measured" "measured" s_measured (g_measured K) fd_measured := He5.fun_of FD_measured
  have b_measured := F_measured.binds (ps := ["way", "numbers"]) fun _ _ _ _ _ _ us hl => match us, hl with | [_, _], _ => rfl
  obtain ⟨fd_law, FD_law⟩ := c.def_ 7
  have F_law : Fun K "law" "law" s_law (g_law K) fd_law := He5.fun_of FD_law
  have b_law := F_law.binds (ps := ["_law_script"]) fun _ _ _ _ _ _ us hl => match us, hl with | [_], _ => rfl
  obtain ⟨fd_zparts, FD_zparts⟩ := c.def_ 8
  have F_zparts : Fun K "_law_parts" "_law_parts" s_zparts (g_law_parts K) fd_zparts := He5.fun_of FD_zparts
  have b_zparts := F_zparts.binds (ps := ["_law_e"]) fun _ _ _ _ _ _ us hl => match us, hl with | [_], _ => rfl
  obtain ⟨fd_ztry, FD_ztry⟩ := c.def_ 9
  have F_ztry : Fun K "_law_try" "_law_try" s_ztry (g_law_try K) fd_ztry := He5.fun_of FD_ztry
  have b_ztry := F_ztry.binds (ps := ["_law_ask"]) fun _ _ _ _ _ _ us hl => match us, hl with | [_], _ => rfl
  obtain ⟨fd_ztries, FD_ztries⟩ := c.def_ 10
  have F_ztries : Fun K "_law_tries" "_law_tries" s_ztries (g_law_tries K) fd_ztries := He5.fun_of FD_ztries
  have b_ztries := F_ztries.binds (ps := ["_law_asks"]) fun _ _ _ _ _ _ us hl => match us, hl with | [_], _ => rfl
  obtain ⟨fd_x_InvalidWay, FD_x_InvalidWay⟩ := c.def_ 11
  have F_x_InvalidWay : Fun K "__init__" "InvalidWay.__init__" s_x_InvalidWay (h_InvalidWay_init K) fd_x_InvalidWay := He5.fun_of FD_x_InvalidWay
  have b_x_InvalidWay := F_x_InvalidWay.binds (ps := ["self", "value"]) fun _ _ _ _ _ _ us hl => match us, hl with | [_, _], _ => rfl
  have xe_InvalidWay : ExcC K (g_InvalidWay K) := ⟨gb_InvalidWay, gg_InvalidWay, xc_InvalidWay, hx_InvalidWay, cc_InvalidWay, gx_s, gx_t, mo_InvalidWay⟩
  have xq_InvalidWay : XfC K (g_InvalidWay K) := ⟨gb_InvalidWay, gg_InvalidWay, xc_InvalidWay, hx_InvalidWay⟩
  have T : Txt K mg ⟨(g_law_draw K), (g_law_number K), (g_law_of K), (g_law_reel K), (g_law_same K), (g_is_way K), (g_measured K), (g_law K)⟩ := ⟨PySem.W.mg_of X G a_zdraw, F_zdraw.kp,
    PySem.W.mg_of X G a_znumber, F_znumber.kp,
    PySem.W.mg_of X G a_zof, F_zof.kp,
    PySem.W.mg_of X G a_zreel, F_zreel.kp,
    PySem.W.mg_of X G a_zsame, F_zsame.kp,
    PySem.W.mg_of X G a_is_way, F_is_way.kp,
    PySem.W.mg_of X G a_measured, F_measured.kp,
    PySem.W.mg_of X G a_law, F_law.kp,
    PySem.W.mg_none_of X G z_all,
    PySem.W.mg_none_of X G z_bool,
    PySem.W.mg_none_of X G z_int,
    PySem.W.mg_none_of X G z_isinstance,
    PySem.W.mg_none_of X G z_len,
    PySem.W.mg_none_of X G z_list,
    PySem.W.mg_none_of X G z_max,
    PySem.W.mg_none_of X G z_min,
    PySem.W.mg_none_of X G z_range,
    PySem.W.mg_none_of X G z_sorted,
    PySem.W.mg_none_of X G z_str,
    PySem.W.mg_none_of X G z_sum,
    PySem.W.mg_none_of X G z_tuple,
    PySem.W.mg_none_of X G z_zip,
    ⟨_, PySem.W.mg_of X G a_WAYS, l_WAYS⟩,
    ⟨(g_WalkError K), tyA K (.ref (g_WalkError K)), PySem.W.mg_of X G ac_WalkError, ⟨cr_w_WalkError, cg_w_WalkError⟩, wf_WalkError, rfl⟩⟩
  obtain ⟨_, _, _, _, _, _, _, _, _, e_law, _⟩ := F_law.ex
  refine ⟨fd_law, fun s v => by rw [e_law]; exact .of_eq rfl, fun base KB GB TBs => ?_⟩
  let d : Ad := ⟨(g_law_draw K), (g_law_number K), (g_law_of K), (g_law_reel K), (g_law_same K), (g_is_way K), (g_measured K), (g_law K)⟩
  have xo_InvalidWay : OexG K (g_InvalidWay K) "ValueError.__new__" "ValueError.__init__" := mkOex lk_lx_InvalidWay F.excBase_ValueError F.store_ValueError (by rfl) sx_InvalidWay xc_InvalidWay tx_InvalidWay kx_InvalidWay
  have G_x_InvalidWay := okX_InvalidWay (P := P) (w := w) (base := base) (d := d) F_x_InvalidWay T
  have XD_InvalidWay : ExcD P w K mg base "InvalidWay" 1 2 (fx1 "value" "InvalidWay") := mkX1 (PySem.W.mg_of X G ac_InvalidWay) xo_InvalidWay vx_InvalidWay i_x_InvalidWay G_x_InvalidWay b_x_InvalidWay nf_InvalidWay_code nf_InvalidWay_value
  have TB_law : LamX.TabB base mg (He.cT K ("law", none)).1 (He.cT K ("law", none)).2 := TBs _ (List.mem_map.mpr ⟨("law", none), List.mem_of_getElem? (i := 0) rfl, rfl⟩)
  have TA : TryA P w K mg xnames := fun base KB GB => ⟨⟨_, _, (g_WalkError K), (g_Missing K),
        (g_NothingLeft K), _, _, s_ztry, PySem.W.mg_of X G a_zparts, F_zparts.kp, b_zparts, parts_ok F_zparts, PySem.W.mg_of X G a_ztry, F_ztry, b_ztry, ⟨rfl, rfl, rfl, by decide +kernel, rfl, by decide +kernel, by decide +kernel⟩, ⟨_, _, _, _, _, _, _, _, _, _, _, _, _, _, _, _, _, _, _, _, _, _, _, rfl⟩, ⟨rfl, rfl, rfl, rfl, rfl, rfl⟩, PySem.W.mg_of X G ac_WalkError, PySem.W.mg_of X G ac_Missing, PySem.W.mg_of X G ac_NothingLeft,
      (tell_cons (mg := mg) (c := "InvalidWay") ⟨(g_InvalidWay K), PySem.W.mg_of X G ac_InvalidWay, te_InvalidWay, ⟨gb_InvalidWay, gg_InvalidWay, xc_InvalidWay, hx_InvalidWay⟩, nf_InvalidWay_code, fun n hn => He.eqO_ok (List.all_eq_true.mp tn_InvalidWay n hn)⟩
      (fun _ z => nomatch z))⟩⟩
  have TL : TriesK K mg := ⟨_, _, s_ztries, _, PySem.W.mg_of X G a_ztries, F_ztries, b_ztries, ⟨rfl, rfl, rfl, by decide +kernel, rfl, by decide +kernel, by decide +kernel⟩, ⟨_, _, _, _, _, _, _, rfl⟩, rfl, blkOk_by rfl, rfl, rfl⟩
  have G_zdraw := okF_zdraw (P := P) (w := w) (base := base) (d := d) F_zdraw T 
  have C_zdraw := FOk.of G_zdraw b_zdraw
  have G_znumber := okF_znumber (P := P) (w := w) (base := base) (d := d) F_znumber T C_zdraw
  have C_znumber := FOk.of G_znumber b_znumber
  have G_zof := okF_zof (P := P) (w := w) (base := base) (d := d) F_zof T C_zdraw
  have C_zof := FOk.of G_zof b_zof
  have G_zreel := okF_zreel (P := P) (w := w) (base := base) (d := d) F_zreel T 
  have C_zreel := FOk.of G_zreel b_zreel
  have G_zsame := okF_zsame (P := P) (w := w) (base := base) (d := d) F_zsame b_zsame T  4
  have C_zsame := FOk.of G_zsame b_zsame
  have G_is_way := okF_is_way (P := P) (w := w) (base := base) (d := d) F_is_way T 
  have C_is_way := FOk.of G_is_way b_is_way
  have G_measured := okF_measured (P := P) (w := w) (base := base) (d := d) F_measured T C_is_way XD_InvalidWay
  have C_measured := FOk.of G_measured b_measured
  have CK0_measured := FOkK.of (ks := ["numbers", "way"]) (π := [1, 0]) G_measured rfl fun s us ws h1 h2 => by obtain ⟨_, _, _, _, _, _, _, _, _, ek, _⟩ := F_measured.ex; rw [ek]; exact match us, ws, h1, h2 with | [], [_, _], _, _ => .of_eq rfl
  have G_law := (okA_law (P := P) (w := w) (base := base) (d := d) F_law T C_zdraw C_znumber C_zof C_zreel C_zsame C_measured CK0_measured TB_law TA TL)
  exact fn_lawM G_law (of_decide_eq_true tnd) law_true
def names : List PySem.Str := (["WalkError", "Missing", "InvalidWay", "NothingLeft", "WAYS", "is_way", "measured", "_law_reel", "_law_draw", "_law_of", "_law_same", "_law_parts", "_law_try", "_law_tries", "_law_number"] : List PySem.Str)
abbrev RR : PySem.W.OpenRow := PySem.W.OpenLaw.row PySem.Challenge.rw_twoabreast_k03_measures
abbrev hk : PySem.W.Hook := hookK dfs (fun K => allB (bsl K)) tbs
abbrev ob : PySem.W.SharedT → AlK := obK dfs (fun K => allB (bsl K)) tbs
theorem run (w : World) : HandSHeadRun.RunEq RR (PySem.W.view RR.prog [18]) hk ob 20000 names w := by
  intro os
  kernel_rfl
end Toy
open PySem PySem.W PySem.Calls PyProof.Rows
set_option maxRecDepth 100000 in
set_option maxHeartbeats 0 in
theorem PySem.Challenge.cw_twoabreast_k03_measures_holds : PySem.Challenge.rw_twoabreast_k03_measures.Holds := by
  w_on; o_law
  refine HandSHeadRun.head_any (r := OpenLaw.row PySem.Challenge.rw_twoabreast_k03_measures) (q := view (OpenLaw.row PySem.Challenge.rw_twoabreast_k03_measures).prog [18]) (H := Toy.hk) (ob := Toy.ob) (M := 20000) (loose := Toy.names) (d := HandSHeadRun.topDef (OpenLaw.row PySem.Challenge.rw_twoabreast_k03_measures).prog 18) (kwd := []) DL.obK_eq
    (by kernel_rfl) (fun s => by kernel_rfl) Toy.run (by kernel_rfl) (by kernel_rfl) (by kernel_rfl) (by rfl) (by first | assumption | decide +kernel) (by decide +kernel) ⟨rfl, rfl, rfl, rfl, rfl, by decide +kernel⟩ ?hw ?hc
  case hw => w_witness2
  case hc =>
    refine LamX.walk_ofTsE (l := PySem.Challenge.rw_twoabreast_k03_measures) (n := 63) (k := 9) (x := "_law_script") (CX := fun w => L2.CX PySem.Challenge.rw_twoabreast_k03_measures.prog w) rfl (by decide) (by kernel_rfl) ⟨rfl, by decide, by decide⟩ ?F (fun w H s e s' z => DL.cx_no H s e s' z)
    intro w mg fa h Y G hmg0
    obtain ⟨K, KX, c⟩ := Y
    have hmg : mg ("law" : PySem.Str) = some (.ref fa) := by
      have e : (HandSHeadRun.topDef (OpenLaw.row PySem.Challenge.rw_twoabreast_k03_measures).prog 18).name = ("law" : PySem.Str) := by kernel_rfl
      rw [← e]
      exact hmg0
    obtain ⟨fd, hb, hF⟩ := Toy.all_mk (P := PySem.Challenge.rw_twoabreast_k03_measures.prog) (w := w) KX G hmg c
    exact ⟨K, KX, fd, Toy.tbs.map (He.cT K), DL.spLawT K Toy.tabs, (fun p hp => let ⟨t, ht, e⟩ := List.mem_map.mp hp; e ▸ c.empty t ht), (fun p hp => let ⟨t, ht, e⟩ := List.mem_map.mp hp; e ▸ c.out t ht), (fun p hp => let ⟨t, ht, e⟩ := List.mem_map.mp hp; e ▸ PySem.W.codeHd_of_K KX (c.hd t ht)), hb,
      fun H a ns hl _ hT hS => ⟨a, ns, rfl, hS, hl, (fun t ht => hT (He.cT K (t.1, none)) (List.mem_map.mpr ⟨(t.1, none), Toy.tbs_of t ht, rfl⟩)), fun _ => rfl⟩, hF⟩

