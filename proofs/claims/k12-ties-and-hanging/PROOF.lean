import PyProof.Rows.All
import Wide.All
import OpenK.AllK
import Wide.FinOn
import HandS.ForMost
import HandS.Exc
import HandS.Wide
import HandS.Deep
import HandS.CallSlots
import HandS.IsInst
import HandS.TupAny
import HandS.ExcOwn
import HandS.WordsExc
import HandS.Ends
import KE.KExcIs
import HandS.Iter
import HandS.Comp
import HandS.Zip
import HandS.More
import HandS.SetFor
import HandS.SortInts
import HandS.WordsDict
import HandS.Small
import PySem.Challenge.RW_standup_k12_ties_and_hanging
set_option Elab.async false
set_option linter.all false
set_option exponentiation.threshold 100000
section
set_option linter.all false
set_option maxRecDepth 100000
/-! Ow1: plain data, results, and how data lies in the layer's heap. -/
namespace Ow
open PySem L2

/-- plain data -/
inductive D where
  | non | bl (b : Bool) | int (i : Int) | str (x : Str) | tup (xs : List D) | lst (xs : List D) | scr (ns : List Int)
  | dI (kvs : List (Int × D)) | dT (kvs : List (List Int × D)) | exc (c : Nat) (xs : List D)

/-- an error: its class's number, what it keeps -/
structure Err where
  c : Nat
  xs : List D
/-- what a piece of code comes to -/
inductive Res (α : Type) where
  | ok (a : α) | exc (e : Err) | stuck
def Res.bind {α β : Type} : Res α → (α → Res β) → Res β
  | .ok a, f => f a
  | .exc e, _ => .exc e
  | .stuck, _ => .stuck
instance : Monad Res where
  pure := .ok
  bind := Res.bind
@[simp] theorem ok_bind {α β : Type} (a : α) (f : α → Res β) : (Res.ok a >>= f) = f a := rfl
@[simp] theorem exc_bind {α β : Type} (e : Err) (f : α → Res β) : ((Res.exc e : Res α) >>= f) = .exc e := rfl
@[simp] theorem stuck_bind {α β : Type} (f : α → Res β) : ((Res.stuck : Res α) >>= f) = .stuck := rfl
@[simp] theorem pure_ok {α : Type} (a : α) : (pure a : Res α) = .ok a := rfl

mutual
def pureD : D → Bool
  | .non => true
  | .bl _ => true
  | .int _ => true
  | .str _ => true
  | .tup xs => pureDs xs
  | .exc _ xs => pureDs xs
  | .lst _ => false
  | .scr _ => false
  | .dI _ => false
  | .dT _ => false
def pureDs : List D → Bool
  | [] => true
  | d :: ds => pureD d && pureDs ds
end

theorem pureD_tup (xs : List D) : pureD (.tup xs) = pureDs xs := by rw [pureD]
theorem pureD_exc (c : Nat) (xs : List D) : pureD (.exc c xs) = pureDs xs := by rw [pureD]
theorem pureD_lst (xs : List D) : pureD (.lst xs) = false := by rw [pureD]
theorem pureD_scr (xs : List Int) : pureD (.scr xs) = false := by rw [pureD]
theorem pureD_dI (xs : List (Int × D)) : pureD (.dI xs) = false := by rw [pureD]
theorem pureD_dT (xs : List (List Int × D)) : pureD (.dT xs) = false := by rw [pureD]
theorem pureD_int (i : Int) : pureD (.int i) = true := by rw [pureD]
theorem pureD_bl (i : Bool) : pureD (.bl i) = true := by rw [pureD]
theorem pureD_non : pureD .non = true := by rw [pureD]
theorem pureD_str (x : Str) : pureD (.str x) = true := by rw [pureD]
theorem pureDs_nil : pureDs [] = true := by rw [pureDs]
theorem pureDs_cons (d : D) (ds : List D) : pureDs (d :: ds) = (pureD d && pureDs ds) := by rw [pureDs]

/-- the classes' places, and the name of what each keeps -/
structure Cl where
  at_ : Nat → Addr
  fld : Nat → Str

/-- an exception object that is held as a value -/
def ExV (cls : Value) (d : Option Addr) (a : Addr) : HO := .ext fun h => ∃ (oe : Obj) (vs : Array Value), h.get? a = some oe ∧ Zc cls d oe ∧ oe.data = .fields vs

/-! ### data in a heap -/
section
variable (K : PySem.W.Frag) (Y : Cl)
mutual
inductive Rep (H : Hp) : V → D → Prop
  | non : Rep H .non .non
  | bl {b : Bool} : Rep H (.bl b) (.bl b)
  | int {i : Int} : Rep H (.int i) (.int i)
  | str {x : Str} : Rep H (.str x) (.str x)
  | tup {p : Addr} {vs : List V} {ds : List D} : SqT K H p vs → Reps H vs ds → Rep H (.ref p) (.tup ds)
  | lst {p : Addr} {vs : List V} {ds : List D} : H p = some (.lst vs) → Reps H vs ds → Rep H (.ref p) (.lst ds)
  | scr {p : Addr} {ns : List Int} : SqL K H p (ns.map V.int) → Rep H (.ref p) (.scr ns)
  | dI {p : Addr} {kvs : List (Key × V)} {ds : List (Int × D)} : H p = some (.dK kvs) → RepI H kvs ds → Rep H (.ref p) (.dI ds)
  | dT {p : Addr} {kvs : List (List Key × V)} {ds : List (List Int × D)} : H p = some (.dT kvs) → RepT H kvs ds → Rep H (.ref p) (.dT ds)
  | exc0 {a : Addr} {c : Nat} : H a = some (ExV (.ref (Y.at_ c)) none a) → Rep H (.ref a) (.exc c [])
  | exc1 {a dd : Addr} {c : Nat} {v : V} {d : D} : H a = some (ExV (.ref (Y.at_ c)) (some dd) a) → H dd = some (.xd [(Y.fld c, v)]) → Rep H v d → Rep H (.ref a) (.exc c [d])
inductive Reps (H : Hp) : List V → List D → Prop
  | nil : Reps H [] []
  | cons {v : V} {d : D} {vs : List V} {ds : List D} : Rep H v d → Reps H vs ds → Reps H (v :: vs) (d :: ds)
inductive RepI (H : Hp) : List (Key × V) → List (Int × D) → Prop
  | nil : RepI H [] []
  | cons {i : Int} {v : V} {d : D} {kvs : List (Key × V)} {ds : List (Int × D)} : Rep H v d → pureD d = true → RepI H kvs ds → RepI H ((.inl i, v) :: kvs) ((i, d) :: ds)
inductive RepT (H : Hp) : List (List Key × V) → List (List Int × D) → Prop
  | nil : RepT H [] []
  | cons {is : List Int} {v : V} {d : D} {kvs : List (List Key × V)} {ds : List (List Int × D)} : Rep H v d → pureD d = true → RepT H kvs ds → RepT H ((is.map .inl, v) :: kvs) ((is, d) :: ds)
end
end

section
variable {K : PySem.W.Frag} {Y : Cl} {H H' : Hp}

theorem Same.sqT {a : Addr} {xs : List V} (e : Same H H') (h : SqT K H a xs) : SqT K H' a xs := by
  rcases h with (h | ⟨o, h⟩) | h
  · exact .inl (.inl (e _ _ h))
  · exact .inl (.inr ⟨o, e _ _ h⟩)
  · exact .inr h

mutual
theorem Rep.mono (e : Same H H') : ∀ {v : V} {d : D}, Rep K Y H v d → Rep K Y H' v d
  | _, _, .non => .non
  | _, _, .bl => .bl
  | _, _, .int => .int
  | _, _, .str => .str
  | _, _, .tup h r => .tup (Same.sqT e h) (Reps.mono e r)
  | _, _, .lst h r => .lst (e _ _ h) (Reps.mono e r)
  | _, _, .scr h => .scr (e.seq h)
  | _, _, .dI h r => .dI (e _ _ h) (RepI.mono e r)
  | _, _, .dT h r => .dT (e _ _ h) (RepT.mono e r)
  | _, _, .exc0 h => .exc0 (e _ _ h)
  | _, _, .exc1 h1 h2 r => .exc1 (e _ _ h1) (e _ _ h2) (Rep.mono e r)
theorem Reps.mono (e : Same H H') : ∀ {vs : List V} {ds : List D}, Reps K Y H vs ds → Reps K Y H' vs ds
  | _, _, .nil => .nil
  | _, _, .cons h r => .cons (Rep.mono e h) (Reps.mono e r)
theorem RepI.mono (e : Same H H') : ∀ {vs : List (Key × V)} {ds : List (Int × D)}, RepI K Y H vs ds → RepI K Y H' vs ds
  | _, _, .nil => .nil
  | _, _, .cons h p r => .cons (Rep.mono e h) p (RepI.mono e r)
theorem RepT.mono (e : Same H H') : ∀ {vs : List (List Key × V)} {ds : List (List Int × D)}, RepT K Y H vs ds → RepT K Y H' vs ds
  | _, _, .nil => .nil
  | _, _, .cons h p r => .cons (Rep.mono e h) p (RepT.mono e r)
end

theorem Reps.length : ∀ {vs : List V} {ds : List D}, Reps K Y H vs ds → vs.length = ds.length
  | _, _, .nil => rfl
  | _, _, .cons _ r => congrArg (· + 1) (Reps.length r)
theorem Reps.get : ∀ {vs : List V} {ds : List D} {i : Nat} {d : D}, Reps K Y H vs ds → ds[i]? = some d → ∃ v, vs[i]? = some v ∧ Rep K Y H v d
  | _, _, i, _, .nil, e => by simp at e
  | v :: _, _, 0, d, .cons h _, e => by
    have e' := Option.some.inj e
    subst e'
    exact ⟨v, rfl, h⟩
  | _, _, i + 1, d, .cons _ r, e => Reps.get (i := i) r e
theorem Reps.append : ∀ {vs ws : List V} {ds es : List D}, Reps K Y H vs ds → Reps K Y H ws es → Reps K Y H (vs ++ ws) (ds ++ es)
  | _, _, _, _, .nil, s => s
  | _, _, _, _, .cons h r, s => .cons h (Reps.append r s)
theorem Reps.take : ∀ (n : Nat) {vs : List V} {ds : List D}, Reps K Y H vs ds → Reps K Y H (vs.take n) (ds.take n)
  | 0, _, _, _ => .nil
  | _ + 1, _, _, .nil => .nil
  | n + 1, _, _, .cons h r => .cons h (Reps.take n r)
theorem Reps.drop : ∀ (n : Nat) {vs : List V} {ds : List D}, Reps K Y H vs ds → Reps K Y H (vs.drop n) (ds.drop n)
  | 0, _, _, r => r
  | _ + 1, _, _, .nil => .nil
  | n + 1, _, _, .cons _ r => Reps.drop n r
theorem Reps.set {v : V} {d : D} (h0 : Rep K Y H v d) : ∀ (i : Nat) {vs : List V} {ds : List D}, Reps K Y H vs ds → Reps K Y H (vs.set i v) (ds.set i d)
  | _, _, _, .nil => .nil
  | 0, _, _, .cons _ r => .cons h0 r
  | i + 1, _, _, .cons h r => .cons h (Reps.set h0 i r)
theorem Reps.eraseIdx : ∀ (i : Nat) {vs : List V} {ds : List D}, Reps K Y H vs ds → Reps K Y H (vs.eraseIdx i) (ds.eraseIdx i)
  | _, _, _, .nil => .nil
  | 0, _, _, .cons _ r => r
  | i + 1, _, _, .cons h r => .cons h (Reps.eraseIdx i r)
theorem Reps.insertIdx {v : V} {d : D} (h0 : Rep K Y H v d) : ∀ (i : Nat) {vs : List V} {ds : List D}, Reps K Y H vs ds → Reps K Y H (vs.insertIdx i v) (ds.insertIdx i d)
  | 0, _, _, r => .cons h0 r
  | i + 1, _, _, .nil => .nil
  | i + 1, _, _, .cons h r => .cons h (Reps.insertIdx h0 i r)
theorem Reps.reverse : ∀ {vs : List V} {ds : List D}, Reps K Y H vs ds → Reps K Y H vs.reverse ds.reverse
  | _, _, .nil => .nil
  | _, _, .cons h r => by
    rw [List.reverse_cons, List.reverse_cons]
    exact (Reps.reverse r).append (.cons h .nil)
theorem Reps.ints : ∀ {vs : List V} (ns : List Int), Reps K Y H vs (ns.map D.int) → vs = ns.map V.int
  | _, [], .nil => rfl
  | _, _ :: ns, .cons .int r => by
    rw [Reps.ints ns r]
    rfl
theorem Reps.of_ints : ∀ (ns : List Int), Reps K Y H (ns.map V.int) (ns.map D.int)
  | [] => .nil
  | _ :: ns => .cons .int (Reps.of_ints ns)

/-! ### what never changes: all but lists, dicts, sets, instances -/
def fixO : HO → Bool
  | .lst _ => false
  | .dK _ => false
  | .dT _ => false
  | .set _ _ => false
  | .ins _ _ _ => false
  | _ => true
/-- what never changes is kept -/
def Fix (H H' : Hp) : Prop := ∀ a o, H a = some o → fixO o = true → H' a = some o
theorem Same.fix (e : Same H H') : Fix H H' := fun a o h _ => e a o h
theorem Fix.sqT {a : Addr} {xs : List V} (e : Fix H H') (h : SqT K H a xs) : SqT K H' a xs := by
  rcases h with (h | ⟨o, h⟩) | h
  · exact .inl (.inl (e _ _ h rfl))
  · exact .inl (.inr ⟨o, e _ _ h rfl⟩)
  · exact .inr h
mutual
theorem Rep.fix (e : Fix H H') : ∀ {v : V} {d : D}, Rep K Y H v d → pureD d = true → Rep K Y H' v d
  | _, _, .non, _ => .non
  | _, _, .bl, _ => .bl
  | _, _, .int, _ => .int
  | _, _, .str, _ => .str
  | _, _, .tup h r, p => .tup (e.sqT h) (Reps.fix e r (by rw [pureD_tup] at p; exact p))
  | _, _, .lst _ _, p => by rw [pureD_lst] at p; cases p
  | _, _, .scr _, p => by rw [pureD_scr] at p; cases p
  | _, _, .dI _ _, p => by rw [pureD_dI] at p; cases p
  | _, _, .dT _ _, p => by rw [pureD_dT] at p; cases p
  | _, _, .exc0 h, _ => .exc0 (e _ _ h rfl)
  | _, _, .exc1 h1 h2 r, p => .exc1 (e _ _ h1 rfl) (e _ _ h2 rfl) (Rep.fix e r (by rw [pureD_exc, pureDs_cons] at p; exact (Bool.and_eq_true_iff.mp p).1))
theorem Reps.fix (e : Fix H H') : ∀ {vs : List V} {ds : List D}, Reps K Y H vs ds → pureDs ds = true → Reps K Y H' vs ds
  | _, _, .nil, _ => .nil
  | _, _, .cons h r, p => by
    rw [pureDs_cons] at p
    have q := Bool.and_eq_true_iff.mp p
    exact .cons (Rep.fix e h q.1) (Reps.fix e r q.2)
end
theorem RepI.fix (e : Fix H H') : ∀ {vs : List (Key × V)} {ds : List (Int × D)}, RepI K Y H vs ds → RepI K Y H' vs ds
  | _, _, .nil => .nil
  | _, _, .cons h p r => .cons (Rep.fix e h p) p (RepI.fix e r)
theorem RepT.fix (e : Fix H H') : ∀ {vs : List (List Key × V)} {ds : List (List Int × D)}, RepT K Y H vs ds → RepT K Y H' vs ds
  | _, _, .nil => .nil
  | _, _, .cons h p r => .cons (Rep.fix e h p) p (RepT.fix e r)
end

/-! ### data that a slot owns: the lists' and dicts' places, each once -/
section
variable (K : PySem.W.Frag) (Y : Cl)
mutual
inductive Own (H : Hp) : V → D → List Addr → Prop
  | pur {v : V} {d : D} : pureD d = true → Rep K Y H v d → Own H v d []
  | tup {p : Addr} {vs : List V} {ds : List D} {fp : List Addr} : SqT K H p vs → Owns H vs ds fp → Own H (.ref p) (.tup ds) fp
  | lst {p : Addr} {vs : List V} {ds : List D} {fp : List Addr} : H p = some (.lst vs) → Owns H vs ds fp → Own H (.ref p) (.lst ds) (p :: fp)
  | dI {p : Addr} {kvs : List (Key × V)} {ds : List (Int × D)} : H p = some (.dK kvs) → RepI K Y H kvs ds → Own H (.ref p) (.dI ds) [p]
  | dT {p : Addr} {kvs : List (List Key × V)} {ds : List (List Int × D)} : H p = some (.dT kvs) → RepT K Y H kvs ds → Own H (.ref p) (.dT ds) [p]
inductive Owns (H : Hp) : List V → List D → List Addr → Prop
  | nil : Owns H [] [] []
  | cons {v : V} {d : D} {vs : List V} {ds : List D} {f g : List Addr} : Own H v d f → Owns H vs ds g → Owns H (v :: vs) (d :: ds) (f ++ g)
end
end
section
variable {K : PySem.W.Frag} {Y : Cl} {H H' : Hp}
mutual
theorem Own.rep : ∀ {v : V} {d : D} {fp : List Addr}, Own K Y H v d fp → Rep K Y H v d
  | _, _, _, .pur _ r => r
  | _, _, _, .tup h r => .tup h (Owns.reps r)
  | _, _, _, .lst h r => .lst h (Owns.reps r)
  | _, _, _, .dI h r => .dI h r
  | _, _, _, .dT h r => .dT h r
theorem Owns.reps : ∀ {vs : List V} {ds : List D} {fp : List Addr}, Owns K Y H vs ds fp → Reps K Y H vs ds
  | _, _, _, .nil => .nil
  | _, _, _, .cons h r => .cons (Own.rep h) (Owns.reps r)
end
mutual
theorem Own.there : ∀ {v : V} {d : D} {fp : List Addr}, Own K Y H v d fp → ∀ p ∈ fp, ∃ o, H p = some o ∧ fixO o = false
  | _, _, _, .pur _ _, p, hp => by cases hp
  | _, _, _, .tup _ r, p, hp => Owns.there r p hp
  | _, _, _, .lst h r, p, hp => by
    rcases List.mem_cons.mp hp with rfl | hp
    · exact ⟨_, h, rfl⟩
    · exact Owns.there r p hp
  | _, _, _, .dI h _, p, hp => by
    have e := List.mem_singleton.mp hp
    subst e
    exact ⟨_, h, rfl⟩
  | _, _, _, .dT h _, p, hp => by
    have e := List.mem_singleton.mp hp
    subst e
    exact ⟨_, h, rfl⟩
theorem Owns.there : ∀ {vs : List V} {ds : List D} {fp : List Addr}, Owns K Y H vs ds fp → ∀ p ∈ fp, ∃ o, H p = some o ∧ fixO o = false
  | _, _, _, .nil, p, hp => by cases hp
  | _, _, _, .cons h r, p, hp => by
    rcases List.mem_append.mp hp with hp | hp
    · exact Own.there h p hp
    · exact Owns.there r p hp
end
mutual
theorem Own.frame (e : Fix H H') : ∀ {v : V} {d : D} {fp : List Addr}, Own K Y H v d fp → (∀ p ∈ fp, H' p = H p) → Own K Y H' v d fp
  | _, _, _, .pur p r, _ => .pur p (Rep.fix e r p)
  | _, _, _, .tup h r, k => .tup (e.sqT h) (Owns.frame e r k)
  | _, _, _, .lst h r, k => .lst ((k _ List.mem_cons_self).trans h) (Owns.frame e r fun p hp => k p (List.mem_cons_of_mem _ hp))
  | _, _, _, .dI h r, k => .dI ((k _ List.mem_cons_self).trans h) (RepI.fix e r)
  | _, _, _, .dT h r, k => .dT ((k _ List.mem_cons_self).trans h) (RepT.fix e r)
theorem Owns.frame (e : Fix H H') : ∀ {vs : List V} {ds : List D} {fp : List Addr}, Owns K Y H vs ds fp → (∀ p ∈ fp, H' p = H p) → Owns K Y H' vs ds fp
  | _, _, _, .nil, _ => .nil
  | _, _, _, .cons h r, k => .cons (Own.frame e h fun p hp => k p (List.mem_append_left _ hp)) (Owns.frame e r fun p hp => k p (List.mem_append_right _ hp))
end
theorem Own.mono (e : Same H H') {v : V} {d : D} {fp : List Addr} (h : Own K Y H v d fp) : Own K Y H' v d fp := h.frame (Same.fix e) fun p hp => by
  obtain ⟨o, ho, _⟩ := h.there p hp
  rw [ho, e p o ho]
theorem Owns.mono (e : Same H H') {v : List V} {d : List D} {fp : List Addr} (h : Owns K Y H v d fp) : Owns K Y H' v d fp := h.frame (Same.fix e) fun p hp => by
  obtain ⟨o, ho, _⟩ := h.there p hp
  rw [ho, e p o ho]
theorem Owns.append : ∀ {vs ws : List V} {ds es : List D} {f g : List Addr}, Owns K Y H vs ds f → Owns K Y H ws es g → Owns K Y H (vs ++ ws) (ds ++ es) (f ++ g)
  | _, _, _, _, _, _, .nil, s => s
  | _, _, _, _, _, _, .cons h r, s => by
    rw [List.append_assoc]
    exact .cons h (Owns.append r s)
theorem Owns.one {v : V} {d : D} {f : List Addr} (h : Own K Y H v d f) : Owns K Y H [v] [d] f := by
  have := Owns.cons h .nil
  rwa [List.append_nil] at this
theorem Owns.pur : ∀ {vs : List V} {ds : List D}, Reps K Y H vs ds → pureDs ds = true → Owns K Y H vs ds []
  | _, _, .nil, _ => .nil
  | _, _, .cons h r, p => by
    rw [pureDs_cons] at p
    have q := Bool.and_eq_true_iff.mp p
    exact .cons (f := []) (g := []) (.pur q.1 h) (Owns.pur r q.2)
theorem pureDs_append : ∀ (xs ys : List D), pureDs (xs ++ ys) = (pureDs xs && pureDs ys)
  | [], ys => by simp [pureDs_nil]
  | x :: xs, ys => by
    rw [List.cons_append, pureDs_cons, pureDs_cons, pureDs_append xs ys, Bool.and_assoc]
theorem pureDs_iff : ∀ {ds : List D}, pureDs ds = true ↔ ∀ d ∈ ds, pureD d = true
  | [] => by simp [pureDs_nil]
  | d :: ds => by
    rw [pureDs_cons, Bool.and_eq_true, pureDs_iff (ds := ds)]
    simp
end
end Ow
end
section
set_option linter.all false
set_option maxRecDepth 100000
set_option maxHeartbeats 1000000
/-! Ow2: expressions: a piece of syntax and the plain function of the slots' data that it comes to. -/
namespace Ow
open PySem L2 PySem.Spec PyProof.Rows

abbrev St := L2.St
/-- the slots' data -/
abbrev En := List (Option D)
def EnOk (K : PySem.W.Frag) (Y : Cl) (H : Hp) (σ : St) (en : En) : Prop := en.length = σ.length ∧ ∀ (i : Nat) (d : D), en[i]? = some (some d) → ∃ v, σ[i]? = some (some v) ∧ Rep K Y H v d
theorem EnOk.mono {K : PySem.W.Frag} {Y : Cl} {H H' : Hp} {σ : St} {en : En} (h : EnOk K Y H σ en) (e : Same H H') : EnOk K Y H' σ en := ⟨h.1, fun i d q => by
  obtain ⟨v, a, b⟩ := h.2 i d q
  exact ⟨v, a, b.mono e⟩⟩
/-- how an error lies behind a raise -/
def ExRep (K : PySem.W.Frag) (Y : Cl) (H : Hp) (e : Err) (cls : Value) (d : Option Addr) : Prop :=
  cls = .ref (Y.at_ e.c) ∧ ((e.xs = [] ∧ d = none) ∨ ∃ x dd v, e.xs = [x] ∧ d = some dd ∧ H dd = some (.xd [(Y.fld e.c, v)]) ∧ Rep K Y H v x)
theorem ExRep.mono {K : PySem.W.Frag} {Y : Cl} {H H' : Hp} {e : Err} {cls : Value} {d : Option Addr} (h : ExRep K Y H e cls d) (s : Same H H') : ExRep K Y H' e cls d := by
  obtain ⟨h1, h2⟩ := h
  refine ⟨h1, ?_⟩
  rcases h2 with h2 | ⟨x, dd, v, a, b, c, r⟩
  · exact .inl h2
  · exact .inr ⟨x, dd, v, a, b, s _ _ c, r.mono s⟩
/-- what is wished of errors: none may come, or by slots -/
abbrev Wh := Option WX
def ExW (K : PySem.W.Frag) (Y : Cl) (W : Wh) (σ : St) (H : Hp) (e : Err) : Prop := ∃ w, W = some w ∧ ∀ cls d H', Same H H' → ExRep K Y H' e cls d → w cls d σ H'
theorem ExW.mono {K : PySem.W.Frag} {Y : Cl} {W : Wh} {σ : St} {H H' : Hp} {e : Err} (s : Same H H') (h : ExW K Y W σ H e) : ExW K Y W σ H' e := by
  obtain ⟨w, a, b⟩ := h
  exact ⟨w, a, fun cls d H'' s' r => b cls d H'' (s.trans s') r⟩
def WPr {α : Type} (K : PySem.W.Frag) (Y : Cl) (W : Wh) (σ : St) (H : Hp) (r : Res α) (Q : α → Prop) : Prop :=
  match r with
  | .ok a => Q a
  | .exc e => ExW K Y W σ H e
  | .stuck => False
section
variable {K : PySem.W.Frag} {Y : Cl} {W : Wh} {σ : St} {H H' : Hp}
theorem WPr.imp {α : Type} {r : Res α} {Q Q' : α → Prop} (h : WPr K Y W σ H r Q) (s : Same H H') (f : ∀ a, Q a → Q' a) : WPr K Y W σ H' r Q' := by
  cases r with
  | ok a => exact f a h
  | exc e => exact ExW.mono s h
  | stuck => exact h
theorem WPr.bind {α β : Type} {r : Res α} {g : α → Res β} {Q : β → Prop} (h : WPr K Y W σ H (r >>= g) Q) : WPr K Y W σ H r fun a => WPr K Y W σ H (g a) Q := by
  cases r with
  | ok a => exact h
  | exc e => exact h
  | stuck => exact h
end

/-- read only (r): a value that stands for the data now. new (n): one that nobody else knows -/
inductive Kd where
  | r | n
def Po (K : PySem.W.Frag) (Y : Cl) (k : Kd) (d : D) (H : Hp) (Q : VK) : Prop :=
  match k with
  | .r => ∀ v H', Same H H' → Rep K Y H' v d → Q v H'
  | .n => ∀ v H' fp, Same H H' → Own K Y H' v d fp → fp.Nodup → (∀ p ∈ fp, H p = none) → Q v H'
section
variable {K : PySem.W.Frag} {Y : Cl} {W : Wh} {σ : St} {H H' : Hp} {k : Kd} {d : D} {Q : VK}
theorem Po.mono (h : Po K Y k d H Q) (s : Same H H') : Po K Y k d H' Q := by
  cases k with
  | r => exact fun v H2 s2 r => h v H2 (s.trans s2) r
  | n => exact fun v H2 fp s2 r nd fr => h v H2 fp (s.trans s2) r nd fun p hp => s.free (fr p hp)
/-- pure data -/
theorem Po.pure {v : V} (h : Po K Y k d H Q) (s : Same H H') (r : Rep K Y H' v d) (p : pureD d = true) : Q v H' := by
  cases k with
  | r => exact h v H' s r
  | n => exact h v H' [] s (.pur p r) .nil (fun _ z => nomatch z)
/-- a reader takes new things too -/
theorem Po.toN (h : Po K Y .r d H Q) : Po K Y .n d H Q := fun v H' fp s r _ _ => h v H' s r.rep
end

def tJ (K : PySem.W.Frag) (Y : Cl) (W : Wh) (k : Kd) (f : En → Res D) : TE := fun σ H Q => ∃ en, EnOk K Y H σ en ∧ WPr K Y W σ H (f en) fun d => Po K Y k d H Q
def J (X : Cx) (Y : Cl) (W : Wh) (k : Kd) (e : Expr) (f : En → Res D) : Prop := PE X e (tJ X.K Y W k f)
def tT (K : PySem.W.Frag) (Y : Cl) (W : Wh) (f : En → Res Bool) : TT := fun σ H Q => ∃ en, EnOk K Y H σ en ∧ WPr K Y W σ H (f en) fun b => ∀ H', Same H H' → Q b H'
def T (X : Cx) (Y : Cl) (W : Wh) (e : Expr) (f : En → Res Bool) : Prop := PT X e (tT X.K Y W f)
def tA (K : PySem.W.Frag) (Y : Cl) (W : Wh) (n : Nat) (f : En → Res (List D)) : TA := fun σ H Q => ∃ en, EnOk K Y H σ en ∧ WPr K Y W σ H (f en) fun ds => ∀ vs H', Same H H' → Reps K Y H' vs ds → vs.length = n → Q vs H'
def A (X : Cx) (Y : Cl) (W : Wh) (es : List Expr) (f : En → Res (List D)) : Prop := PA X es (tA X.K Y W es.length f)

theorem PE.imp {X : Cx} {e : Expr} {t t' : TE} (h : PE X e t) (f : ∀ σ H Q, t' σ H Q → t σ H Q) : PE X e t' := ⟨fun pins s σ H Q I q => h.run pins s σ H Q I (f σ H Q q)⟩
theorem PT.imp {X : Cx} {e : Expr} {t t' : TT} (h : PT X e t) (f : ∀ σ H Q, t' σ H Q → t σ H Q) : PT X e t' := ⟨fun pins s σ H Q I q => h.run pins s σ H Q I (f σ H Q q)⟩
theorem PA.imp {X : Cx} {e : List Expr} {t t' : TA} (h : PA X e t) (f : ∀ σ H Q, t' σ H Q → t σ H Q) : PA X e t' := ⟨fun pos pins s σ H Q I q => h.run pos pins s σ H Q I (f σ H Q q)⟩
theorem PS.imp {X : Cx} {e : Stmt} {t t' : TS} (h : PS X e t) (f : ∀ D σ H, t' D σ H → t D σ H) : PS X e t' := ⟨fun pins s σ H D I q => h.run pins s σ H D I (f D σ H q)⟩
theorem PSs.imp {X : Cx} {e : List Stmt} {t t' : TS} (h : PSs X e t) (f : ∀ D σ H, t' D σ H → t D σ H) : PSs X e t' := ⟨fun pins s σ H D I q => h.run pins s σ H D I (f D σ H q)⟩

/-! ### the functions' words -/
def xVar (i : Nat) : En → Res D := fun en => match en[i]? with
  | some (some d) => .ok d
  | _ => .stuck
def xC (d : D) : En → Res D := fun _ => .ok d
def x2 (op : D → D → Res D) (f g : En → Res D) : En → Res D := fun en => f en >>= fun x => g en >>= fun y => op x y
def x1 (op : D → Res D) (f : En → Res D) : En → Res D := fun en => f en >>= op
/-- new out of pure -/
def xP (f : En → Res D) : En → Res D := fun en => f en >>= fun d => if pureD d = true then .ok d else .stuck
def tBl (f : En → Res D) : En → Res Bool := fun en => f en >>= fun d => match d with
  | .bl b => .ok b
  | _ => .stuck
def tAn (f g : En → Res Bool) : En → Res Bool := fun en => f en >>= fun b => if b = true then g en else .ok false
def tOr' (f g : En → Res Bool) : En → Res Bool := fun en => f en >>= fun b => if b = true then .ok true else g en
def tNo (f : En → Res Bool) : En → Res Bool := fun en => f en >>= fun b => .ok (!b)
def aNil : En → Res (List D) := fun _ => .ok []
def aCons (f : En → Res D) (g : En → Res (List D)) : En → Res (List D) := fun en => f en >>= fun d => g en >>= fun ds => .ok (d :: ds)

section
variable {X : Cx} {Y : Cl} {W : Wh} {k : Kd} {a b c : Expr} {fa fb fc : En → Res D} {pos : Pos}

theorem j_var (i : Nat) {x : Str} {pos : Pos} (hN : X.N[i]? = some x := by rfl) (hv : Vis X.env.scope x := by first | exact Or.inl rfl | exact Or.inr (Or.inl rfl) | exact Or.inr (Or.inr rfl)) (hd : (x == ("__debug__" : Str)) = false := by decide)
    (hcd : (x == ("__classdict__" : Str)) = false := by decide) : J X Y W .r (.Name x pos) (xVar i) :=
  PE.imp (pe_var hN hv hd hcd) fun σ H Q ⟨en, he, h⟩ => by
    unfold xVar at h
    cases q : en[i]? with
    | none =>
      simp only [q] at h
      exact h.elim
    | some o =>
      cases o with
      | none =>
        simp only [q] at h
        exact h.elim
      | some d =>
        simp only [q] at h
        obtain ⟨v, hv, r⟩ := he.2 i d q
        exact ⟨v, hv, h v H (Same.refl H) r⟩
theorem j_int {i j pos} : J X Y W k (.Constant (.int i) j pos) (xC (.int i)) := PE.imp pe_int fun σ H Q ⟨en, he, h⟩ => Po.pure h (Same.refl H) .int (pureD_int i)
theorem j_bl {i j pos} : J X Y W k (.Constant (.bool i) j pos) (xC (.bl i)) := PE.imp pe_bl fun σ H Q ⟨en, he, h⟩ => Po.pure h (Same.refl H) .bl (pureD_bl i)
theorem j_non {j pos} : J X Y W k (.Constant .none j pos) (xC .non) := PE.imp pe_non fun σ H Q ⟨en, he, h⟩ => Po.pure h (Same.refl H) .non pureD_non
theorem j_str {x j pos} : J X Y W k (.Constant (.str x) j pos) (xC (.str x)) := PE.imp pe_str fun σ H Q ⟨en, he, h⟩ => Po.pure h (Same.refl H) .str (pureD_str x)
theorem j_n (h : J X Y W .n a fa) : J X Y W .r a fa := PE.imp h fun σ H Q ⟨en, he, h⟩ => ⟨en, he, h.imp (Same.refl H) fun d p => p.toN⟩
theorem j_p (h : J X Y W .r a fa) : J X Y W .n a (xP fa) := PE.imp h fun σ H Q ⟨en, he, h⟩ => ⟨en, he, (WPr.bind h).imp (Same.refl H) fun d p => by
  by_cases hd : pureD d = true
  · rw [if_pos hd] at p
    exact fun v H' s r => p v H' [] s (.pur hd r) .nil (fun _ z => nomatch z)
  · rw [if_neg hd] at p
    exact p.elim⟩
/-- pure data of known form -/
theorem j_pure (h : J X Y W .r a fa) (hp : ∀ en d, fa en = .ok d → pureD d = true) : J X Y W .n a fa := PE.imp h fun σ H Q ⟨en, he, h⟩ => ⟨en, he, by
  cases e : fa en with
  | ok d =>
    rw [e] at h
    exact fun v H' s r => h v H' [] s (.pur (hp en d e) r) .nil (fun _ z => nomatch z)
  | exc x => rw [e] at h; exact h
  | stuck => rw [e] at h; exact h⟩

/-- an operation by values is the plain one -/
def Op2 (K : PySem.W.Frag) (Y : Cl) (k : Kd) (r : R2) (op : D → D → Res D) : Prop := ∀ (H : Hp) (x y : V) (d e : D) (Q : VK), Rep K Y H x d → Rep K Y H y e → (∃ z, op d e = .ok z ∧ Po K Y k z H Q) → r x y H Q
def Op1 (K : PySem.W.Frag) (Y : Cl) (k : Kd) (r : V → Hp → VK → Prop) (op : D → Res D) : Prop := ∀ (H : Hp) (x : V) (d : D) (Q : VK), Rep K Y H x d → (∃ z, op d = .ok z ∧ Po K Y k z H Q) → r x H Q
/-- operations raise nothing -/
def Calm2 (op : D → D → Res D) : Prop := ∀ d e x, op d e ≠ .exc x
def Calm1 (op : D → Res D) : Prop := ∀ d x, op d ≠ .exc x
theorem WPr.calm {K : PySem.W.Frag} {α : Type} {σ : St} {H : Hp} {r : Res α} {Q : α → Prop} (hc : ∀ x, r ≠ .exc x) (h : WPr K Y W σ H r Q) : ∃ z, r = .ok z ∧ Q z := by
  cases r with
  | ok z => exact ⟨z, rfl, h⟩
  | exc e => exact absurd rfl (hc e)
  | stuck => exact h.elim
theorem two {σ : St} {H : Hp} {Q : VK} {op : D → D → Res D} {r : R2} (hr : Op2 X.K Y k r op) (hc : Calm2 op) (h : tJ X.K Y W k (x2 op fa fb) σ H Q) : tJ X.K Y W .r fa σ H fun x H1 => tJ X.K Y W .r fb σ H1 fun y H2 => r x y H2 Q := by
  obtain ⟨en, he, h⟩ := h
  refine ⟨en, he, (WPr.bind h).imp (Same.refl H) fun d p => ?_⟩
  intro v H1 s1 r1
  refine ⟨en, he.mono s1, (WPr.bind p).imp s1 fun e q => ?_⟩
  intro y H2 s2 r2
  obtain ⟨z, ez, pz⟩ := WPr.calm (hc d e) q
  exact hr H2 v y d e Q (r1.mono s2) r2 ⟨z, ez, pz.mono (s1.trans s2)⟩
theorem j_op {op : Operator} {r : R2} {o : D → D → Res D} (ho : OpR X (binaryOp op) r) (hr : Op2 X.K Y k r o) (hc : Calm2 o) (ha : J X Y W .r a fa) (hb : J X Y W .r b fb) : J X Y W k (.BinOp a op b pos) (x2 o fa fb) :=
  PE.imp (pe_op ho ha hb) fun σ H Q h => two hr hc h
theorem j_cmp {op : CmpOp} {r : R2} {o : D → D → Res D} (ho : OpR X (compareOp op) r) (hr : Op2 X.K Y k r o) (hc : Calm2 o) (ha : J X Y W .r a fa) (hb : J X Y W .r b fb) (hm : behindInMarks op b = false) : J X Y W k (.Compare a [op] [b] pos) (x2 o fa fb) :=
  PE.imp (pe_cmpR ho ha hb hm) fun σ H Q h => two hr hc h
theorem t_cmp {op : CmpOp} {r : R2} {o : D → D → Res D} (ho : OpR X (compareOp op) r) (hr : Op2 X.K Y .r r o) (hc : Calm2 o) (ha : J X Y W .r a fa) (hb : J X Y W .r b fb) (hm : behindInMarks op b = false) : T X Y W (.Compare a [op] [b] pos) (tBl (x2 o fa fb)) :=
  PT.imp (pt_cmpR ho ha hb hm) fun σ H Q ⟨en, he, h⟩ => by
    refine two hr hc ⟨en, he, (WPr.bind h).imp (Same.refl H) fun d p => ?_⟩
    intro v H' s r
    cases r with
    | bl => exact ⟨_, rfl, p H' s⟩
    | _ => exact p.elim
theorem j_un {op : UnaryOp} {r : V → Hp → VK → Prop} {o : D → Res D} (ho : UnR X (unaryOp op) r) (hr : Op1 X.K Y k r o) (hc : Calm1 o) (ha : J X Y W .r a fa) : J X Y W k (.UnaryOp op a pos) (x1 o fa) :=
  PE.imp (pe_un ho ha) fun σ H Q ⟨en, he, h⟩ => ⟨en, he, (WPr.bind h).imp (Same.refl H) fun d p => by
    intro v H1 s1 r1
    obtain ⟨z, ez, pz⟩ := WPr.calm (hc d) p
    exact hr H1 v d Q r1 ⟨z, ez, pz.mono s1⟩⟩
theorem j_ix {r : R2} {o : D → D → Res D} (hi : IxR X r) (hr : Op2 X.K Y k r o) (hc : Calm2 o) (ha : J X Y W .r a fa) (hb : J X Y W .r b fb) (hs : PlainIx b) : J X Y W k (.Subscript a b pos) (x2 o fa fb) :=
  PE.imp (pe_ix hi ha hb hs) fun σ H Q h => two hr hc h

/-! ### tests -/
variable {ga gb : En → Res Bool} {rest : List Expr}
theorem t_val {e : Expr} (h : J X Y W .r e fa) (he : ∀ whole, isTrue e X.env whole = (do let v ← whole; standAt e.pos; holding [v] (truthy v)) := by intro _; rfl) : T X Y W e (tBl fa) :=
  PT.imp (pt_val h he) fun σ H Q ⟨en, he, h⟩ => ⟨en, he, (WPr.bind h).imp (Same.refl H) fun d p => by
    intro v H' s r
    cases r with
    | bl => exact ⟨_, rfl, p H' s⟩
    | _ => exact p.elim⟩
def Tw (X : Cx) (Y : Cl) (W : Wh) (e : Expr) (f : En → Res Bool) : Prop := PW X e (tT X.K Y W f)
theorem PW.imp {X : Cx} {e : Expr} {t t' : TT} (h : PW X e t) (f : ∀ σ H Q, t' σ H Q → t σ H Q) : PW X e t' := ⟨fun wh pins s σ H Q I q => h.run wh pins s σ H Q I (f σ H Q q)⟩
theorem t_w {e : Expr} (h : Tw X Y W e ga) : T X Y W e ga := PW.pt h
theorem w_and1 (h : T X Y W a ga) : Tw X Y W (.BoolOp .And [a] pos) ga := pw_and1 h
theorem w_or1 (h : T X Y W a ga) : Tw X Y W (.BoolOp .Or [a] pos) ga := pw_or1 h
theorem w_and (ha : T X Y W a ga) (hb : Tw X Y W (.BoolOp .And (b :: rest) pos) gb) : Tw X Y W (.BoolOp .And (a :: b :: rest) pos) (tAn ga gb) :=
  PW.imp (pw_and ha hb) fun σ H Q ⟨en, he, h⟩ => ⟨en, he, (WPr.bind h).imp (Same.refl H) fun c p => by
    intro H' s
    cases c with
    | true =>
      rw [if_pos rfl] at p ⊢
      exact ⟨en, he.mono s, p.imp s fun b q H2 s2 => q H2 (s.trans s2)⟩
    | false =>
      rw [if_neg Bool.false_ne_true] at p ⊢
      exact p H' s⟩
theorem w_or (ha : T X Y W a ga) (hb : Tw X Y W (.BoolOp .Or (b :: rest) pos) gb) : Tw X Y W (.BoolOp .Or (a :: b :: rest) pos) (tOr' ga gb) :=
  PW.imp (pw_or ha hb) fun σ H Q ⟨en, he, h⟩ => ⟨en, he, (WPr.bind h).imp (Same.refl H) fun c p => by
    intro H' s
    cases c with
    | false =>
      rw [if_neg Bool.false_ne_true] at p ⊢
      exact ⟨en, he.mono s, p.imp s fun b q H2 s2 => q H2 (s.trans s2)⟩
    | true =>
      rw [if_pos rfl] at p ⊢
      exact p H' s⟩
theorem t_not (ha : T X Y W a ga) : T X Y W (.UnaryOp .Not a pos) (tNo ga) :=
  PT.imp (pt_not ha) fun σ H Q ⟨en, he, h⟩ => ⟨en, he, (WPr.bind h).imp (Same.refl H) fun c p H' s => p H' s⟩
/-- and, or, not as values: the operands bools -/
def xAn (f g : En → Res D) : En → Res D := fun en => f en >>= fun d => match d with
  | .bl b => if b = true then g en else .ok (.bl false)
  | _ => .stuck
def xOr (f g : En → Res D) : En → Res D := fun en => f en >>= fun d => match d with
  | .bl b => if b = true then .ok (.bl true) else g en
  | _ => .stuck
def xNo (f : En → Res D) : En → Res D := fun en => f en >>= fun d => match d with
  | .bl b => .ok (.bl (!b))
  | _ => .stuck
theorem j_one {op} (h : J X Y W k a fa) : J X Y W k (.BoolOp op [a] pos) fa := pe_one h
theorem j_and (ha : J X Y W .r a fa) (hb : J X Y W k (.BoolOp .And (b :: rest) pos) fb) : J X Y W k (.BoolOp .And (a :: b :: rest) pos) (xAn fa fb) :=
  PE.imp (pe_and ha hb) fun σ H Q ⟨en, he, h⟩ => ⟨en, he, (WPr.bind h).imp (Same.refl H) fun d p => by
    intro v H' s r
    cases r with
    | @bl c =>
      refine ⟨c, rfl, ?_⟩
      cases c with
      | true =>
        rw [if_pos rfl]
        exact ⟨en, he.mono s, WPr.imp (show WPr X.K Y W σ H (fb en) _ from p) s fun d q => q.mono s⟩
      | false =>
        rw [if_neg Bool.false_ne_true]
        exact Po.pure (show Po X.K Y k (.bl false) H Q from p) s .bl (pureD_bl _)
    | _ => exact p.elim⟩
theorem j_or (ha : J X Y W .r a fa) (hb : J X Y W k (.BoolOp .Or (b :: rest) pos) fb) : J X Y W k (.BoolOp .Or (a :: b :: rest) pos) (xOr fa fb) :=
  PE.imp (pe_or ha hb) fun σ H Q ⟨en, he, h⟩ => ⟨en, he, (WPr.bind h).imp (Same.refl H) fun d p => by
    intro v H' s r
    cases r with
    | @bl c =>
      refine ⟨c, rfl, ?_⟩
      cases c with
      | false =>
        rw [if_neg Bool.false_ne_true]
        exact ⟨en, he.mono s, WPr.imp (show WPr X.K Y W σ H (fb en) _ from p) s fun d q => q.mono s⟩
      | true =>
        rw [if_pos rfl]
        exact Po.pure (show Po X.K Y k (.bl true) H Q from p) s .bl (pureD_bl _)
    | _ => exact p.elim⟩
theorem j_not (ha : J X Y W .r a fa) : J X Y W k (.UnaryOp .Not a pos) (xNo fa) :=
  PE.imp (pe_not ha) fun σ H Q ⟨en, he, h⟩ => ⟨en, he, (WPr.bind h).imp (Same.refl H) fun d p => by
    intro v H' s r
    cases r with
    | @bl c => exact ⟨c, rfl, Po.pure (show Po X.K Y k (.bl (!c)) H Q from p) s .bl (pureD_bl _)⟩
    | _ => exact p.elim⟩
def xIf (t : En → Res Bool) (f g : En → Res D) : En → Res D := fun en => t en >>= fun b => if b = true then f en else g en
theorem j_if (hc : T X Y W c ga) (ha : J X Y W k a fa) (hb : J X Y W k b fb) : J X Y W k (.IfExp c a b pos) (xIf ga fa fb) :=
  PE.imp (pe_ifExp hc ha hb) fun σ H Q ⟨en, he, h⟩ => ⟨en, he, (WPr.bind h).imp (Same.refl H) fun d p H' s => by
    cases d with
    | true =>
      rw [if_pos rfl] at p ⊢
      exact ⟨en, he.mono s, p.imp s fun d q => q.mono s⟩
    | false =>
      rw [if_neg Bool.false_ne_true] at p ⊢
      exact ⟨en, he.mono s, p.imp s fun d q => q.mono s⟩⟩

/-! ### arguments, displays -/
variable {es : List Expr} {fs : En → Res (List D)}
theorem a_nil : A X Y W [] aNil := PA.imp pa_nil fun σ H Q ⟨en, he, h⟩ => h [] H (Same.refl H) .nil rfl
theorem a_cons (ha : J X Y W .r a fa) (hr : A X Y W es fs) (hs : starEach (a :: es) X.env = (false, eval a X.env) :: starEach es X.env := by rfl) : A X Y W (a :: es) (aCons fa fs) :=
  PA.imp (pa_cons ha hr hs) fun σ H Q ⟨en, he, h⟩ => ⟨en, he, (WPr.bind h).imp (Same.refl H) fun d p => by
    intro v H1 s1 r1
    refine ⟨en, he.mono s1, (WPr.bind p).imp s1 fun ds q => ?_⟩
    intro vs H2 s2 r2 l2
    exact q (v :: vs) H2 (s1.trans s2) (.cons (r1.mono s2) r2) (congrArg (· + 1) l2)⟩
/-- arguments that are new, each with its places -/
def tAn' (K : PySem.W.Frag) (Y : Cl) (W : Wh) (f : En → Res (List D)) : TA := fun σ H Q => ∃ en, EnOk K Y H σ en ∧ WPr K Y W σ H (f en) fun ds => ∀ vs H' fp, Same H H' → Owns K Y H' vs ds fp → fp.Nodup → (∀ p ∈ fp, H p = none) → Q vs H'
def An (X : Cx) (Y : Cl) (W : Wh) (es : List Expr) (f : En → Res (List D)) : Prop := PA X es (tAn' X.K Y W f)
theorem an_nil : An X Y W [] aNil := PA.imp pa_nil fun σ H Q ⟨en, he, h⟩ => h [] H [] (Same.refl H) .nil .nil (fun _ z => nomatch z)
theorem an_cons (ha : J X Y W .n a fa) (hr : An X Y W es fs) (hs : starEach (a :: es) X.env = (false, eval a X.env) :: starEach es X.env := by rfl) : An X Y W (a :: es) (aCons fa fs) :=
  PA.imp (pa_cons ha hr hs) fun σ H Q ⟨en, he, h⟩ => ⟨en, he, (WPr.bind h).imp (Same.refl H) fun d p => by
    intro v H1 f1 s1 r1 n1 e1
    refine ⟨en, he.mono s1, (WPr.bind p).imp s1 fun ds q => ?_⟩
    intro vs H2 f2 s2 r2 n2 e2
    refine q (v :: vs) H2 (f1 ++ f2) (s1.trans s2) (.cons (r1.mono s2) r2) ?_ ?_
    · refine List.nodup_append.mpr ⟨n1, n2, fun x hx y hy z => ?_⟩
      subst z
      obtain ⟨o, ho, _⟩ := r1.there x hx
      rw [e2 x hy] at ho
      cases ho
    · intro x hx
      rcases List.mem_append.mp hx with hx | hx
      · exact e1 x hx
      · exact s1.free (e2 x hx)⟩
def szOk (n : Nat) : Bool := decide (n ≤ 16777215)
theorem szOk_le {n : Nat} (h : szOk n = true) : n ≤ sizeLine := by
  have := of_decide_eq_true h
  rw [sizeLine_eq]
  omega
theorem szOk_lt {n : Nat} (h : szOk n = true) : n < sizeLine := by
  have := of_decide_eq_true h
  rw [sizeLine_eq]
  omega
def xTup (f : En → Res (List D)) : En → Res D := fun en => f en >>= fun ds => if szOk ds.length = true then .ok (.tup ds) else .stuck
def xLst (f : En → Res (List D)) : En → Res D := fun en => f en >>= fun ds => if szOk ds.length = true then .ok (.lst ds) else .stuck
theorem Owns.length {K : PySem.W.Frag} {H : Hp} {vs : List V} {ds : List D} {fp : List Addr} (h : Owns K Y H vs ds fp) : vs.length = ds.length := h.reps.length
theorem j_tup {x1} (h : A X Y W es fs) : J X Y W .r (.Tuple es x1 pos) (xTup fs) :=
  PE.imp (pe_tup h) fun σ H Q ⟨en, he, h⟩ => ⟨en, he, (WPr.bind h).imp (Same.refl H) fun ds p => by
    intro vs H' s r _
    by_cases hz : szOk ds.length = true
    · rw [if_pos hz] at p
      refine ⟨by rw [r.length]; exact szOk_le hz, fun q hq => ?_⟩
      have s2 : Same H' (upd H' q (.tup vs)) := fun b o e => by rw [upd_ne (ne_of_none e hq)]; exact e
      exact p (.ref q) _ (s.trans s2) (.tup (SqT.of upd_same) (r.mono s2))
    · rw [if_neg hz] at p
      exact p.elim⟩
theorem jn_tup {x1} (h : An X Y W es fs) : J X Y W .n (.Tuple es x1 pos) (xTup fs) :=
  PE.imp (pe_tup h) fun σ H Q ⟨en, he, h⟩ => ⟨en, he, (WPr.bind h).imp (Same.refl H) fun ds p => by
    intro vs H' fp s r nd fr
    by_cases hz : szOk ds.length = true
    · rw [if_pos hz] at p
      refine ⟨by rw [r.length]; exact szOk_le hz, fun q hq => ?_⟩
      have s2 : Same H' (upd H' q (.tup vs)) := fun b o e => by rw [upd_ne (ne_of_none e hq)]; exact e
      exact p (.ref q) _ fp (s.trans s2) (.tup (SqT.of upd_same) (r.mono s2)) nd fr
    · rw [if_neg hz] at p
      exact p.elim⟩
theorem j_lst (h : A X Y W es fs) : J X Y W .r (.List es pos) (xLst fs) :=
  PE.imp (pe_lst h) fun σ H Q ⟨en, he, h⟩ => ⟨en, he, (WPr.bind h).imp (Same.refl H) fun ds p => by
    intro vs H' s r _
    by_cases hz : szOk ds.length = true
    · rw [if_pos hz] at p
      refine ⟨by rw [r.length]; exact szOk_le hz, fun q hq => ?_⟩
      have s2 : Same H' (upd H' q (.lst vs)) := fun b o e => by rw [upd_ne (ne_of_none e hq)]; exact e
      exact p (.ref q) _ (s.trans s2) (.lst upd_same (r.mono s2))
    · rw [if_neg hz] at p
      exact p.elim⟩
theorem jn_lst (h : An X Y W es fs) : J X Y W .n (.List es pos) (xLst fs) :=
  PE.imp (pe_lst h) fun σ H Q ⟨en, he, h⟩ => ⟨en, he, (WPr.bind h).imp (Same.refl H) fun ds p => by
    intro vs H' fp s r nd fr
    by_cases hz : szOk ds.length = true
    · rw [if_pos hz] at p
      refine ⟨by rw [r.length]; exact szOk_le hz, fun q hq => ?_⟩
      have s2 : Same H' (upd H' q (.lst vs)) := fun b o e => by rw [upd_ne (ne_of_none e hq)]; exact e
      refine p (.ref q) _ (q :: fp) (s.trans s2) (.lst upd_same (r.mono s2)) ?_ ?_
      · refine List.nodup_cons.mpr ⟨fun hm => ?_, nd⟩
        obtain ⟨o, ho, _⟩ := r.there q hm
        rw [hq] at ho
        cases ho
      · intro x hx
        rcases List.mem_cons.mp hx with rfl | hx
        · exact s.free hq
        · exact fr x hx
    · rw [if_neg hz] at p
      exact p.elim⟩
end
end Ow
end
section
set_option linter.all false
set_option maxRecDepth 100000
set_option maxHeartbeats 1000000
/-! Ow3: the operations. -/
namespace Ow
open PySem L2 PySem.Spec
theorem opI' {X : Cx} {f : Value → Value → Sem Value} {C : Int → Int → Prop} {g : Int → Int → Int}
    (rule : ∀ (i j : Int) (t u : Tok) (s : Shared) (Q : Value → Shared → Prop) (E : Value → Shared → Prop), C i j → Q (.int (g i j) s.toks) { s with toks := s.toks + 1 } → wpAny (model X.prog X.w) X.A (f (.int i t) (.int j u)) Q E s) :
    OpR X f (rI C fun i j => .int (g i j)) := opI rule
def CDivZ (_ j : Int) : Prop := j ≠ 0 ∧ j.natAbs.log2 < 9000
theorem op_fdivZ {X : Cx} : OpR X (binaryOp .FloorDiv) (rI CDivZ fun i j => .int (i.fdiv j)) := opI fun i j _ _ _ _ _ hc q =>
  PyProof.Rows.floordiv_int hc.1 q (.inl (PyProof.noPylong_of_log2 hc.2))

/-- two ints -/
def oI (c : Int → Int → Bool) (g : Int → Int → D) : D → D → Res D
  | .int i, .int j => if c i j = true then .ok (g i j) else .stuck
  | _, _ => .stuck
theorem oI_calm (c : Int → Int → Bool) (g : Int → Int → D) : Calm2 (oI c g) := fun d e x => by
  unfold oI
  split
  · split <;> exact fun h => nomatch h
  · exact fun h => nomatch h
section
variable {K : PySem.W.Frag} {Y : Cl} {k : Kd}
theorem op2_I {C : Int → Int → Prop} {c : Int → Int → Bool} {g : Int → Int → V} {gd : Int → Int → D} (hc : ∀ i j, c i j = true → C i j) (hg : ∀ i j H, Rep K Y H (g i j) (gd i j)) (hp : ∀ i j, pureD (gd i j) = true) : Op2 K Y k (rI C g) (oI c gd) := by
  intro H x y d e Q rx ry ⟨z, hz, po⟩
  unfold oI at hz
  split at hz
  · split at hz
    · rename_i i j h
      cases hz
      cases rx
      cases ry
      exact ⟨i, j, rfl, rfl, hc i j h, po.pure (Same.refl H) (hg i j H) (hp i j)⟩
    · cases hz
  · cases hz
theorem op2_I0 {g : Int → Int → V} {gd : Int → Int → D} (hg : ∀ i j H, Rep K Y H (g i j) (gd i j)) (hp : ∀ i j, pureD (gd i j) = true) : Op2 K Y k (rI0 g) (oI (fun _ _ => true) gd) := by
  intro H x y d e Q rx ry ⟨z, hz, po⟩
  unfold oI at hz
  split at hz
  · rename_i i j
    rw [if_pos rfl] at hz
    cases hz
    cases rx
    cases ry
    exact ⟨i, j, rfl, rfl, po.pure (Same.refl H) (hg i j H) (hp i j)⟩
  · cases hz
end
abbrev iI (f : Int → Int → Int) : Int → Int → D := fun i j => .int (f i j)
abbrev iB (f : Int → Int → Bool) : Int → Int → D := fun i j => .bl (f i j)
def tru2 : Int → Int → Bool := fun _ _ => true
def cMul (i j : Int) : Bool := decide (i.natAbs.log2 + j.natAbs.log2 < 1000000)
def cDiv (_ j : Int) : Bool := decide (j ≠ 0) && decide (j.natAbs.log2 < 9000)
def cMod (_ j : Int) : Bool := decide (j ≠ 0)
def cPow (i j : Int) : Bool := decide (0 ≤ j) && (decide (j ≤ 1000000) && decide (i.natAbs < 18446744073709551616))
def oAdd := oI (fun _ _ => true) (iI (· + ·))
def oSub := oI (fun _ _ => true) (iI (· - ·))
def oMul := oI cMul (iI (· * ·))
def oDiv := oI cDiv (iI Int.fdiv)
def oMod := oI cMod (iI Int.fmod)
def oPow := oI cPow (iI fun i j => i ^ j.toNat)
def oLt := oI (fun _ _ => true) (iB fun i j => decide (i < j))
def oLe := oI (fun _ _ => true) (iB fun i j => decide (i ≤ j))
def oGt := oI (fun _ _ => true) (iB fun i j => decide (j < i))
def oGe := oI (fun _ _ => true) (iB fun i j => decide (j ≤ i))
section
variable {X : Cx} {Y : Cl} {W : Wh} {k : Kd} {a b : Expr} {fa fb : En → Res D} {pos : Pos}
theorem rI_ints {K : PySem.W.Frag} {H : Hp} (g : Int → Int → Int) : ∀ i j, Rep K Y H (.int (g i j)) (.int (g i j)) := fun _ _ => .int
theorem j_add (ha : J X Y W .r a fa) (hb : J X Y W .r b fb) : J X Y W k (.BinOp a .Add b pos) (x2 oAdd fa fb) := j_op op_add (op2_I0 (fun _ _ _ => .int) fun _ _ => pureD_int _) (oI_calm _ _) ha hb
theorem j_sub (ha : J X Y W .r a fa) (hb : J X Y W .r b fb) : J X Y W k (.BinOp a .Sub b pos) (x2 oSub fa fb) := j_op op_sub (op2_I0 (fun _ _ _ => .int) fun _ _ => pureD_int _) (oI_calm _ _) ha hb
theorem j_mul (ha : J X Y W .r a fa) (hb : J X Y W .r b fb) : J X Y W k (.BinOp a .Mult b pos) (x2 oMul fa fb) :=
  j_op op_mulW (op2_I (fun i j h => (of_decide_eq_true h : i.natAbs.log2 + j.natAbs.log2 < 1000000)) (fun _ _ _ => .int) fun _ _ => pureD_int _) (oI_calm _ _) ha hb
theorem j_div (ha : J X Y W .r a fa) (hb : J X Y W .r b fb) : J X Y W k (.BinOp a .FloorDiv b pos) (x2 oDiv fa fb) :=
  j_op op_fdivZ (op2_I (fun i j h => by
    have h' := Bool.and_eq_true_iff.mp h
    exact ⟨of_decide_eq_true h'.1, of_decide_eq_true h'.2⟩) (fun _ _ _ => .int) fun _ _ => pureD_int _) (oI_calm _ _) ha hb
theorem j_mod (ha : J X Y W .r a fa) (hb : J X Y W .r b fb) : J X Y W k (.BinOp a .Mod b pos) (x2 oMod fa fb) :=
  j_op op_modN (op2_I (fun i j h => of_decide_eq_true h) (fun _ _ _ => .int) fun _ _ => pureD_int _) (oI_calm _ _) ha hb
theorem j_pow (ha : J X Y W .r a fa) (hb : J X Y W .r b fb) : J X Y W k (.BinOp a .Pow b pos) (x2 oPow fa fb) :=
  j_op op_pow (op2_I (fun i j h => by
    have h' := Bool.and_eq_true_iff.mp h
    have h2 := Bool.and_eq_true_iff.mp h'.2
    exact ⟨of_decide_eq_true h'.1, of_decide_eq_true h2.1, of_decide_eq_true h2.2⟩) (fun _ _ _ => .int) fun _ _ => pureD_int _) (oI_calm _ _) ha hb
theorem j_lt (ha : J X Y W .r a fa) (hb : J X Y W .r b fb) : J X Y W k (.Compare a [.Lt] [b] pos) (x2 oLt fa fb) := j_cmp op_lt (op2_I0 (fun _ _ _ => .bl) fun _ _ => pureD_bl _) (oI_calm _ _) ha hb (nomark _)
theorem j_le (ha : J X Y W .r a fa) (hb : J X Y W .r b fb) : J X Y W k (.Compare a [.LtE] [b] pos) (x2 oLe fa fb) := j_cmp op_le (op2_I0 (fun _ _ _ => .bl) fun _ _ => pureD_bl _) (oI_calm _ _) ha hb (nomark _)
theorem j_gt (ha : J X Y W .r a fa) (hb : J X Y W .r b fb) : J X Y W k (.Compare a [.Gt] [b] pos) (x2 oGt fa fb) := j_cmp op_gt (op2_I0 (fun _ _ _ => .bl) fun _ _ => pureD_bl _) (oI_calm _ _) ha hb (nomark _)
theorem j_ge (ha : J X Y W .r a fa) (hb : J X Y W .r b fb) : J X Y W k (.Compare a [.GtE] [b] pos) (x2 oGe fa fb) := j_cmp op_ge (op2_I0 (fun _ _ _ => .bl) fun _ _ => pureD_bl _) (oI_calm _ _) ha hb (nomark _)
theorem t_lt (ha : J X Y W .r a fa) (hb : J X Y W .r b fb) : T X Y W (.Compare a [.Lt] [b] pos) (tBl (x2 oLt fa fb)) := t_cmp op_lt (op2_I0 (fun _ _ _ => .bl) fun _ _ => pureD_bl _) (oI_calm _ _) ha hb (nomark _)
theorem t_le (ha : J X Y W .r a fa) (hb : J X Y W .r b fb) : T X Y W (.Compare a [.LtE] [b] pos) (tBl (x2 oLe fa fb)) := t_cmp op_le (op2_I0 (fun _ _ _ => .bl) fun _ _ => pureD_bl _) (oI_calm _ _) ha hb (nomark _)
theorem t_gt (ha : J X Y W .r a fa) (hb : J X Y W .r b fb) : T X Y W (.Compare a [.Gt] [b] pos) (tBl (x2 oGt fa fb)) := t_cmp op_gt (op2_I0 (fun _ _ _ => .bl) fun _ _ => pureD_bl _) (oI_calm _ _) ha hb (nomark _)
theorem t_ge (ha : J X Y W .r a fa) (hb : J X Y W .r b fb) : T X Y W (.Compare a [.GtE] [b] pos) (tBl (x2 oGe fa fb)) := t_cmp op_ge (op2_I0 (fun _ _ _ => .bl) fun _ _ => pureD_bl _) (oI_calm _ _) ha hb (nomark _)
def oNeg : D → Res D
  | .int i => .ok (.int (-i))
  | _ => .stuck
theorem oNeg_calm : Calm1 oNeg := fun d x => by
  unfold oNeg
  split <;> exact fun h => nomatch h
theorem j_neg (ha : J X Y W .r a fa) : J X Y W k (.UnaryOp .USub a pos) (x1 oNeg fa) := j_un un_neg (fun H x d Q rx ⟨z, hz, po⟩ => by
  unfold oNeg at hz
  split at hz
  · cases hz
    cases rx
    exact ⟨_, rfl, po.pure (Same.refl H) .int (pureD_int _)⟩
  · cases hz) oNeg_calm ha

/-! ### == of data at any depth -/
mutual
def toP : D → PyData
  | .non => .none
  | .bl b => .bool b
  | .int i => .int i
  | .str x => .str x
  | .tup xs => .tuple (toPs xs)
  | .lst xs => .list (toPs xs)
  | .scr ns => .list (ns.map .int)
  | .dI _ => .dict []
  | .dT _ => .dict []
  | .exc _ _ => .dict []
def toPs : List D → List PyData
  | [] => []
  | d :: ds => toP d :: toPs ds
end
def shp (d : D) : Bool := SeqAt.shaped (toP d)
theorem dpAll_ints {K : PySem.W.Frag} {H : Hp} : ∀ ns : List Int, DpAll K H (ns.map V.int) (ns.map PyData.int)
  | [] => .nil
  | n :: ns => .cons (.int n) (dpAll_ints ns)
mutual
theorem Rep.dp {K : PySem.W.Frag} {Y : Cl} {H : Hp} : ∀ {v : V} {d : D}, Rep K Y H v d → (toP d).canLay0 = true → Dp K H v (toP d)
  | _, _, .non, _ => by rw [toP]; exact .non
  | _, _, .bl, _ => by rw [toP]; exact .bl _
  | _, _, .int, _ => by rw [toP]; exact .int _
  | _, _, .str, _ => by rw [toP]; exact .str _
  | _, _, .tup h r, c => by
    rw [toP] at c ⊢
    rw [PyData.canLay0] at c
    exact .tup h (Reps.dp r c)
  | _, _, .lst h r, c => by
    rw [toP] at c ⊢
    rw [PyData.canLay0] at c
    exact .lst (SqL.of h) (Reps.dp r c)
  | _, _, .scr h, c => by
    rw [toP]
    exact .lst h (dpAll_ints _)
  | _, _, .dI _ _, c => by rw [toP, PyData.canLay0] at c; cases c
  | _, _, .dT _ _, c => by rw [toP, PyData.canLay0] at c; cases c
  | _, _, .exc0 _, c => by rw [toP, PyData.canLay0] at c; cases c
  | _, _, .exc1 _ _ _, c => by rw [toP, PyData.canLay0] at c; cases c
theorem Reps.dp {K : PySem.W.Frag} {Y : Cl} {H : Hp} : ∀ {vs : List V} {ds : List D}, Reps K Y H vs ds → PyData.canLayAll0 (toPs ds) = true → DpAll K H vs (toPs ds)
  | _, _, .nil, _ => by rw [toPs]; exact .nil
  | _, _, .cons h r, c => by
    rw [toPs] at c ⊢
    rw [PyData.canLayAll0] at c
    have c' := Bool.and_eq_true_iff.mp c
    exact .cons (Rep.dp h c'.1) (Reps.dp r c'.2)
end
theorem shp_lay {d : D} (h : shp d = true) : (toP d).canLay0 = true := SeqAt.canLay_of_shaped h
def oEq : D → D → Res D := fun d e => if (shp d && shp e) = true then .ok (.bl (PyData.eqv (toP d) (toP e))) else .stuck
def oNe : D → D → Res D := fun d e => if (shp d && shp e) = true then .ok (.bl (!PyData.eqv (toP d) (toP e))) else .stuck
theorem ite_calm {α : Type} {c : Prop} [Decidable c] {r : α} {x : Err} : (if c then Res.ok r else .stuck) ≠ .exc x := by
  split <;> exact fun h => nomatch h
theorem oEq_calm : Calm2 oEq := fun d e x => ite_calm
theorem oNe_calm : Calm2 oNe := fun d e x => ite_calm
theorem op2_eq : Op2 X.K Y k (rEqD X.K) oEq := by
  intro H x y d e Q rx ry ⟨z, hz, po⟩
  unfold oEq at hz
  split at hz
  · rename_i hs
    have hs' := Bool.and_eq_true_iff.mp hs
    cases hz
    exact ⟨_, _, rx.dp (shp_lay hs'.1), ry.dp (shp_lay hs'.2), hs'.1, hs'.2, po.pure (Same.refl H) .bl (pureD_bl _)⟩
  · cases hz
theorem op2_ne : Op2 X.K Y k (rNeD X.K) oNe := by
  intro H x y d e Q rx ry ⟨z, hz, po⟩
  unfold oNe at hz
  split at hz
  · rename_i hs
    have hs' := Bool.and_eq_true_iff.mp hs
    cases hz
    exact ⟨_, _, rx.dp (shp_lay hs'.1), ry.dp (shp_lay hs'.2), hs'.1, hs'.2, po.pure (Same.refl H) .bl (pureD_bl _)⟩
  · cases hz
theorem j_eq {n : Nat} (hr : Room n X.A) (ha : J X Y W .r a fa) (hb : J X Y W .r b fb) : J X Y W k (.Compare a [.Eq] [b] pos) (x2 oEq fa fb) := j_cmp (op_eqD hr.units) op2_eq oEq_calm ha hb (nomark _)
theorem j_ne {n : Nat} (hr : Room n X.A) (ha : J X Y W .r a fa) (hb : J X Y W .r b fb) : J X Y W k (.Compare a [.NotEq] [b] pos) (x2 oNe fa fb) := j_cmp (op_neD hr.units) op2_ne oNe_calm ha hb (nomark _)
theorem t_eq {n : Nat} (hr : Room n X.A) (ha : J X Y W .r a fa) (hb : J X Y W .r b fb) : T X Y W (.Compare a [.Eq] [b] pos) (tBl (x2 oEq fa fb)) := t_cmp (op_eqD hr.units) op2_eq oEq_calm ha hb (nomark _)
theorem t_ne {n : Nat} (hr : Room n X.A) (ha : J X Y W .r a fa) (hb : J X Y W .r b fb) : T X Y W (.Compare a [.NotEq] [b] pos) (tBl (x2 oNe fa fb)) := t_cmp (op_neD hr.units) op2_ne oNe_calm ha hb (nomark _)
/-! ### is None -/
def isNon : D → Bool
  | .non => true
  | _ => false
def oIsN : D → D → Res D := fun d _ => .ok (.bl (isNon d))
def oNotN : D → D → Res D := fun d _ => .ok (.bl (!isNon d))
theorem rep_non {K : PySem.W.Frag} {H : Hp} {x : V} {d : D} (r : Rep K Y H x d) : decide (x = .non) = isNon d := by
  cases r <;> simp [isNon]
theorem xC_ok {d : D} {en : En} : xC d en = .ok d := rfl
theorem t_isN {j pos'} (ha : J X Y W .r a fa) : T X Y W (.Compare a [.Is] [.Constant .none j pos'] pos) (tBl (x1 (fun d => .ok (.bl (isNon d))) fa)) :=
  PT.imp (pt_cmp (pc_isN ha)) fun σ H Q ⟨en, he, h⟩ => ⟨en, he, (WPr.bind (WPr.bind h)).imp (Same.refl H) fun d p => by
    intro v H' s r
    exact ⟨_, rfl, by rw [rep_non r]; exact p H' s⟩⟩
theorem t_notN {j pos'} (ha : J X Y W .r a fa) : T X Y W (.Compare a [.IsNot] [.Constant .none j pos'] pos) (tBl (x1 (fun d => .ok (.bl (!isNon d))) fa)) :=
  PT.imp (pt_cmp (pc_notN ha)) fun σ H Q ⟨en, he, h⟩ => ⟨en, he, (WPr.bind (WPr.bind h)).imp (Same.refl H) fun d p => by
    intro v H' s r
    exact ⟨_, rfl, by rw [rep_non r]; exact p H' s⟩⟩
theorem j_isN {j pos'} (ha : J X Y W .r a fa) : J X Y W k (.Compare a [.Is] [.Constant .none j pos'] pos) (x1 (fun d => .ok (.bl (isNon d))) fa) :=
  PE.imp (pe_cmp (pc_isN ha)) fun σ H Q ⟨en, he, h⟩ => ⟨en, he, (WPr.bind h).imp (Same.refl H) fun d p => by
    intro v H' s r
    exact by rw [rep_non r]; exact Po.pure (show Po X.K Y k (.bl (isNon d)) H Q from p) s .bl (pureD_bl _)⟩
theorem j_notN {j pos'} (ha : J X Y W .r a fa) : J X Y W k (.Compare a [.IsNot] [.Constant .none j pos'] pos) (x1 (fun d => .ok (.bl (!isNon d))) fa) :=
  PE.imp (pe_cmp (pc_notN ha)) fun σ H Q ⟨en, he, h⟩ => ⟨en, he, (WPr.bind h).imp (Same.refl H) fun d p => by
    intro v H' s r
    exact by rw [rep_non r]; exact Po.pure (show Po X.K Y k (.bl (!isNon d)) H Q from p) s .bl (pureD_bl _)⟩

/-! ### items -/
theorem atI_map {α β : Type} (f : α → β) (xs : List α) (i : Int) : atI (xs.map f) i = (atI xs i).map f := by
  unfold atI
  rw [List.length_map]
  cases ixN xs.length i with
  | none => rfl
  | some j => simp
theorem Reps.at {K : PySem.W.Frag} {H : Hp} {vs : List V} {ds : List D} {i : Int} {d : D} (r : Reps K Y H vs ds) (h : atI ds i = some d) : ∃ v, atI vs i = some v ∧ Rep K Y H v d := by
  unfold atI at h ⊢
  rw [r.length]
  cases q : ixN ds.length i with
  | none => rw [q] at h; cases h
  | some j =>
    rw [q] at h
    exact r.get (i := j) h
def oIx : D → D → Res D
  | .lst ds, .int i => match atI ds i with
    | some d => .ok d
    | none => .stuck
  | .tup ds, .int i => match atI ds i with
    | some d => .ok d
    | none => .stuck
  | .scr ns, .int i => match atI ns i with
    | some n => .ok (.int n)
    | none => .stuck
  | _, _ => .stuck
theorem oIx_calm : Calm2 oIx := fun d e x => by
  unfold oIx
  split <;> first | (split <;> exact fun h => nomatch h) | exact fun h => nomatch h
theorem op2_ix : Op2 X.K Y .r (fun x y H Q => rIxL X.K x y H Q ∨ rIxT X.K x y H Q) oIx := by
  intro H x y d e Q rx ry ⟨z, hz, po⟩
  unfold oIx at hz
  split at hz
  · split at hz
    · rename_i h
      cases hz
      cases ry
      cases rx with
      | lst hp r =>
        obtain ⟨v, hv, rv⟩ := r.at h
        exact .inl ⟨_, _, _, v, rfl, rfl, SqL.of hp, hv, po v H (Same.refl H) rv⟩
    · cases hz
  · split at hz
    · rename_i h
      cases hz
      cases ry
      cases rx with
      | tup hp r =>
        obtain ⟨v, hv, rv⟩ := r.at h
        exact .inr ⟨_, _, _, v, rfl, rfl, hp, hv, po v H (Same.refl H) rv⟩
    · cases hz
  · split at hz
    · rename_i h
      cases hz
      cases ry
      cases rx with
      | scr hp =>
        exact .inl ⟨_, _, _, _, rfl, rfl, hp, by rw [atI_map, h]; rfl, po _ H (Same.refl H) .int⟩
    · cases hz
  · cases hz
theorem j_at (ha : J X Y W .r a fa) (hb : J X Y W .r b fb) (hs : PlainIx b := by exact fun _ _ => rfl) : J X Y W .r (.Subscript a b pos) (x2 oIx fa fb) := j_ix (ix_list.or ix_tup) op2_ix oIx_calm ha hb hs
/-- an item of a new thing -/
theorem Owns.get {K : PySem.W.Frag} {H : Hp} : ∀ {vs : List V} {ds : List D} {fp : List Addr} {i : Nat} {d : D}, Owns K Y H vs ds fp → ds[i]? = some d → ∃ v g, vs[i]? = some v ∧ Own K Y H v d g ∧ g.Sublist fp
  | _, _, _, i, _, .nil, e => by simp at e
  | v :: _, _, _, 0, d, .cons h _, e => by
    have e' := Option.some.inj e
    subst e'
    exact ⟨v, _, rfl, h, List.sublist_append_left _ _⟩
  | _, _, _, i + 1, d, .cons _ r, e => by
    obtain ⟨v, g, h1, h2, h3⟩ := Owns.get (i := i) r e
    exact ⟨v, g, h1, h2, h3.trans (List.sublist_append_right _ _)⟩
theorem Owns.at {K : PySem.W.Frag} {H : Hp} {vs : List V} {ds : List D} {fp : List Addr} {i : Int} {d : D} (r : Owns K Y H vs ds fp) (h : atI ds i = some d) : ∃ v g, atI vs i = some v ∧ Own K Y H v d g ∧ g.Sublist fp := by
  unfold atI at h ⊢
  rw [r.length]
  cases q : ixN ds.length i with
  | none => rw [q] at h; cases h
  | some j =>
    rw [q] at h
    exact r.get (i := j) h
theorem Own.item {K : PySem.W.Frag} {H : Hp} {p : Addr} {ds : List D} {fp : List Addr} {i : Int} {d : D} (r : Own K Y H (.ref p) (.tup ds) fp) (h : atI ds i = some d) : ∃ vs v g, SqT K H p vs ∧ atI vs i = some v ∧ Own K Y H v d g ∧ g.Sublist fp := by
  cases r with
  | pur hp r =>
    cases r with
    | tup hq r =>
      obtain ⟨v, hv, rv⟩ := r.at h
      refine ⟨_, v, [], hq, hv, .pur ?_ rv, List.nil_sublist _⟩
      rw [pureD_tup] at hp
      unfold atI at h
      obtain ⟨j, hj, e⟩ := Option.bind_eq_some_iff.mp h
      exact pureDs_iff.mp hp d (List.mem_of_getElem? e)
  | tup hq r =>
    obtain ⟨v, g, hv, rv, hs⟩ := r.at h
    exact ⟨_, v, g, hq, hv, rv, hs⟩
theorem Own.vref {K : PySem.W.Frag} {H : Hp} {v : V} {ds : List D} {fp : List Addr} (r : Own K Y H v (.tup ds) fp) : ∃ p, v = .ref p := by
  cases r with
  | pur hp r => cases r; exact ⟨_, rfl⟩
  | tup hq r => exact ⟨_, rfl⟩
theorem jn_at (ha : J X Y W .n a fa) (hb : J X Y W .r b fb) (hs : PlainIx b := by exact fun _ _ => rfl) : J X Y W .n (.Subscript a b pos) (x2 oIx fa fb) :=
  PE.imp (pe_ix (ix_list.or ix_tup) ha hb hs) fun σ H Q ⟨en, he, h⟩ => by
    refine ⟨en, he, (WPr.bind h).imp (Same.refl H) fun d p => ?_⟩
    intro v H1 f1 s1 r1 n1 e1
    refine ⟨en, he.mono s1, (WPr.bind p).imp s1 fun e q => ?_⟩
    intro y H2 s2 ry
    obtain ⟨z, hz, po⟩ := WPr.calm (oIx_calm d e) q
    have r2 := r1.mono s2
    unfold oIx at hz
    split at hz
    · split at hz
      · rename_i h
        cases hz
        cases ry
        cases r2 with
        | pur hp _ => rw [pureD_lst] at hp; cases hp
        | lst hp r =>
          obtain ⟨v, g, hv, rv, hsub⟩ := r.at h
          exact .inl ⟨_, _, _, v, rfl, rfl, SqL.of hp, hv, po v H2 g (s1.trans s2) rv ((List.nodup_cons.mp n1).2.sublist hsub) fun p hp => e1 p (List.mem_cons_of_mem _ (hsub.subset hp))⟩
      · cases hz
    · split at hz
      · rename_i h
        cases hz
        cases ry
        obtain ⟨p, rfl⟩ := r2.vref
        obtain ⟨vs, v, g, hq, hv, rv, hsub⟩ := r2.item h
        exact .inr ⟨_, _, _, v, rfl, rfl, hq, hv, po v H2 g (s1.trans s2) rv (n1.sublist hsub) fun p hp => e1 p (hsub.subset hp)⟩
      · cases hz
    · split at hz
      · cases r2 with
        | pur hp _ => rw [pureD_scr] at hp; cases hp
      · cases hz
    · cases hz

/-! ### built-in calls of one and two values -/
theorem j_cb1 {r : List V → Hp → VK → Prop} {o : D → Res D} {id : String} {x : Str} {p : Pos} (hc : CallR X (.builtin id) r) (hr : ∀ H v d Q, Rep X.K Y H v d → (∃ z, o d = .ok z ∧ Po X.K Y k z H Q) → r [v] H Q) (hm : Calm1 o)
    (hg : Gl X x) (hmg : X.mg x = none) (hv : bootBuiltins x = some (.builtin id)) (ha : J X Y W .r a fa) (hn : x ≠ "__name__" := by decide) (hdb : (x == ("__debug__" : Str)) = false := by decide)
    (hs : starEach (a :: []) X.env = (false, eval a X.env) :: starEach [] X.env := by rfl) (hpl : (backTo pos (starEach [] X.env)).any (·.1) = false := by rfl) : J X Y W k (.Call (.Name x p) [a] [] pos) (x1 o fa) :=
  PE.imp (pe_callB hc hg hmg hv (pa_cons ha pa_nil hs) hn hdb hs hpl) fun σ H Q ⟨en, he, h⟩ => ⟨en, he, (WPr.bind h).imp (Same.refl H) fun d p => by
    intro v H1 s1 r1
    obtain ⟨z, ez, pz⟩ := WPr.calm (hm d) p
    exact hr H1 v d Q r1 ⟨z, ez, pz.mono s1⟩⟩
end
end Ow
end
section
set_option linter.all false
set_option maxRecDepth 100000
set_option maxHeartbeats 1000000
/-! Ow4: statements: slots that own, share, or stand for an item of another slot's list. -/
namespace Ow
open PySem L2 PySem.Spec

inductive Slot where
  | un | own (d : D) | fz (d : D) | ali (s j : Nat)
def Slot.dat (S : List Slot) : Slot → Option D
  | .un => none
  | .own d => some d
  | .fz d => some d
  | .ali s j => match S[s]? with
    | some (.own (.lst ds)) => ds[j]?
    | _ => none
def en (S : List Slot) : En := S.map (Slot.dat S)
def Slot.kill (i : Nat) : Slot → Slot
  | .ali s j => if s = i then .un else .ali s j
  | x => x
def setS (S : List Slot) (i : Nat) (x : Slot) : List Slot := (S.map (Slot.kill i)).set i x
/-- a value for a slot -/
def mk (d : D) : Slot := if pureD d = true then .fz d else .own d

section
variable (K : PySem.W.Frag) (Y : Cl)
def SlotOk (G : Hp) (w : Addr → Nat) (fp : Nat → List Addr) (S : List Slot) (σ : St) (H : Hp) (i : Nat) : Slot → Prop
  | .un => True
  | .own d => ∃ v, σ[i]? = some (some v) ∧ Own K Y H v d (fp i) ∧ (fp i).Nodup ∧ ∀ p ∈ fp i, w p = i ∧ G p = none
  | .fz d => ∃ v, σ[i]? = some (some v) ∧ Rep K Y G v d
  | .ali s j => ∃ ds p vs v, S[s]? = some (.own (.lst ds)) ∧ j < ds.length ∧ σ[s]? = some (some (.ref p)) ∧ H p = some (.lst vs) ∧ vs[j]? = some v ∧ σ[i]? = some (some v)
structure SatW (F : Hp) (S : List Slot) (σ : St) (H G : Hp) (w : Addr → Nat) (fp : Nat → List Addr) : Prop where
  fg : Same F G
  gh : Same G H
  fx : ∀ p o, H p = some o → fixO o = true → G p = some o
  len : S.length = σ.length
  ok : ∀ i x, S[i]? = some x → SlotOk K Y G w fp S σ H i x
def Sat (F : Hp) (S : List Slot) (σ : St) (H : Hp) : Prop := ∃ G w fp, SatW K Y F S σ H G w fp
end

section
variable {K : PySem.W.Frag} {Y : Cl} {F H H' : Hp} {S : List Slot} {σ : St}
theorem Sat.same (h : Sat K Y F S σ H) : Same F H := by
  obtain ⟨G, w, fp, s⟩ := h
  exact s.fg.trans s.gh
theorem Sat.len (h : Sat K Y F S σ H) : S.length = σ.length := by
  obtain ⟨G, w, fp, s⟩ := h
  exact s.len
theorem Own.lst_inv {p : Addr} {ds : List D} {fp : List Addr} {v : V} (h : Own K Y H v (.lst ds) fp) : ∃ p vs g, v = .ref p ∧ H p = some (.lst vs) ∧ Owns K Y H vs ds g ∧ fp = p :: g := by
  cases h with
  | pur hp _ => rw [pureD_lst] at hp; cases hp
  | lst hp r => exact ⟨_, _, _, rfl, hp, r, rfl⟩
theorem SatW.dat {G : Hp} {w : Addr → Nat} {fp : Nat → List Addr} (s : SatW K Y F S σ H G w fp) {i : Nat} {x : Slot} {d : D} (hx : S[i]? = some x) (hd : x.dat S = some d) : ∃ v, σ[i]? = some (some v) ∧ Rep K Y H v d := by
  have h := s.ok i x hx
  cases x with
  | un => cases hd
  | own d' =>
    cases hd
    obtain ⟨v, a, b, _⟩ := h
    exact ⟨v, a, b.rep⟩
  | fz d' =>
    cases hd
    obtain ⟨v, a, b⟩ := h
    exact ⟨v, a, b.mono s.gh⟩
  | ali t j =>
    obtain ⟨ds, p, vs, v, h1, h2, h3, h4, h5, h6⟩ := h
    simp only [Slot.dat, h1] at hd
    obtain ⟨v', a, b, _⟩ := s.ok t _ h1
    rw [h3] at a
    cases a
    obtain ⟨p', vs', g, e1, e2, e3, e4⟩ := b.lst_inv (p := p)
    cases e1
    rw [h4] at e2
    cases e2
    obtain ⟨u, hu, ru⟩ := e3.reps.get (i := j) hd
    rw [h5] at hu
    cases hu
    exact ⟨v, h6, ru⟩
theorem en_get {i : Nat} {d : D} (h : (en S)[i]? = some (some d)) : ∃ x, S[i]? = some x ∧ x.dat S = some d := by
  unfold en at h
  rw [List.getElem?_map] at h
  cases q : S[i]? with
  | none => rw [q] at h; cases h
  | some x =>
    rw [q] at h
    exact ⟨x, rfl, Option.some.inj h⟩
theorem Sat.en (h : Sat K Y F S σ H) : EnOk K Y H σ (en S) := ⟨by unfold Ow.en; rw [List.length_map]; exact h.len, fun i d e => by
  obtain ⟨G, w, fp, s⟩ := h
  obtain ⟨x, hx, hd⟩ := en_get e
  exact s.dat hx hd⟩
/-- the shared part, with what never changes of a later heap -/
def grow (G H : Hp) : Hp := fun p => match G p with
  | some o => some o
  | none => match H p with
    | some o => if fixO o = true then some o else none
    | none => none
theorem grow_same {G H : Hp} : Same G (grow G H) := fun p o e => by
  unfold grow
  rw [e]
theorem grow_to {G H : Hp} (s : Same G H) : Same (grow G H) H := fun p o e => by
  unfold grow at e
  cases q : G p with
  | some u =>
    rw [q] at e
    cases e
    exact s p _ q
  | none =>
    rw [q] at e
    cases q2 : H p with
    | none => rw [q2] at e; cases e
    | some u =>
      rw [q2] at e
      dsimp only at e
      by_cases hf : fixO u = true
      · rw [if_pos hf] at e
        exact e
      · rw [if_neg hf] at e
        cases e
theorem grow_fix {G H : Hp} (s : Same G H) {p : Addr} {o : HO} (e : H p = some o) (hf : fixO o = true) : grow G H p = some o := by
  unfold grow
  cases q : G p with
  | some u =>
    have := s p u q
    rw [e] at this
    exact this.symm
  | none =>
    rw [e]
    show (if fixO o = true then some o else none) = some o
    rw [if_pos hf]
theorem grow_none {G H : Hp} {p : Addr} (g : G p = none) (h : ∀ o, H p = some o → fixO o = false) : grow G H p = none := by
  unfold grow
  rw [g]
  cases q : H p with
  | none => rfl
  | some o =>
    show (if fixO o = true then some o else none) = none
    rw [if_neg (by rw [h o q]; exact Bool.false_ne_true)]
theorem kill_ne {i : Nat} {x y : Slot} (h : x.kill i = y) : (y = .un ∧ ∃ j, x = .ali i j) ∨ (x = y ∧ ∀ j, x ≠ .ali i j) := by
  cases x with
  | ali s j =>
    by_cases e : s = i
    · subst e
      refine .inl ⟨?_, j, rfl⟩
      rw [← h]
      exact if_pos rfl
    · refine .inr ⟨?_, fun j' q => ?_⟩
      · rw [← h]
        exact (if_neg e).symm
      · cases q
        exact e rfl
  | un => exact .inr ⟨h, fun j q => nomatch q⟩
  | own d => exact .inr ⟨h, fun j q => nomatch q⟩
  | fz d => exact .inr ⟨h, fun j q => nomatch q⟩
theorem setS_get {i k : Nat} {x y : Slot} (h : (setS S i x)[k]? = some y) : (k = i ∧ y = x ∧ i < S.length) ∨ (k ≠ i ∧ ∃ z, S[k]? = some z ∧ z.kill i = y) := by
  unfold setS at h
  by_cases e : k = i
  · subst e
    by_cases hl : k < S.length
    · rw [List.getElem?_set_self (by simpa using hl)] at h
      exact .inl ⟨rfl, (Option.some.inj h).symm, hl⟩
    · rw [List.getElem?_eq_none (by simpa using Nat.le_of_not_lt hl)] at h
      cases h
  · rw [List.getElem?_set_ne (Ne.symm e), List.getElem?_map] at h
    cases q : S[k]? with
    | none => rw [q] at h; cases h
    | some z =>
      rw [q] at h
      exact .inr ⟨e, z, rfl, Option.some.inj h⟩
theorem setS_len {i : Nat} {x : Slot} : (setS S i x).length = S.length := by simp [setS]
theorem setS_ne {i s : Nat} {x y : Slot} (hs : S[s]? = some y) (hn : ∀ j, y ≠ .ali i j) (e : s ≠ i) : (setS S i x)[s]? = some y := by
  unfold setS
  rw [List.getElem?_set_ne (Ne.symm e), List.getElem?_map, hs]
  show some (y.kill i) = some y
  cases y with
  | ali t j =>
    have : t ≠ i := fun q => hn j (by rw [q])
    show some (if t = i then Slot.un else .ali t j) = some (.ali t j)
    rw [if_neg this]
  | un => rfl
  | own d => rfl
  | fz d => rfl
/-- slots other than i, behind a store to i: the heap grows, the owner's map and the shared part may grow -/
theorem SatW.keep {G G' : Hp} {w w' : Addr → Nat} {fp fp' : Nat → List Addr} (s : SatW K Y F S σ H G w fp) {i k : Nat} {v : V} {x : Slot} (sh : Same H H') (sg : Same G G')
    (hG : ∀ k, k ≠ i → ∀ p ∈ fp k, w p = k → G p = none → (∃ o, H p = some o ∧ fixO o = false) → w' p = k ∧ G' p = none) (hf : ∀ k, k ≠ i → fp' k = fp k) {z y : Slot} (hk : k ≠ i) (hz : S[k]? = some z) (hy : z.kill i = y) :
    SlotOk K Y G' w' fp' (setS S i x) (σ.set i (some v)) H' k y := by
  have h := s.ok k z hz
  rcases kill_ne hy with ⟨e, _⟩ | ⟨e, hn⟩
  · subst e
    trivial
  · subst e
    cases z with
    | un => trivial
    | own d =>
      obtain ⟨u, a, b, c, q⟩ := h
      refine ⟨u, by rw [List.getElem?_set_ne (Ne.symm hk)]; exact a, ?_, ?_, ?_⟩
      · rw [hf k hk]
        exact b.mono sh
      · rw [hf k hk]
        exact c
      · rw [hf k hk]
        exact fun p hp => hG k hk p hp (q p hp).1 (q p hp).2 (b.there p hp)
    | fz d =>
      obtain ⟨u, a, b⟩ := h
      exact ⟨u, by rw [List.getElem?_set_ne (Ne.symm hk)]; exact a, b.mono sg⟩
    | ali t j =>
      obtain ⟨ds, p, vs, u, h1, h2, h3, h4, h5, h6⟩ := h
      have ht : t ≠ i := fun q => hn j (by rw [q])
      refine ⟨ds, p, vs, u, setS_ne h1 (fun j q => nomatch q) ht, h2, ?_, sh _ _ h4, h5, ?_⟩
      · rw [List.getElem?_set_ne (Ne.symm ht)]
        exact h3
      · rw [List.getElem?_set_ne (Ne.symm hk)]
        exact h6
/-- a slot gets a value of its own (or a pure one) -/
theorem Sat.setMk (h : Sat K Y F S σ H) (sh : Same H H') {i : Nat} {v : V} {d : D} {f : List Addr} (o : Own K Y H' v d f) (nd : f.Nodup) (fr : ∀ p ∈ f, H p = none) : Sat K Y F (setS S i (mk d)) (σ.set i (some v)) H' := by
  obtain ⟨G, w, fp, s⟩ := h
  have gh' : Same G H' := s.gh.trans sh
  refine ⟨grow G H', fun p => if p ∈ f then i else w p, fun k => if k = i then f else fp k, s.fg.trans grow_same, grow_to gh', fun p o e hf => grow_fix gh' e hf, by rw [setS_len, List.length_set]; exact s.len, fun k y hy => ?_⟩
  rcases setS_get hy with ⟨rfl, rfl, hl⟩ | ⟨hk, z, hz, hzy⟩
  · have hσ : (σ.set k (some v))[k]? = some (some v) := by rw [List.getElem?_set_self (by rw [← s.len]; exact hl)]
    unfold mk
    by_cases hp : pureD d = true
    · rw [if_pos hp]
      exact ⟨v, hσ, o.rep.fix (fun p u e hf => grow_fix gh' e hf) hp⟩
    · rw [if_neg hp]
      have e1 : (fun k' => if k' = k then f else fp k') k = f := if_pos rfl
      refine ⟨v, hσ, ?_, ?_, ?_⟩
      · rw [e1]; exact o
      · rw [e1]; exact nd
      · rw [e1]
        intro p hm
        refine ⟨if_pos hm, ?_⟩
        obtain ⟨u, hu, hx⟩ := o.there p hm
        refine grow_none ?_ fun u' e => ?_
        · cases q : G p with
          | none => rfl
          | some u2 =>
            have := s.gh p u2 q
            rw [fr p hm] at this
            cases this
        · rw [hu] at e
          cases e
          exact hx
  · refine s.keep sh grow_same (fun k hk p hp hw hg ⟨u, hu, hx⟩ => ?_) (fun k hk => if_neg hk) hk hz hzy
    have hn : p ∉ f := fun hm => by
      rw [fr p hm] at hu
      cases hu
    refine ⟨by rw [if_neg hn]; exact hw, grow_none hg fun u' e => ?_⟩
    rw [sh p u hu] at e
    cases e
    exact hx
/-- nothing but new things -/
theorem Sat.ext (h : Sat K Y F S σ H) (sh : Same H H') : Sat K Y F S σ H' := by
  obtain ⟨G, w, fp, s⟩ := h
  have gh' : Same G H' := s.gh.trans sh
  refine ⟨grow G H', w, fp, s.fg.trans grow_same, grow_to gh', fun p o e hf => grow_fix gh' e hf, s.len, fun k y hy => ?_⟩
  have h := s.ok k y hy
  cases y with
  | un => trivial
  | own d =>
    obtain ⟨u, a, b, c, q⟩ := h
    refine ⟨u, a, b.mono sh, c, fun p hp => ⟨(q p hp).1, grow_none (q p hp).2 fun o e => ?_⟩⟩
    obtain ⟨o', ho, hx⟩ := b.there p hp
    rw [sh p o' ho] at e
    cases e
    exact hx
  | fz d =>
    obtain ⟨u, a, b⟩ := h
    exact ⟨u, a, b.mono grow_same⟩
  | ali t j =>
    obtain ⟨ds, p, vs, u, h1, h2, h3, h4, h5, h6⟩ := h
    exact ⟨ds, p, vs, u, h1, h2, h3, sh _ _ h4, h5, h6⟩
/-- the shared part may be taken for the frame -/
theorem Sat.deep (h : Sat K Y F S σ H) : ∃ G, Same F G ∧ Same G H ∧ Sat K Y G S σ H ∧ ∀ (i : Nat) (d : D), S[i]? = some (Slot.fz d) → ∃ v, σ[i]? = some (some v) ∧ Rep K Y G v d := by
  obtain ⟨G, w, fp, s⟩ := h
  exact ⟨G, s.fg, s.gh, ⟨G, w, fp, Same.refl G, s.gh, s.fx, s.len, s.ok⟩, fun i d e => s.ok i _ e⟩
theorem Sat.shallow {G : Hp} (fg : Same F G) (h : Sat K Y G S σ H) : Sat K Y F S σ H := by
  obtain ⟨G', w, fp, s⟩ := h
  exact ⟨G', w, fp, fg.trans s.fg, s.gh, s.fx, s.len, s.ok⟩
/-- a slot gets a value that stands in the frame -/
theorem Sat.setFz (h : Sat K Y F S σ H) {i : Nat} {v : V} {d : D} (r : Rep K Y F v d) : Sat K Y F (setS S i (.fz d)) (σ.set i (some v)) H := by
  obtain ⟨G, w, fp, s⟩ := h
  refine ⟨G, w, fp, s.fg, s.gh, s.fx, by rw [setS_len, List.length_set]; exact s.len, fun k y hy => ?_⟩
  rcases setS_get hy with ⟨rfl, rfl, hl⟩ | ⟨hk, z, hz, hzy⟩
  · exact ⟨v, by rw [List.getElem?_set_self (by rw [← s.len]; exact hl)], r.mono s.fg⟩
  · exact s.keep (Same.refl H) (Same.refl G) (fun k hk p hp hw hg _ => ⟨hw, hg⟩) (fun k hk => rfl) hk hz hzy
/-- a slot gets a pure value -/
theorem Sat.setPure (h : Sat K Y F S σ H) (sh : Same H H') {i : Nat} {v : V} {d : D} (r : Rep K Y H' v d) (hp : pureD d = true) : Sat K Y F (setS S i (.fz d)) (σ.set i (some v)) H' := by
  have q := h.setMk sh (i := i) (.pur hp r) .nil (fun _ z => nomatch z)
  unfold mk at q
  rw [if_pos hp] at q
  exact q
/-- a slot gets an item of another slot's own list -/
theorem Sat.setAli (h : Sat K Y F S σ H) {i t j : Nat} {ds : List D} {p : Addr} {vs : List V} {v : V} (ht : S[t]? = some (.own (.lst ds))) (hj : j < ds.length) (hσ : σ[t]? = some (some (.ref p))) (hp : H p = some (.lst vs)) (hv : vs[j]? = some v) (hit : t ≠ i) :
    Sat K Y F (setS S i (.ali t j)) (σ.set i (some v)) H := by
  obtain ⟨G, w, fp, s⟩ := h
  refine ⟨G, w, fp, s.fg, s.gh, s.fx, by rw [setS_len, List.length_set]; exact s.len, fun k y hy => ?_⟩
  rcases setS_get hy with ⟨rfl, rfl, hl⟩ | ⟨hk, z, hz, hzy⟩
  · refine ⟨ds, p, vs, v, setS_ne ht (fun j q => nomatch q) hit, hj, ?_, hp, hv, ?_⟩
    · rw [List.getElem?_set_ne (Ne.symm hit)]
      exact hσ
    · rw [List.getElem?_set_self (by rw [← s.len]; exact hl)]
  · exact s.keep (Same.refl H) (Same.refl G) (fun k hk p hp hw hg _ => ⟨hw, hg⟩) (fun k hk => rfl) hk hz hzy
end

/-! ### how a block ends -/
inductive Fl where
  | nx (S : List Slot) | rt (d : D) (S : List Slot) | bk (S : List Slot) | ct (S : List Slot)
def RetOk (K : PySem.W.Frag) (Y : Cl) (F H : Hp) (v : V) (d : D) : Prop := Same F H ∧ ∃ fp, Own K Y H v d fp ∧ fp.Nodup ∧ ∀ p ∈ fp, F p = none
abbrev Md := Nat → Bool
/-- the slots that M does not name stand as they stood -/
def Stay (M : Md) (σ σ' : St) : Prop := ∀ i, M i = false → σ'[i]? = σ[i]?
theorem Stay.refl (M : Md) (σ : St) : Stay M σ σ := fun _ _ => rfl
theorem Stay.trans {M : Md} {σ σ1 σ2 : St} (a : Stay M σ σ1) (b : Stay M σ1 σ2) : Stay M σ σ2 := fun i h => (b i h).trans (a i h)
theorem Stay.set {M : Md} {σ : St} {i : Nat} {v : Option V} (h : M i = true) : Stay M σ (σ.set i v) := fun k hk => by
  by_cases e : k = i
  · subst e
    rw [h] at hk
    cases hk
  · rw [List.getElem?_set_ne (Ne.symm e)]
theorem Stay.mono {M M' : Md} {σ σ' : St} (a : Stay M σ σ') (h : ∀ i, M' i = false → M i = false) : Stay M' σ σ' := fun i hi => a i (h i hi)
/-- a slot more -/
def more (S : List Slot) (x : Slot) : List Slot := setS (S ++ [.un]) S.length x
def moreV (σ : St) (n : Nat) (v : V) : St := (σ ++ [none]).set n (some v)
def RetS (K : PySem.W.Frag) (Y : Cl) (M : Md) (F : Hp) (σ : St) (S' : List Slot) (H' : Hp) (v : V) (d : D) : Prop := ∃ σ', Stay M σ σ' ∧ Sat K Y F (more S' (mk d)) (moreV σ' S'.length v) H'
theorem RetS.stay {K : PySem.W.Frag} {Y : Cl} {M : Md} {F : Hp} {σ0 σ : St} {S' : List Slot} {H' : Hp} {v : V} {d : D} (y : Stay M σ0 σ) (h : RetS K Y M F σ S' H' v d) : RetS K Y M F σ0 S' H' v d := by
  obtain ⟨σ', a, b⟩ := h
  exact ⟨σ', y.trans a, b⟩
theorem RetS.shallow {K : PySem.W.Frag} {Y : Cl} {M : Md} {F G : Hp} {σ : St} {S' : List Slot} {H' : Hp} {v : V} {d : D} (y : Same F G) (h : RetS K Y M G σ S' H' v d) : RetS K Y M F σ S' H' v d := by
  obtain ⟨σ', a, b⟩ := h
  exact ⟨σ', a, b.shallow y⟩
theorem more_get {S : List Slot} {x : Slot} : (more S x)[S.length]? = some x := by
  unfold more setS
  rw [List.getElem?_set_self (by simp)]
theorem RetS.ok {K : PySem.W.Frag} {Y : Cl} {M : Md} {F : Hp} {σ : St} {S' : List Slot} {H' : Hp} {v : V} {d : D} (h : RetS K Y M F σ S' H' v d) : RetOk K Y F H' v d := by
  obtain ⟨σ', _, s⟩ := h
  have s0 := s
  obtain ⟨G, w, fp, sw⟩ := s
  have hl := sw.len
  have hσ : ∀ u, (moreV σ' S'.length v)[S'.length]? = some (some u) → u = v := fun u hu => by
    unfold moreV at hu
    have hl' : S'.length < (σ' ++ [none]).length := by
      simp [more, moreV, setS] at hl
      simp
      omega
    rw [List.getElem?_set_self hl'] at hu
    exact (Option.some.inj (Option.some.inj hu)).symm
  have q := sw.ok S'.length _ more_get
  unfold mk at q
  by_cases hp : pureD d = true
  · rw [if_pos hp] at q
    obtain ⟨u, a, r⟩ := q
    rw [hσ u a] at r
    exact ⟨s0.same, [], .pur hp (r.mono sw.gh), .nil, fun _ z => nomatch z⟩
  · rw [if_neg hp] at q
    obtain ⟨u, a, o, nd, z⟩ := q
    rw [hσ u a] at o
    exact ⟨s0.same, _, o, nd, fun p hp => sw.fg.free (z p hp).2⟩
/-- a slot more that holds nothing -/
theorem Sat.more {K : PySem.W.Frag} {Y : Cl} {F H : Hp} {S : List Slot} {σ : St} (h : Sat K Y F S σ H) : Sat K Y F (S ++ [.un]) (σ ++ [none]) H := by
  obtain ⟨G, w, fp, s⟩ := h
  refine ⟨G, w, fp, s.fg, s.gh, s.fx, by simp [s.len], fun k y hy => ?_⟩
  by_cases hk : k < S.length
  · rw [List.getElem?_append_left hk] at hy
    have hk' : k < σ.length := by rw [← s.len]; exact hk
    have q := s.ok k y hy
    cases y with
    | un => trivial
    | own d =>
      obtain ⟨u, a, b⟩ := q
      exact ⟨u, by rw [List.getElem?_append_left hk']; exact a, b⟩
    | fz d =>
      obtain ⟨u, a, b⟩ := q
      exact ⟨u, by rw [List.getElem?_append_left hk']; exact a, b⟩
    | ali t j =>
      obtain ⟨ds, p, vs, u, h1, h2, h3, h4, h5, h6⟩ := q
      have ht : t < S.length := (List.getElem?_eq_some_iff.mp h1).1
      have ht' : t < σ.length := by rw [← s.len]; exact ht
      exact ⟨ds, p, vs, u, by rw [List.getElem?_append_left ht]; exact h1, h2, by rw [List.getElem?_append_left ht']; exact h3, h4, h5, by rw [List.getElem?_append_left hk']; exact h6⟩
  · have : k = S.length := by
      have := (List.getElem?_eq_some_iff.mp hy).1
      simp at this
      omega
    subst this
    rw [List.getElem?_append_right (Nat.le_refl _)] at hy
    simp at hy
    subst hy
    trivial
/-- a slot forgets -/
theorem Sat.setUn' {K : PySem.W.Frag} {Y : Cl} {F H : Hp} {S : List Slot} {σ : St} (h : Sat K Y F S σ H) (i : Nat) : Sat K Y F (setS S i .un) σ H := by
  obtain ⟨G, w, fp, s⟩ := h
  refine ⟨G, w, fp, s.fg, s.gh, s.fx, by rw [setS_len]; exact s.len, fun k y hy => ?_⟩
  rcases setS_get hy with ⟨rfl, rfl, hl⟩ | ⟨hk, z, hz, hzy⟩
  · trivial
  · rcases kill_ne hzy with ⟨rfl, _⟩ | ⟨rfl, hn⟩
    · trivial
    · have q := s.ok k z hz
      cases z with
      | un => trivial
      | own d => exact q
      | fz d => exact q
      | ali t m =>
        obtain ⟨ds, p, vs, u', h1, h2, h3, h4, h5, h6⟩ := q
        have e2 : t ≠ i := fun e => hn m (by rw [e])
        exact ⟨ds, p, vs, u', setS_ne h1 (fun j q => nomatch q) e2, h2, h3, h4, h5, h6⟩
/-- what a slot owns goes to another one -/
theorem Sat.move {K : PySem.W.Frag} {Y : Cl} {F H : Hp} {S : List Slot} {σ : St} (h : Sat K Y F S σ H) {i k : Nat} {d : D} {v : V} (hi : S[i]? = some (.own d)) (hv : σ[i]? = some (some v)) (hik : k ≠ i) :
    Sat K Y F (setS (setS S i .un) k (.own d)) (σ.set k (some v)) H := by
  obtain ⟨G, w, fp, s⟩ := h
  obtain ⟨u, a, o, nd, z⟩ := s.ok i _ hi
  rw [hv] at a
  cases a
  refine ⟨G, fun p => if p ∈ fp i then k else w p, fun j => if j = k then fp i else fp j, s.fg, s.gh, s.fx, by rw [setS_len, setS_len, List.length_set]; exact s.len, fun j y hy => ?_⟩
  rcases setS_get hy with ⟨rfl, rfl, hl⟩ | ⟨hj, x, hx, hxy⟩
  · rw [setS_len] at hl
    refine ⟨v, by rw [List.getElem?_set_self (by rw [← s.len]; exact hl)], ?_, ?_, ?_⟩
    · simpa using o
    · simpa using nd
    · intro p hp
      have hp' : p ∈ fp i := by simpa using hp
      exact ⟨if_pos hp', (z p hp').2⟩
  · rcases kill_ne hxy with ⟨rfl, _⟩ | ⟨rfl, hn⟩
    · trivial
    · rcases setS_get hx with ⟨rfl, rfl, hl⟩ | ⟨hji, x0, hx0, hxy0⟩
      · trivial
      · rcases kill_ne hxy0 with ⟨rfl, _⟩ | ⟨rfl, hn0⟩
        · trivial
        · have q := s.ok j _ hx0
          cases x0 with
          | un => trivial
          | own d' =>
            obtain ⟨u', a', b', c', q'⟩ := q
            refine ⟨u', by rw [List.getElem?_set_ne (Ne.symm hj)]; exact a', ?_, ?_, ?_⟩
            · simpa [hj] using b'
            · simpa [hj] using c'
            · intro p hp
              have hp : p ∈ fp j := by simpa [hj] using hp
              have hw := (q' p hp).1
              refine ⟨?_, (q' p hp).2⟩
              show (if p ∈ fp i then k else w p) = j
              rw [if_neg (fun hm => hji (by rw [← hw, (z p hm).1]))]
              exact hw
          | fz d' =>
            obtain ⟨u', a', b'⟩ := q
            exact ⟨u', by rw [List.getElem?_set_ne (Ne.symm hj)]; exact a', b'⟩
          | ali t m =>
            obtain ⟨ds, p, vs, u', h1, h2, h3, h4, h5, h6⟩ := q
            have e1 : t ≠ k := fun e => hn m (by rw [e])
            have e2 : t ≠ i := fun e => hn0 m (by rw [e])
            refine ⟨ds, p, vs, u', setS_ne (setS_ne h1 (fun j q => nomatch q) e2) (fun j q => nomatch q) e1, h2, by rw [List.getElem?_set_ne (Ne.symm e1)]; exact h3, h4, h5, by rw [List.getElem?_set_ne (Ne.symm hj)]; exact h6⟩
def WPs (K : PySem.W.Frag) (Y : Cl) (W : Wh) (M : Md) (F : Hp) (D' : Ends) (σ : St) (r : Res Fl) : Prop :=
  match r with
  | .ok (.nx S') => ∀ σ' H', Sat K Y F S' σ' H' → Stay M σ σ' → D'.nx σ' H'
  | .ok (.rt d S') => ∀ v H', RetS K Y M F σ S' H' v d → D'.rt v H'
  | .ok (.bk S') => ∀ σ' H', Sat K Y F S' σ' H' → Stay M σ σ' → D'.bk σ' H'
  | .ok (.ct S') => ∀ σ' H', Sat K Y F S' σ' H' → Stay M σ σ' → D'.ct σ' H'
  | .exc e => ∃ w, W = some w ∧ ∀ cls d σ' H', Same F H' → ExRep K Y H' e cls d → w cls d σ' H'
  | .stuck => False
def tS (K : PySem.W.Frag) (Y : Cl) (W : Wh) (M : Md) (g : List Slot → Res Fl) : TS := fun D σ H => ∃ F S, Sat K Y F S σ H ∧ WPs K Y W M F D σ (g S)
def JS (X : Cx) (Y : Cl) (W : Wh) (M : Md) (st : Stmt) (g : List Slot → Res Fl) : Prop := PS X st (tS X.K Y W M g)
def JB (X : Cx) (Y : Cl) (W : Wh) (M : Md) (st : List Stmt) (g : List Slot → Res Fl) : Prop := PSs X st (tS X.K Y W M g)

section
variable {K : PySem.W.Frag} {Y : Cl} {W : Wh} {M : Md} {F H H' : Hp} {S : List Slot} {σ : St} {Dn : Ends}
/-- an expression ahead -/
theorem WPs.bind {σ0 : St} {r : Res D} {g : D → Res Fl} (h : WPs K Y W M F Dn σ0 (r >>= g)) (sf : Same F H) : WPr K Y W σ H r fun d => WPs K Y W M F Dn σ0 (g d) := by
  cases r with
  | ok d => exact h
  | exc e =>
    obtain ⟨w, a, b⟩ := h
    exact ⟨w, a, fun cls d H' s' x => b cls d σ H' (sf.trans s') x⟩
  | stuck => exact h
theorem WPs.bindB {σ0 : St} {r : Res Bool} {g : Bool → Res Fl} (h : WPs K Y W M F Dn σ0 (r >>= g)) (sf : Same F H) : WPr K Y W σ H r fun d => WPs K Y W M F Dn σ0 (g d) := by
  cases r with
  | ok d => exact h
  | exc e =>
    obtain ⟨w, a, b⟩ := h
    exact ⟨w, a, fun cls d H' s' x => b cls d σ H' (sf.trans s') x⟩
  | stuck => exact h
theorem WPs.bindL {σ0 : St} {r : Res (List D)} {g : List D → Res Fl} (h : WPs K Y W M F Dn σ0 (r >>= g)) (sf : Same F H) : WPr K Y W σ H r fun d => WPs K Y W M F Dn σ0 (g d) := by
  cases r with
  | ok d => exact h
  | exc e =>
    obtain ⟨w, a, b⟩ := h
    exact ⟨w, a, fun cls d H' s' x => b cls d σ H' (sf.trans s') x⟩
  | stuck => exact h
end

/-! ### the statements' words -/
def bN : List Slot → Res Fl := fun S => .ok (.nx S)
def bSeq (f g : List Slot → Res Fl) : List Slot → Res Fl := fun S => f S >>= fun r => match r with
  | .nx S' => g S'
  | r => .ok r
def sSet (i : Nat) (f : En → Res D) : List Slot → Res Fl := fun S => f (en S) >>= fun d => .ok (.nx (setS S i (mk d)))
def sRet (f : En → Res D) : List Slot → Res Fl := fun S => f (en S) >>= fun d => .ok (.rt d S)
def sDo (f : En → Res D) : List Slot → Res Fl := fun S => f (en S) >>= fun _ => .ok (.nx S)
def sIf (c : En → Res Bool) (f g : List Slot → Res Fl) : List Slot → Res Fl := fun S => c (en S) >>= fun b => if b = true then f S else g S
def sRetV (i : Nat) : List Slot → Res Fl := fun S => match S[i]? with
  | some (.own d) => .ok (.rt d (setS S i .un))
  | some (.fz d) => if pureD d = true then .ok (.rt d S) else .stuck
  | _ => .stuck
def sPar (i j : Nat) (f g : En → Res D) : List Slot → Res Fl := fun S => f (en S) >>= fun d => g (en S) >>= fun e =>
  if (pureD d && pureD e) = true then .ok (.nx (setS (setS S i (.fz d)) j (.fz e))) else .stuck

section
variable {X : Cx} {Y : Cl} {W : Wh} {M : Md} {st : Stmt} {rest : List Stmt} {pos : Pos} {f g h : List Slot → Res Fl} {e a b : Expr} {fe fa fb : En → Res D}
theorem b_nil : JB X Y W M [] bN := PSs.imp pss_nil fun D σ H ⟨F, S, s, h⟩ => h σ H s (Stay.refl M σ)
theorem b_cons (h1 : JS X Y W M st f) (h2 : JB X Y W M rest g) : JB X Y W M (st :: rest) (bSeq f g) :=
  PSs.imp (pss_cons h1 h2) fun D σ H ⟨F, S, s, h⟩ => ⟨F, S, s, by
    unfold bSeq at h
    cases q : f S with
    | stuck => rw [q] at h; exact h
    | exc x => rw [q] at h; exact h
    | ok r =>
      rw [q] at h
      cases r with
      | rt d S2 => exact h
      | bk S' => exact h
      | ct S' => exact h
      | nx S' =>
        intro σ' H' s' st'
        refine ⟨F, S', s', ?_⟩
        have h' : WPs X.K Y W M F D σ (g S') := h
        cases q2 : g S' with
        | stuck => rw [q2] at h'; exact h'
        | exc x => rw [q2] at h'; exact h'
        | ok r2 =>
          rw [q2] at h'
          cases r2 with
          | rt d S2 => exact fun v H2 r => h' v H2 (r.stay st')
          | nx S2 => exact fun σ2 H2 s2 t2 => h' σ2 H2 s2 (st'.trans t2)
          | bk S2 => exact fun σ2 H2 s2 t2 => h' σ2 H2 s2 (st'.trans t2)
          | ct S2 => exact fun σ2 H2 s2 t2 => h' σ2 H2 s2 (st'.trans t2)⟩
theorem b_one (h1 : JS X Y W M st f) : JB X Y W M [st] f := pss_one h1
theorem s_pass : JS X Y W M (.Pass pos) bN := PS.imp ps_pass fun D σ H ⟨F, S, s, h⟩ => h σ H s (Stay.refl M σ)
theorem s_break : JS X Y W M (.Break pos) (fun S => .ok (.bk S)) := PS.imp ps_break fun D σ H ⟨F, S, s, h⟩ => h σ H s (Stay.refl M σ)
theorem s_cont : JS X Y W M (.Continue pos) (fun S => .ok (.ct S)) := PS.imp ps_continue fun D σ H ⟨F, S, s, h⟩ => h σ H s (Stay.refl M σ)
theorem Sat.put {K : PySem.W.Frag} {F H H' : Hp} {S : List Slot} {σ : St} {i : Nat} {d : D} {D' : Ends} (s : Sat K Y F S σ H) (hM : M i = true) (p : WPs K Y W M F D' σ (.ok (.nx (setS S i (mk d))))) :
    Po K Y .n d H fun v H1 => D'.nx (σ.set i (some v)) H1 := fun v H1 fp sh o nd fr => p _ _ (s.setMk sh o nd fr) (Stay.set hM)
theorem s_set (i : Nat) {x : Str} {p' : Pos} (hN : X.N.Nodup) (he : J X Y W .n e fe) (hi : X.N[i]? = some x := by rfl) (hx : Loc X.env.scope x := by first | exact Or.inl rfl | exact Or.inr rfl) (hM : M i = true := by rfl) (hs : swapsWith e (some (.Name x p')) pos.line X.env = pure false := by rfl)
    (hf : X.fn x = true ∨ X.env.scope.names.lookup x = some .local := by first | exact .inl rfl | exact .inr rfl) : JS X Y W M (.Assign [.Name x p'] e pos) (sSet i fe) :=
  PS.imp (ps_set hN hi hx he hs hf) fun D σ H ⟨F, S, s, h⟩ => ⟨en S, s.en, (WPs.bind h s.same).imp (Same.refl H) fun d p => s.put (H' := H) hM p⟩
theorem s_ret (he : J X Y W .n e fe) : JS X Y W M (.Return (some e) pos) (sRet fe) :=
  PS.imp (ps_ret he) fun D σ H ⟨F, S, s, h⟩ => ⟨en S, s.en, (WPs.bind h s.same).imp (Same.refl H) fun d p => fun v H1 fp sh o nd fr => p v H1 ⟨σ, Stay.refl M σ, (s.more.setMk (i := S.length) sh o nd fr)⟩⟩
theorem s_retN : JS X Y W M (.Return none pos) (fun S => .ok (.rt .non S)) :=
  PS.imp ps_retN fun D σ H ⟨F, S, s, h⟩ => h .non H ⟨σ, Stay.refl M σ, s.more.setMk (i := S.length) (Same.refl H) (.pur pureD_non .non) .nil (fun _ z => nomatch z)⟩
theorem s_do (he : J X Y W .r e fe) (hs : swapsWith e none pos.line X.env = pure false := by rfl) : JS X Y W M (.Expr e pos) (sDo fe) :=
  PS.imp (ps_expr he hs) fun D σ H ⟨F, S, s, h⟩ => ⟨en S, s.en, (WPs.bind h s.same).imp (Same.refl H) fun d p => fun v H1 sh r => p σ H1 (s.ext sh) (Stay.refl M σ)⟩
theorem s_if {c : Expr} {ga : En → Res Bool} {sa sb : List Stmt} (hc : T X Y W c ga) (ha : JB X Y W M sa f) (hb : JB X Y W M sb g) : JS X Y W M (.If c sa sb pos) (sIf ga f g) :=
  PS.imp (ps_if hc ha hb) fun D σ H ⟨F, S, s, h⟩ => ⟨en S, s.en, (WPs.bindB h s.same).imp (Same.refl H) fun d p => fun H1 sh => by
    cases d with
    | true =>
      rw [if_pos rfl] at p ⊢
      exact ⟨F, S, s.ext sh, p⟩
    | false =>
      rw [if_neg Bool.false_ne_true] at p ⊢
      exact ⟨F, S, s.ext sh, p⟩⟩
theorem s_retV (i : Nat) {x : Str} {p' : Pos} (hN : X.N[i]? = some x := by rfl) (hv : Vis X.env.scope x := by first | exact Or.inl rfl | exact Or.inr (Or.inl rfl) | exact Or.inr (Or.inr rfl)) (hd : (x == ("__debug__" : Str)) = false := by decide)
    (hcd : (x == ("__classdict__" : Str)) = false := by decide) : JS X Y W M (.Return (some (.Name x p')) pos) (sRetV i) :=
  PS.imp (ps_ret (pe_var hN hv hd hcd)) fun D σ H ⟨F, S, s, h⟩ => by
    have s0 := s
    obtain ⟨G, w, fp, sw⟩ := s
    unfold sRetV at h
    cases q : S[i]? with
    | none => rw [q] at h; exact h.elim
    | some x =>
      rw [q] at h
      cases x with
      | un => exact h.elim
      | ali s j => exact h.elim
      | own d =>
        obtain ⟨v, a, o, nd, z⟩ := sw.ok i _ q
        refine ⟨v, a, h v H ⟨σ, Stay.refl M σ, ?_⟩⟩
        have hi : i < S.length := (List.getElem?_eq_some_iff.mp q).1
        have hi' : i < σ.length := by rw [← s0.len]; exact hi
        have e0 : setS S i .un ++ [.un] = setS (S ++ [.un]) i .un := by simp [setS, Slot.kill, List.set_append, hi]
        unfold more
        rw [setS_len, e0]
        have sm := s0.more.move (i := i) (k := S.length) (by rw [List.getElem?_append_left hi]; exact q) (by rw [List.getElem?_append_left hi']; exact a) (by omega)
        unfold mk moreV
        by_cases hp : pureD d = true
        · rw [if_pos hp]
          have su := s0.more.setUn' i
          exact su.setPure (Same.refl H) o.rep hp
        · rw [if_neg hp]
          exact sm
      | fz d =>
        obtain ⟨v, a, r⟩ := sw.ok i _ q
        dsimp only at h
        by_cases hp : pureD d = true
        · rw [if_pos hp] at h
          exact ⟨v, a, h v H ⟨σ, Stay.refl M σ, s0.more.setMk (i := S.length) (Same.refl H) (.pur hp (r.mono sw.gh)) .nil (fun _ z => nomatch z)⟩⟩
        · rw [if_neg hp] at h
          exact h.elim
theorem s_par (i j : Nat) {x y : Str} {px py pt : Pos} {kt k2 pt2} (hc : X.calm = true) (hN : X.N.Nodup) (ha : J X Y W .r a fa) (hb : J X Y W .r b fb) (hi : X.N[i]? = some x := by rfl) (hj : X.N[j]? = some y := by rfl) (hij : i ≠ j := by decide)
    (hx : X.env.scope.names.lookup x = some .local := by rfl) (hy : X.env.scope.names.lookup y = some .local := by rfl) (hMi : M i = true := by rfl) (hMj : M j = true := by rfl)
    (hw : swappedStores [.Tuple [.Name x px, .Name y py] kt pt] (.Tuple [a, b] k2 pt2) X.env = pure (some [x, y]) := by rfl)
    (hs : swapsWithSole [.Tuple [.Name x px, .Name y py] kt pt] (.Tuple [a, b] k2 pt2) pos.line X.env = pure false := by rfl)
    (h1 : starEach (a :: [b]) X.env = (false, eval a X.env) :: starEach [b] X.env := by rfl) (h2 : starEach (b :: []) X.env = (false, eval b X.env) :: starEach [] X.env := by rfl) :
    JS X Y W M (.Assign [.Tuple [.Name x px, .Name y py] kt pt] (.Tuple [a, b] k2 pt2) pos) (sPar i j fa fb) :=
  PS.imp (ps_par hc hN hi hj hij hx hy (pa_cons ha (pa_cons hb pa_nil h2) h1) hw hs) fun D σ H ⟨F, S, s, h⟩ => by
    refine ⟨en S, s.en, (WPs.bind h s.same).imp (Same.refl H) fun d p => ?_⟩
    intro v H1 s1 r1
    refine ⟨en S, s.en.mono s1, (WPs.bind p (s.same.trans s1)).imp (Same.refl H1) fun e q => ?_⟩
    intro u H2 s2 r2
    by_cases hp : (pureD d && pureD e) = true
    · rw [if_pos hp] at q
      have hp' := Bool.and_eq_true_iff.mp hp
      refine ⟨v, u, rfl, q _ _ (((s.ext s1).setPure s2 (r1.mono s2) hp'.1).setPure (Same.refl H2) r2 hp'.2) ((Stay.set hMi).trans (Stay.set hMj))⟩
    · rw [if_neg hp] at q
      exact q.elim
end

/-! ### while -/
def whS (c : En → Res Bool) (b : List Slot → Res Fl) : Nat → List Slot → Res Fl
  | 0, _ => .stuck
  | n + 1, S => c (en S) >>= fun t => if t = true then b S >>= fun r => match r with
    | .nx S' => whS c b n S'
    | .ct S' => whS c b n S'
    | .bk S' => .ok (.nx S')
    | .rt d S' => .ok (.rt d S') else .ok (.nx S)
open Classical in
noncomputable def sWhile (c : En → Res Bool) (b : List Slot → Res Fl) (S : List Slot) : Res Fl :=
  if h : ∃ n, whS c b n S ≠ .stuck then whS c b (Classical.choose h) S else .stuck
theorem whS_more {c : En → Res Bool} {b : List Slot → Res Fl} : ∀ (n : Nat) (S : List Slot), whS c b n S ≠ .stuck → whS c b (n + 1) S = whS c b n S
  | 0, S, h => absurd rfl h
  | n + 1, S, h => by
    show (c (en S) >>= fun t => if t = true then b S >>= fun r => match r with
      | .nx S' => whS c b (n + 1) S'
      | .ct S' => whS c b (n + 1) S'
      | .bk S' => .ok (.nx S')
      | .rt d S' => .ok (.rt d S') else .ok (.nx S)) = (c (en S) >>= fun t => if t = true then b S >>= fun r => match r with
      | .nx S' => whS c b n S'
      | .ct S' => whS c b n S'
      | .bk S' => .ok (.nx S')
      | .rt d S' => .ok (.rt d S') else .ok (.nx S))
    unfold whS at h
    cases q : c (en S) with
    | stuck => rfl
    | exc e => rfl
    | ok t =>
      rw [q] at h
      show (if t = true then _ else _) = (if t = true then _ else _)
      cases t with
      | false => rfl
      | true =>
        rw [if_pos rfl, if_pos rfl]
        have h' : (b S >>= fun r => match r with
          | .nx S' => whS c b n S'
          | .ct S' => whS c b n S'
          | .bk S' => .ok (.nx S')
          | .rt d S' => .ok (.rt d S')) ≠ Res.stuck := h
        cases q2 : b S with
        | stuck => rfl
        | exc e => rfl
        | ok r =>
          rw [q2] at h'
          cases r with
          | rt d S2 => rfl
          | bk S' => rfl
          | nx S' => exact whS_more n S' h'
          | ct S' => exact whS_more n S' h'
theorem whS_le {c : En → Res Bool} {b : List Slot → Res Fl} {n m : Nat} {S : List Slot} (h : whS c b n S ≠ .stuck) (hm : n ≤ m) : whS c b m S = whS c b n S := by
  induction m with
  | zero =>
    have : n = 0 := by omega
    rw [this]
  | succ m ih =>
    by_cases e : n = m + 1
    · rw [e]
    · have q := ih (by omega)
      rw [whS_more m S (by rw [q]; exact h), q]
theorem sWhile_is {c : En → Res Bool} {b : List Slot → Res Fl} {n : Nat} {S : List Slot} (h : whS c b n S ≠ .stuck) : sWhile c b S = whS c b n S := by
  unfold sWhile
  have hx : ∃ n, whS c b n S ≠ .stuck := ⟨n, h⟩
  rw [dif_pos hx]
  have h2 := Classical.choose_spec hx
  rcases Nat.le_total n (Classical.choose hx) with z | z
  · exact whS_le h z
  · exact (whS_le h2 z).symm
theorem sWhile_eq {c : En → Res Bool} {b : List Slot → Res Fl} {S : List Slot} : sWhile c b S = (c (en S) >>= fun t => if t = true then b S >>= fun r => match r with
    | .nx S' => sWhile c b S'
    | .ct S' => sWhile c b S'
    | .bk S' => .ok (.nx S')
    | .rt d S' => .ok (.rt d S') else .ok (.nx S)) := by
  by_cases hx : ∃ n, whS c b n S ≠ .stuck
  · obtain ⟨n, hn⟩ := hx
    rw [sWhile_is hn]
    cases n with
    | zero => exact absurd rfl hn
    | succ n =>
      unfold whS at hn ⊢
      cases q : c (en S) with
      | stuck => rfl
      | exc e => rfl
      | ok t =>
        rw [q] at hn
        show (if t = true then _ else _) = (if t = true then _ else _)
        cases t with
        | false => rfl
        | true =>
          rw [if_pos rfl, if_pos rfl]
          have hn' : (b S >>= fun r => match r with
            | .nx S' => whS c b n S'
            | .ct S' => whS c b n S'
            | .bk S' => .ok (.nx S')
            | .rt d S' => .ok (.rt d S')) ≠ Res.stuck := hn
          cases q2 : b S with
          | stuck => rfl
          | exc e => rfl
          | ok r =>
            rw [q2] at hn'
            cases r with
            | rt d S2 => rfl
            | bk S' => rfl
            | nx S' => exact (sWhile_is hn').symm
            | ct S' => exact (sWhile_is hn').symm
  · unfold sWhile
    rw [dif_neg hx]
    have hn : ∀ n, whS c b n S = .stuck := fun n => Classical.byContradiction fun z => hx ⟨n, z⟩
    cases q : c (en S) with
    | stuck => rfl
    | exc e =>
      have := hn 1
      unfold whS at this
      rw [q] at this
      cases this
    | ok t =>
      cases t with
      | false =>
        have := hn 1
        unfold whS at this
        rw [q] at this
        cases this
      | true =>
        show Res.stuck = (b S >>= _)
        cases q2 : b S with
        | stuck => rfl
        | exc e =>
          have := hn 1
          unfold whS at this
          rw [q] at this
          simp [q2] at this
        | ok r =>
          have hn2 : ∀ n, (match r with
            | .nx S' => whS c b n S'
            | .ct S' => whS c b n S'
            | .bk S' => .ok (.nx S')
            | .rt d S' => .ok (.rt d S')) = Res.stuck := fun n => by
            have := hn (n + 1)
            unfold whS at this
            rw [q] at this
            simp [q2] at this
            exact this
          cases r with
          | rt d S2 => cases hn2 0
          | bk S' => cases hn2 0
          | nx S' =>
            show Res.stuck = sWhile c b S'
            unfold sWhile
            rw [dif_neg (fun ⟨n, z⟩ => z (hn2 n))]
          | ct S' =>
            show Res.stuck = sWhile c b S'
            unfold sWhile
            rw [dif_neg (fun ⟨n, z⟩ => z (hn2 n))]
section
variable {X : Cx} {Y : Cl} {W : Wh} {M : Md} {pos : Pos} {c : Expr} {body : List Stmt} {gc : En → Res Bool} {gb : List Slot → Res Fl}
theorem s_while (hp : PassesOwn (model X.prog X.w) X.A X.env X.xe) (hc : T X Y W c gc) (hb : JB X Y W M body gb) : JS X Y W M (.While c body [] pos) (sWhile gc gb) :=
  PS.imp (ps_while hp hc hb) fun D σ0 H0 ⟨F, S0, s0, h0⟩ => by
    have hx : ∃ n, whS gc gb n S0 ≠ .stuck := Classical.byContradiction fun z => by
      unfold sWhile at h0
      rw [dif_neg z] at h0
      exact h0
    obtain ⟨n0, hn0⟩ := hx
    rw [sWhile_is hn0] at h0
    refine ⟨fun m σ H => ∃ S, Sat X.K Y F S σ H ∧ Stay M σ0 σ ∧ WPs X.K Y W M F D σ0 (whS gc gb m S), ⟨n0, S0, s0, Stay.refl M σ0, h0⟩, ?_⟩
    rintro m σ H ⟨S, s, sy, h⟩
    cases m with
    | zero => exact h.elim
    | succ m =>
      unfold whS at h
      refine ⟨en S, s.en, (WPs.bindB (σ := σ) h s.same).imp (Same.refl H) fun t p H1 sh => ?_⟩
      cases t with
      | false =>
        rw [if_neg Bool.false_ne_true] at p ⊢
        exact p σ H1 (s.ext sh) sy
      | true =>
        rw [if_pos rfl] at p ⊢
        refine ⟨fun σ' H' => ∃ m', m' < m + 1 ∧ ∃ S, Sat X.K Y F S σ' H' ∧ Stay M σ0 σ' ∧ WPs X.K Y W M F D σ0 (whS gc gb m' S), fun σ' H' z => z, F, S, s.ext sh, ?_⟩
        cases q : gb S with
        | stuck => rw [q] at p; exact p
        | exc e => rw [q] at p; exact p
        | ok r =>
          rw [q] at p
          cases r with
          | rt d S2 => exact fun v H2 r => p v H2 (r.stay sy)
          | bk S' => exact fun σ' H' s' st' => p σ' H' s' (sy.trans st')
          | nx S' => exact fun σ' H' s' st' => ⟨m, Nat.lt_succ_self m, S', s', sy.trans st', p⟩
          | ct S' => exact fun σ' H' s' st' => ⟨m, Nat.lt_succ_self m, S', s', sy.trans st', p⟩
end
end Ow
end
section
set_option linter.all false
set_option maxRecDepth 100000
set_option maxHeartbeats 2000000
/-! Ow5: defs, calls, raise, try. -/
namespace Ow
open PySem L2 PySem.Spec

/-- what a def comes to: its body over its slots, the parameters first -/
def runB (m : Nat) (g : List Slot → Res Fl) (ds : List D) : Res D := g (ds.map Slot.fz ++ List.replicate m Slot.un) >>= fun r => match r with
  | .rt d _ => .ok d
  | .nx _ => .ok .non
  | _ => .stuck
def spFn (K : PySem.W.Frag) (Y : Cl) (x : Bool) (n : Nat) (sem : List D → Res D) : Sp := fun vs H Q E => ∃ ds, vs.length = n ∧ Reps K Y H vs ds ∧ match sem ds with
  | .ok d => ∀ v H', RetOk K Y H H' v d → Q v H'
  | .exc e => x = true ∧ ∀ cls d H', Same H H' → ExRep K Y H' e cls d → E cls d H'
  | .stuck => False
theorem reps_slots {K : PySem.W.Frag} {Y : Cl} {H : Hp} : ∀ {vs : List V} {ds : List D}, Reps K Y H vs ds → ∀ (i : Nat) (x : Slot), (ds.map Slot.fz)[i]? = some x → ∃ v d, vs[i]? = some v ∧ x = .fz d ∧ Rep K Y H v d := fun {vs ds} r i x hx => by
  rw [List.getElem?_map] at hx
  cases q : ds[i]? with
  | none => rw [q] at hx; cases hx
  | some d =>
    rw [q] at hx
    obtain ⟨v, hv, rv⟩ := r.get q
    exact ⟨v, d, hv, (Option.some.inj hx).symm, rv⟩
theorem sat_start {K : PySem.W.Frag} {Y : Cl} {H : Hp} {N : List Str} {vs : List V} {ds : List D} {n m : Nat} (r : Reps K Y H vs ds) (hv : vs.length = n) (hN : N.length = n + m) : Sat K Y H (ds.map Slot.fz ++ List.replicate m Slot.un) (L2.start N vs) H := by
  have hl := r.length
  refine ⟨H, fun _ => 0, fun _ => [], Same.refl H, Same.refl H, fun _ _ e _ => e, ?_, fun i x hx => ?_⟩
  · unfold L2.start
    simp
    omega
  · by_cases hi : i < ds.length
    · rw [List.getElem?_append_left (by simpa using hi)] at hx
      obtain ⟨v, d, h1, rfl, h3⟩ := reps_slots r i x hx
      refine ⟨v, ?_, h3⟩
      unfold L2.start
      rw [List.getElem?_append_left (by simpa [hl] using hi), List.getElem?_map, h1]
      rfl
    · rw [List.getElem?_append_right (by simpa using Nat.le_of_not_lt hi)] at hx
      have := List.mem_of_getElem? hx
      rw [List.eq_of_mem_replicate this]
      trivial
section
variable {P : Program} {w : World} {K : PySem.W.Frag} {mg : Str → Option Value} {base : Heap} {Y : Cl} {M : Md}
/-- a def that raises nothing -/
theorem fn0 {x qual : Str} {st : Stmt} {f : Addr} {fd : FuncData} {N ps : List Str} {k n m : Nat} {g : List Slot → Res Fl} (F : Fun K x qual st f fd) (S : FnScope N ps (defScope st)) (hn : ps.length = n) (hm : N.length = n + m)
    (hb : ∀ (cdv : Value) (A : Around) (outer : List Env) (s : Shared) (H : Hp) (E : XK), Room k (A.deeper (PyProof.Rows.envOfC qual (defScope st) s.heap.objs.size f cdv)) →
      JB (cxOf CX0 P w K mg base N qual (defScope st) f cdv A outer s H E).nox Y none M (defBody st) g) : FnOk P w K mg base CX0 (k + 1) f fd ps (spFn K Y false n (runB m g)) := by
  refine F.ok S (fun vs H Q E ⟨ds, h, _⟩ => by rw [h, hn]) fun cdv A outer s H vs Q E hr ⟨ds, hv, r, h⟩ => ⟨_, hb cdv A outer s H E hr, H, _, sat_start r hv hm, ?_⟩
  unfold runB at h
  show WPs K Y none M H _ _ (g (ds.map Slot.fz ++ List.replicate m Slot.un))
  cases q : g (ds.map Slot.fz ++ List.replicate m Slot.un) with
  | stuck => rw [q] at h; exact h
  | exc e =>
    rw [q] at h
    cases h.1
  | ok r =>
    rw [q] at h
    cases r with
    | rt d S2 => exact fun v H2 r => h v H2 r.ok
    | nx S' => exact fun σ' H' s' _ => h .non H' ⟨s'.same, [], .pur pureD_non .non, .nil, fun _ z => nomatch z⟩
    | bk S' => exact h.elim
    | ct S' => exact h.elim
/-- a def that may raise -/
theorem fnX {x qual : Str} {st : Stmt} {f : Addr} {fd : FuncData} {N ps : List Str} {k n m : Nat} {g : List Slot → Res Fl} (F : Fun K x qual st f fd) (S : FnScope N ps (defScope st)) (hn : ps.length = n) (hm : N.length = n + m)
    (hb : ∀ (cdv : Value) (A : Around) (outer : List Env) (s : Shared) (H : Hp) (E : XK), Room k (A.deeper (PyProof.Rows.envOfC qual (defScope st) s.heap.objs.size f cdv)) →
      JB (cxOf (L2.CX P w) P w K mg base N qual (defScope st) f cdv A outer s H E) Y (some fun cls d _ H' => E cls d H') M (defBody st) g) : FnOk P w K mg base (L2.CX P w) (k + 1) f fd ps (spFn K Y true n (runB m g)) := by
  refine F.okX S (fun vs H Q E ⟨ds, h, _⟩ => by rw [h, hn]) fun cdv A outer s H vs Q E hr ⟨ds, hv, r, h⟩ => ⟨_, hb cdv A outer s H E hr, H, _, sat_start r hv hm, ?_⟩
  unfold runB at h
  show WPs K Y _ M H _ _ (g (ds.map Slot.fz ++ List.replicate m Slot.un))
  cases q : g (ds.map Slot.fz ++ List.replicate m Slot.un) with
  | stuck => rw [q] at h; exact h
  | exc e =>
    rw [q] at h
    exact ⟨_, rfl, fun cls d σ' H' s' x => h.2 cls d H' s' x⟩
  | ok r =>
    rw [q] at h
    cases r with
    | rt d S2 => exact fun v H2 r => h v H2 r.ok
    | nx S' => exact fun σ' H' s' _ => h .non H' ⟨s'.same, [], .pur pureD_non .non, .nil, fun _ z => nomatch z⟩
    | bk S' => exact h.elim
    | ct S' => exact h.elim
end
/-! ### calls -/
def noX {α : Type} : Res α → Res α
  | .exc _ => .stuck
  | r => r
@[simp] theorem noX_ok {α : Type} (a : α) : noX (.ok a) = .ok a := rfl
def xCall (sem : List D → Res D) (fs : En → Res (List D)) : En → Res D := fun en => fs en >>= fun ds => noX (sem ds)
def xCallX (sem : List D → Res D) (fs : En → Res (List D)) : En → Res D := fun en => fs en >>= sem
section
variable {X : Cx} {Y : Cl} {W : Wh} {M : Md} {CX : CXT} {k n : Nat} {f : Addr} {fd : FuncData} {ps : List Str} {sem : List D → Res D} {x : Str} {p pos : Pos} {e : Expr} {es : List Expr} {fs : En → Res (List D)}
theorem WPr.bindL {K : PySem.W.Frag} {σ : St} {H : Hp} {r : Res (List D)} {g : List D → Res D} {Q : D → Prop} (h : WPr K Y W σ H (r >>= g) Q) : WPr K Y W σ H r fun a => WPr K Y W σ H (g a) Q := by
  cases r with
  | ok a => exact h
  | exc e => exact h
  | stuck => exact h
theorem po_ret {K : PySem.W.Frag} {H H1 : Hp} {Q : VK} {d : D} (p : Po K Y .n d H Q) (s1 : Same H H1) (v : V) (H' : Hp) (h : RetOk K Y H1 H' v d) : Q v H' := by
  obtain ⟨s2, fp, o, nd, fr⟩ := h
  exact p v H' fp (s1.trans s2) o nd fun q hq => s1.free (fr q hq)
theorem j_call (F : FnOk X.prog X.w X.K X.mg X.base CX0 k f fd ps (spFn X.K Y false n sem)) (hr : Room k X.A) (hm : X.mg x = some (.ref f)) (hk : PySem.W.keepIn X.K (.ref f) = true) (hb : Binds X.K fd ps []) (ha : A X Y W (e :: es) fs) (hl : (e :: es).length = n := by rfl) (hg : Gl X x := by rfl)
    (hdb : (x == ("__debug__" : Str)) = false := by decide) (he : starEach (e :: es) X.env = (false, eval e X.env) :: starEach es X.env := by rfl) (hpl : (backTo pos (starEach es X.env)).any (·.1) = false := by rfl) :
    J X Y W .n (.Call (.Name x p) (e :: es) [] pos) (xCall sem fs) :=
  PE.imp (pe_call F hr hg hm hk hb .nil pass0 ha hdb he hpl) fun σ H Q ⟨en, hE, h⟩ => ⟨en, hE, (WPr.bindL h).imp (Same.refl H) fun ds p => by
    intro vs H1 s1 r1 l1
    rw [List.append_nil]
    refine ⟨ds, l1.trans hl, r1, ?_⟩
    cases q : sem ds with
    | stuck => rw [q] at p; exact p.elim
    | exc e => rw [q] at p; exact p.elim
    | ok d =>
      rw [q] at p
      exact fun v H' h => po_ret p s1 v H' h⟩
/-- a callee that may raise, where the wish is w -/
theorem j_callX {w : WX} (F : FnOk X.prog X.w X.K X.mg X.base (L2.CX X.prog X.w) k f fd ps (spFn X.K Y true n sem)) (hr : Room k X.A) (hm : X.mg x = some (.ref f)) (hk : PySem.W.keepIn X.K (.ref f) = true) (hb : Binds X.K fd ps []) (tk : Takes X w) (ha : A X Y (some w) (e :: es) fs) (hl : (e :: es).length = n := by rfl) (hg : Gl X x := by rfl)
    (hdb : (x == ("__debug__" : Str)) = false := by decide) (he : starEach (e :: es) X.env = (false, eval e X.env) :: starEach es X.env := by rfl) (hpl : (backTo pos (starEach es X.env)).any (·.1) = false := by rfl) :
    J X Y (some w) .n (.Call (.Name x p) (e :: es) [] pos) (xCallX sem fs) :=
  PE.imp (pe_callS F hr hg hm hk hb (fun σ => passAt tk σ) ha hdb he hpl) fun σ H Q ⟨en, hE, h⟩ => ⟨en, hE, (WPr.bindL h).imp (Same.refl H) fun ds p => by
    intro vs H1 s1 r1 l1
    refine ⟨ds, l1.trans hl, r1, ?_⟩
    cases q : sem ds with
    | stuck => rw [q] at p; exact p.elim
    | exc e =>
      rw [q] at p
      obtain ⟨w', hw, b⟩ := p
      cases hw
      exact ⟨rfl, fun cls d H' s' x => b cls d H' (s1.trans s') x⟩
    | ok d =>
      rw [q] at p
      exact fun v H' h => po_ret p s1 v H' h⟩
end

/-! ### raise -/
def sRaise (c : Nat) : List Slot → Res Fl := fun _ => .exc ⟨c, []⟩
def sRaise1 (c : Nat) (f : En → Res D) : List Slot → Res Fl := fun S => f (en S) >>= fun d => .exc ⟨c, [d]⟩
section
variable {X : Cx} {Y : Cl} {M : Md} {st : Stmt} {pos : Pos} {f : En → Res D} {c : Nat}
theorem s_raise0 : JS X Y none M st (sRaise c) := PS.imp ps_never fun D σ H ⟨F, S, s, h⟩ => by
  obtain ⟨w, a, _⟩ := h
  cases a
theorem s_raise0' : JS X Y none M st (sRaise1 c f) := PS.imp ps_never fun D σ H ⟨F, S, s, h⟩ => by
  unfold sRaise1 at h
  cases q : f (en S) with
  | stuck => rw [q] at h; exact h
  | exc e =>
    rw [q] at h
    obtain ⟨w, a, _⟩ := h
    cases a
  | ok d =>
    rw [q] at h
    obtain ⟨w, a, _⟩ := h
    cases a
theorem s_raise {w : WX} {x m : Str} {j : Nat} {p p2 pc : Pos} {B newId initId : String} {bmB : List Value} (hc : X.calm = true) (tk : Takes X w) (Fb : ExcBaseFacts B newId initId bmB) (q : PySem.W.excIn X.K (Y.at_ c) bmB newId = true) (gC : X.mg x = some (.ref (Y.at_ c)))
    (kC : PySem.W.keepIn X.K (.ref (Y.at_ c)) = true) (r : Raises X (.ref (Y.at_ c))) (hg : Gl X x := by rfl) (hdb : (x == ("__debug__" : Str)) = false := by decide) :
    JS X Y (some w) M (.Raise (some (.Call (.Name x p) [.Constant (.str m) j p2] [] pc)) none pos) (sRaise c) :=
  PS.imp (ps_raise hc tk (pmk_own Fb q gC kC r hg hdb)) fun D σ H ⟨F, S, s, h⟩ => by
    obtain ⟨w', hw, b⟩ := h
    cases hw
    exact b _ _ σ H s.same ⟨rfl, .inl ⟨rfl, rfl⟩⟩
end

/-! ### try: a call, its error kept under a name -/
section
variable {X : Cx} {pins : List (Addr × Obj)} {σ : St} {H : Hp} {s : Shared}
/-- an exception object of ours that nobody tracks is tracked from now on -/
theorem inv_track {a : Addr} {oe : Obj} {vs : Array Value} {cls : Value} {d : Option Addr} (I : Inv X pins σ H s) (ha : s.heap.get? a = some oe) (hz : Zc cls d oe) (hd : oe.data = .fields vs) (h0 : X.s_0.heap.get? a = none) (hn : H a = none) (hL : a ≠ X.env.locals)
    (hp : ∀ p ∈ X.pn ++ pins, p.1 ≠ a) : Inv X pins σ (upd H a (ExV cls d a)) s := by
  have ne0 : ∀ b o, X.s_0.heap.get? b = some o → b ≠ a := fun b o e z => by rw [z, h0] at e; cases e
  have neH : ∀ b o, H b = some o → b ≠ a := fun b o e => ne_of_none e hn
  refine ⟨I.ok, I.os, I.bare, ⟨I.base.keep, I.base.slot, fun b o e n hx => ?_, I.base.there, fun b xs e => ?_, fun b o xs e => ?_, fun b ps e => ?_⟩, I.loc, I.cell, ?_, fun x c e => ?_, fun p hq => ?_, fun b u e => ?_, I.len⟩
  · rw [upd_ne (ne0 b o e)]
    exact I.base.free b o e n hx
  · have q := I.base.tups b xs e
    rw [upd_ne (neH b _ q)]
    exact q
  · have q := I.base.frzs b o xs e
    rw [upd_ne (neH b _ q)]
    exact q
  · obtain ⟨m, q⟩ := I.base.tbls b ps e
    exact ⟨m, by rw [upd_ne (neH b _ q)]; exact q⟩
  · rw [upd_ne hL.symm]
    exact I.free
  · have hc : c ≠ a := fun z => by
      obtain ⟨v, o, ho, hdc⟩ := I.cell x c e
      rw [z, ha] at ho
      cases ho
      rw [hd] at hdc
      cases hdc
    rw [upd_ne hc]
    exact I.freeC x c e
  · obtain ⟨e, n, ne, nf, dd⟩ := I.pin p hq
    exact ⟨e, by rw [upd_ne (hp p hq)]; exact n, ne, nf, dd⟩
  · by_cases hb : b = a
    · subst hb
      rw [upd_same] at e
      cases e
      exact ⟨⟨oe, vs, ha, hz, hd⟩, ⟨oe, ha⟩, fun h1 h2 ⟨o, v, q, z, r⟩ k => ⟨o, v, k o q, z, r⟩⟩
    · rw [upd_ne hb] at e
      exact (I.hok b u e).stay (fun c v hc q => q) (fun c q => by rw [upd_ne (neH c _ q)]; exact q) fun c xs q => by rw [upd_ne (neH c _ q)]; exact q
end
/-- as wAs, the exception tracked behind the suite -/
def wKeep (K : PySem.W.Frag) (c : Value) (i : Nat) (ts : Addr → Value → Option Addr → TS) (D : Ends) : WX := fun cls d σ H =>
  PySem.W.exmOne K cls c = some true ∧ ∀ a, H a = none → ts a cls d { nx := fun σ' H' => D.nx (σ'.set i none) (upd H' a (ExV cls d a)), rt := fun _ _ => False, bk := fun _ _ => False, ct := fun _ _ => False } (σ.set i (some (.ref a))) H
section
variable {X : Cx} {x n : Str} {c : Value} {i : Nat} {body suite : List Stmt} {b₀ : Stmt} {np pos pos' : Pos} {tb : WX → TS} {ts : Addr → Value → Option Addr → TS}
theorem ps_try_keep (hs : X.stack = X.env :: X.outer) (hf : X.env.frame = some X.env.locals) (hex : X.ex = []) (hN : X.N.Nodup) (hi : X.N[i]? = some n) (hln : X.env.kindOf n = some .local) (hc : Names X x c)
    (hb : ∀ (W : WX) (pn : List (Addr × Obj)) (xe : Value → Shared → Prop), Takes (X.tr pn xe) W → PassesOwn (model X.prog X.w) X.A X.env xe → PSs (X.tr pn xe) body (tb W))
    (hsu : ∀ (a : Addr) (oe : Obj) (cls : Value) (d : Option Addr) (pn : List (Addr × Obj)), Zc cls d oe → (∃ vs, oe.data = .fields vs) → PSs (X.suite a ((a, oe) :: pn)) (b₀ :: suite) (ts a cls d)) :
    PS X (.Try body [.ExceptHandler (some (.Name x np)) (some n) (b₀ :: suite) pos'] [] [] pos) (fun D σ H => tb (wKeep X.K c i ts D) D σ H) := by
  refine ⟨fun pins s σ H D I h => ?_⟩
  have ok := I.ok
  have hfr : X.A.frames = some (X.env :: X.outer) := by rw [ok.frames, hs]
  have hloc : Loc X.env.scope n := .inl hln
  refine wpAny_Try_except ?_
  refine wpAny_mono ((hb (wKeep X.K c i ts D) (X.pn ++ pins) (fun e s₁ => wpAny (model X.prog X.w) X.A (noteFrame e X.env) (fun _ s₂ => wpAny (model X.prog X.w) X.A (setFlight e none) (fun _ s₃ =>
    wpAny (model X.prog X.w) X.A (handleBy e X.env [.ExceptHandler (some (.Name x np)) (some n) (b₀ :: suite) pos']) (SP X pins D) X.xe s₃) X.xe s₂) X.xe s₁) (fun u s' xx => ?_) PassesOwn.looking).run [] s σ H D (I.toTry _) h) (fun f s1 hsp => ?_) (fun e s1 he => he)
  · -- the catch
    obtain ⟨a, B, sI, pins', σ', H', cls, d, rfl, J', nb, up, sky, na, os, ag, hb1, hyes⟩ := xx
    have J : Inv X pins σ' H' sI := J'.ofTry ok
    have sky' : Sky B (X.env :: X.outer) a (Zc cls d) X.env.locals s'.heap := by rw [← hs]; exact sky
    show wpAny (model X.prog X.w) X.A (noteFrame (.ref a) X.env) _ _ _
    refine Sky.land Zc.steady hfr hf sky' fun h3 fl3 up3 => ?_
    have J3 : Inv X pins σ' H' { s' with heap := h3 } := J.landed nb fl3.1 (up.trans up3) os ag
    obtain ⟨oe3, vs3, he3, hz3, hd3⟩ := fl3.there
    have notFr : ∀ {h : Heap} {o : Obj} {vs : Array Value}, h.FunFrames B (X.env :: X.outer) → h.get? a = some o → o.data = .fields vs → a ∉ frs (X.env :: X.outer) := fun {h o vs} ff e dd hm => by
      obtain ⟨_, o', e', hnf⟩ := ff.mem hm
      rw [e] at e'; cases e'
      exact hnf _ dd
    have nfr := notFr fl3.2.2.1 he3 hd3
    have nL : a ≠ X.env.locals := fun z => nfr (List.mem_filterMap.mpr ⟨X.env, List.mem_cons_self, by rw [hf, z]⟩)
    have nF : a ∉ X.fs := fun hm => by
      obtain ⟨e, he, q⟩ := List.mem_filterMap.mp hm
      exact nfr (List.mem_filterMap.mpr ⟨e, List.mem_cons_of_mem _ he, q⟩)
    have nI : sI.heap.get? a = none := by
      cases q : sI.heap.get? a with
      | none => rfl
      | some o =>
        have z := nb a o q (by rw [hs]; exact nfr)
        rw [fl3.2.1] at z
        cases z
    have n0 : X.s_0.heap.get? a = none := by
      cases q : X.s_0.heap.get? a with
      | none => rfl
      | some o =>
        obtain ⟨o', e'⟩ := J.base.there a o q (by rw [hex]; exact fun z => nomatch z)
        rw [nI] at e'
        cases e'
    have npin : ∀ p ∈ X.pn ++ pins, p.1 ≠ a := fun p hp z => by
      have q := (J.pin p hp).1
      rw [z, nI] at q
      cases q
    have S3 := J3.suite he3 hd3 na nL nF
    refine wpAny_handleBy_cons (codeAny_handlers_test ?_) (by intro q; cases q)
    have LT : PySem.W.Looks (model X.prog X.w) h3 (typeOf (.ref a)) cls := fun A Q E s k q => wpAny_typeOf_ref (k _ _ he3) (by rw [hz3.1]; exact q)
    have LM := PySem.W.exm_one (M := model X.prog X.w) (J3.kIn) LT hb1
    have test : ∀ {Q : Value → Shared → Prop} {E : Value → Shared → Prop}, Q c { s' with heap := h3 } → wpAny (model X.prog X.w) (X.A.mark (some (.ref a))) (eval (.Name x np) X.env) Q E { s' with heap := h3 } := fun {Q E} q => by
      obtain ⟨hg, hdbg, hm | ⟨hm, hv, hnn⟩⟩ := hc
      · exact ld_glob (X := X.suite a ((a, oe3) :: (X.pn ++ pins))) S3 hg hm q hdbg
      · exact ld_blt (X := X.suite a ((a, oe3) :: (X.pn ++ pins))) S3 hg hm hv q hnn hdbg
    refine test (LM.here ?_)
    refine codeAny_handlers_suite_as ?_
    refine HandSPX.lands_againZ fl3 fun h4 fl4 up4 => ?_
    have J4 : Inv X pins σ' H' { s' with heap := h4 } := J.landed nb fl4.1 ((up.trans up3).trans up4) os ag
    obtain ⟨oe4, vs4, he4, hz4, hd4⟩ := fl4.there
    have S4 := J4.suite he4 hd4 na nL nF
    refine store_ok (X := X.suite a ((a, oe4) :: (X.pn ++ pins))) (v := .ref a) S4 hN hi hloc rfl (fun s5 S5 => ?_) (.inr hln)
    refine wpAny_mono ((hsu a oe4 cls d (X.pn ++ pins) hz4 ⟨_, hd4⟩).run [] s5 _ H' _ S5 (hyes a na)) (fun f s6 hsp => ?_) (fun _ _ z => False.elim z)
    cases f with
    | next =>
      obtain ⟨σ6, H6, S6, q6⟩ := hsp
      have P6 : Inv X (pins ++ [(a, oe4)]) σ6 H6 s6 := ⟨ok, S6.os, S6.bare, S6.base, S6.loc, S6.cell, S6.free, S6.freeC, fun p hp => S6.pin p (by
        rw [List.append_nil]
        show p ∈ (a, oe4) :: (X.pn ++ pins)
        rcases List.mem_append.mp hp with h1 | h1
        · exact List.mem_cons_of_mem _ (List.mem_append_left _ h1)
        · rcases List.mem_append.mp h1 with h2 | h2
          · exact List.mem_cons_of_mem _ (List.mem_append_right _ h2)
          · rw [List.mem_singleton.mp h2]
            exact List.mem_cons_self), S6.hok, S6.len⟩
      refine gone_ok P6 hN hi hln fun s7 J7 => ?_
      have pa := J7.pin (a, oe4) (List.mem_append_right _ (List.mem_append_right _ (List.mem_singleton.mpr rfl)))
      have K7 : Inv X pins (σ6.set i none) H6 s7 := J7.unpinned
      exact ⟨_, _, inv_track K7 pa.1 hz4 hd4 n0 pa.2.1 nL npin, q6⟩
    | brk =>
      obtain ⟨σ6, H6, S6, q6⟩ := hsp
      exact q6.elim
    | cont =>
      obtain ⟨σ6, H6, S6, q6⟩ := hsp
      exact q6.elim
    | ret u =>
      obtain ⟨v6, σ6, H6, S6, r6, q6⟩ := hsp
      exact q6.elim
  · cases f with
    | next =>
      obtain ⟨σ', H', J', q⟩ := hsp
      exact wpAny_execs_nil ⟨σ', H', J'.ofTry ok, q⟩
    | brk =>
      obtain ⟨σ', H', J', q⟩ := hsp
      exact ⟨σ', H', J'.ofTry ok, q⟩
    | cont =>
      obtain ⟨σ', H', J', q⟩ := hsp
      exact ⟨σ', H', J'.ofTry ok, q⟩
    | ret u =>
      obtain ⟨v, σ', H', J', r, q⟩ := hsp
      exact ⟨v, σ', H', J'.ofTry ok, r, q⟩
end
theorem PS.impL {X : Cx} {e : Stmt} {t t' : TS} (h : PS X e t) (f : ∀ D σ H, σ.length = X.N.length → t' D σ H → t D σ H) : PS X e t' := ⟨fun pins s σ H D I q => h.run pins s σ H D I (f D σ H I.len q)⟩
/-- what is told of a caught error -/
def sTry (i v : Nat) (ex : Nat → Bool) (f : En → Res D) : List Slot → Res Fl := fun S => match f (en S) with
  | .ok _ => .ok (.nx S)
  | .exc e => if (ex e.c && pureDs e.xs) = true then .ok (.nx (setS (setS (setS S i .un) v (.fz (.exc e.c e.xs))) i .un)) else .stuck
  | .stuck => .stuck
section
variable {K : PySem.W.Frag} {Y : Cl} {F H H' : Hp} {S : List Slot} {σ : St}
theorem Sat.setUn (h : Sat K Y F S σ H) (i : Nat) (v : Option V) : Sat K Y F (setS S i .un) (σ.set i v) H := by
  obtain ⟨G, w, fp, s⟩ := h
  refine ⟨G, w, fp, s.fg, s.gh, s.fx, by rw [setS_len, List.length_set]; exact s.len, fun k y hy => ?_⟩
  rcases setS_get hy with ⟨rfl, rfl, hl⟩ | ⟨hk, z, hz, hzy⟩
  · trivial
  · have h := s.ok k z hz
    rcases kill_ne hzy with ⟨e, _⟩ | ⟨e, hn⟩
    · subst e
      trivial
    · subst e
      cases z with
      | un => trivial
      | own d =>
        obtain ⟨u, a, b⟩ := h
        exact ⟨u, by rw [List.getElem?_set_ne (Ne.symm hk)]; exact a, b⟩
      | fz d =>
        obtain ⟨u, a, b⟩ := h
        exact ⟨u, by rw [List.getElem?_set_ne (Ne.symm hk)]; exact a, b⟩
      | ali t j =>
        obtain ⟨ds, p, vs, u, h1, h2, h3, h4, h5, h6⟩ := h
        have ht : t ≠ i := fun q => hn j (by rw [q])
        exact ⟨ds, p, vs, u, setS_ne h1 (fun j q => nomatch q) ht, h2, by rw [List.getElem?_set_ne (Ne.symm ht)]; exact h3, h4, h5, by rw [List.getElem?_set_ne (Ne.symm hk)]; exact h6⟩
/-- an error that lies behind a raise, held at a -/
theorem ExRep.held {e : Err} {cls : Value} {d : Option Addr} {a : Addr} (h : ExRep K Y H e cls d) (ha : H a = none) : Rep K Y (upd H a (ExV cls d a)) (.ref a) (.exc e.c e.xs) := by
  have sm : Same H (upd H a (ExV cls d a)) := fun b o q => by rw [upd_ne (ne_of_none q ha)]; exact q
  obtain ⟨rfl, h⟩ := h
  rcases h with ⟨h1, rfl⟩ | ⟨x, dd, v, h1, rfl, h3, h4⟩
  · rw [h1]
    exact .exc0 upd_same
  · rw [h1]
    exact .exc1 upd_same (sm _ _ h3) (h4.mono sm)
end
section
variable {X : Cx} {Y : Cl} {W : Wh} {M : Md} {i v : Nat} {x n y : Str} {call : Expr} {f : En → Res D} {ex : Nat → Bool} {C : Value} {np p1 p2 p3 pos pos' pe : Pos}
theorem s_try (hs : X.stack = X.env :: X.outer) (hf : X.env.frame = some X.env.locals) (hex : X.ex = []) (hN : X.N.Nodup) (hc : Names X x C) (he : ∀ c, ex c = true → PySem.W.exmOne X.K (.ref (Y.at_ c)) C = some true)
    (hb : ∀ (w : WX) (pn : List (Addr × Obj)) (xe : Value → Shared → Prop), Takes (X.tr pn xe) w → J (X.tr pn xe) Y (some w) .r call f)
    (hi : X.N[i]? = some n := by rfl) (hv : X.N[v]? = some y := by rfl) (hiv : i ≠ v := by decide) (hln : X.env.kindOf n = some .local := by rfl) (hly : X.env.scope.names.lookup y = some .local := by rfl)
    (hMi : M i = true := by rfl) (hMv : M v = true := by rfl) (hsw : ∀ pn xe, swapsWith call none pe.line (X.tr pn xe).env = pure false := by exact fun _ _ => rfl)
    (hd : (n == ("__debug__" : Str)) = false := by decide) (hcd : (n == ("__classdict__" : Str)) = false := by decide)
    (hsv : ∀ a pn, swapsWith (.Name n p2) (some (.Name y p1)) p3.line (X.suite a pn).env = pure false := by exact fun _ _ => rfl) :
    JS X Y W M (.Try [.Expr call pe] [.ExceptHandler (some (.Name x np)) (some n) [.Assign [.Name y p1] (.Name n p2) p3] pos'] [] [] pos) (sTry i v ex f) :=
  PS.impL (ps_try_keep (tb := fun w => tDrop (tJ X.K Y (some w) .r f)) (ts := fun _ _ _ => tAsg (tVar i) (gName v)) hs hf hex hN hi hln hc
    (fun w pn xe tk _ => pss_one (ps_expr (hb w pn xe tk) (hsw pn xe)))
    (fun a oe cls d pn _ _ => pss_one (ps_set (X := X.suite a ((a, oe) :: pn)) hN hv (.inl hly) (pe_var hi (.inl hln) hd hcd) (hsv _ _) (.inr hly)))) fun D σ H hlen ⟨F, S, s, h⟩ => by
    unfold sTry at h
    refine ⟨en S, s.en, ?_⟩
    cases q : f (en S) with
    | stuck => rw [q] at h; exact h
    | ok d =>
      rw [q] at h
      exact fun v H' sh r => h σ H' (s.ext sh) (Stay.refl M σ)
    | exc e =>
      rw [q] at h
      dsimp only at h
      by_cases hp : (ex e.c && pureDs e.xs) = true
      · rw [if_pos hp] at h
        have hp' := Bool.and_eq_true_iff.mp hp
        refine ⟨_, rfl, fun cls d H' sh xr => ⟨?_, fun a ha => ?_⟩⟩
        · obtain ⟨rfl, _⟩ := xr
          exact he e.c hp'.1
        · have hil : i < σ.length := by
            rw [hlen]
            exact (List.getElem?_eq_some_iff.mp hi).1
          refine ⟨.ref a, List.getElem?_set_self hil, ?_⟩
          have sm : Same H' (upd H' a (ExV cls d a)) := fun b o z => by rw [upd_ne (ne_of_none z ha)]; exact z
          refine h _ _ ((((s.ext sh).setUn i _).setPure sm (xr.held ha) ?_).setUn i none) ?_
          · rw [pureD_exc]
            exact hp'.2
          · exact ((Stay.set hMi).trans (Stay.set hMv)).trans (Stay.set hMi)
      · rw [if_neg hp] at h
        exact h.elim
end
end Ow
end
section
set_option linter.all false
set_option maxRecDepth 100000
set_option maxHeartbeats 2000000
/-! Ow6: built-in calls, slices, loops. -/
namespace Ow
open PySem L2 PySem.Spec

section
variable {X : Cx} {Y : Cl} {W : Wh} {k : Kd} {a b : Expr} {fa fb : En → Res D} {pos p : Pos} {x : Str}
/-- a built-in type called with one value -/
theorem j_ct1 {r : List V → Hp → VK → Prop} {o : D → Res D} {id : String} (hc : CallR X (.type id) r) (hr : ∀ H v d Q, Rep X.K Y H v d → (∃ z, o d = .ok z ∧ Po X.K Y k z H Q) → r [v] H Q) (hm : Calm1 o)
    (hg : Gl X x) (hmg : X.mg x = none) (hv : bootBuiltins x = some (.type id)) (ha : J X Y W .r a fa) (hn : x ≠ "__name__" := by decide) (hdb : (x == ("__debug__" : Str)) = false := by decide)
    (hs : starEach (a :: []) X.env = (false, eval a X.env) :: starEach [] X.env := by rfl) (hpl : (backTo pos (starEach [] X.env)).any (·.1) = false := by rfl) : J X Y W k (.Call (.Name x p) [a] [] pos) (x1 o fa) :=
  PE.imp (pe_callTy hc hg hmg hv (pa_cons ha pa_nil hs) hn hdb hs hpl) fun σ H Q ⟨en, he, h⟩ => ⟨en, he, (WPr.bind h).imp (Same.refl H) fun d p => by
    intro v H1 s1 r1
    obtain ⟨z, ez, pz⟩ := WPr.calm (hm d) p
    exact hr H1 v d Q r1 ⟨z, ez, pz.mono s1⟩⟩
/-- .. with two -/
theorem j_cb2 {r : List V → Hp → VK → Prop} {o : D → D → Res D} {id : String} (hc : CallR X (.builtin id) r) (hr : ∀ H v u d e Q, Rep X.K Y H v d → Rep X.K Y H u e → (∃ z, o d e = .ok z ∧ Po X.K Y k z H Q) → r [v, u] H Q) (hm : Calm2 o)
    (hg : Gl X x) (hmg : X.mg x = none) (hv : bootBuiltins x = some (.builtin id)) (ha : J X Y W .r a fa) (hb : J X Y W .r b fb) (hn : x ≠ "__name__" := by decide) (hdb : (x == ("__debug__" : Str)) = false := by decide)
    (hs : starEach (a :: [b]) X.env = (false, eval a X.env) :: starEach [b] X.env := by rfl) (hs2 : starEach (b :: []) X.env = (false, eval b X.env) :: starEach [] X.env := by rfl) (hpl : (backTo pos (starEach [b] X.env)).any (·.1) = false := by rfl) :
    J X Y W k (.Call (.Name x p) [a, b] [] pos) (x2 o fa fb) :=
  PE.imp (pe_callB hc hg hmg hv (pa_cons ha (pa_cons hb pa_nil hs2) hs) hn hdb hs hpl) fun σ H Q ⟨en, he, h⟩ => by
    refine ⟨en, he, (WPr.bind h).imp (Same.refl H) fun d p => ?_⟩
    intro v H1 s1 r1
    refine ⟨en, he.mono s1, (WPr.bind p).imp s1 fun e q => ?_⟩
    intro u H2 s2 r2
    obtain ⟨z, ez, pz⟩ := WPr.calm (hm d e) q
    exact hr H2 v u d e Q (r1.mono s2) r2 ⟨z, ez, pz.mono (s1.trans s2)⟩
def oLen : D → Res D
  | .lst ds => .ok (.int ds.length)
  | .tup ds => .ok (.int ds.length)
  | .scr ns => .ok (.int ns.length)
  | .str z => if szOk z.length = true then .ok (.int z.length) else .stuck
  | _ => .stuck
theorem oLen_calm : Calm1 oLen := fun d x => by
  unfold oLen
  split <;> first | (intro h; cases h; done) | (split <;> (intro h; cases h))
theorem j_len (hg : Gl X "len") (hm : X.mg "len" = none) (ha : J X Y W .r a fa) (hs : starEach (a :: []) X.env = (false, eval a X.env) :: starEach [] X.env := by rfl) (hpl : (backTo pos (starEach [] X.env)).any (·.1) = false := by rfl) : J X Y W k (.Call (.Name "len" p) [a] [] pos) (x1 oLen fa) :=
  j_cb1 call_len (fun H v d Q r ⟨z, hz, po⟩ => by
    unfold oLen at hz
    split at hz
    · cases hz
      cases r with
      | lst h q => exact ⟨_, _, rfl, .inl ⟨_, SqL.of h, rfl⟩, by rw [q.length]; exact po.pure (Same.refl H) .int (pureD_int _)⟩
    · cases hz
      cases r with
      | tup h q => exact ⟨_, _, rfl, .inr ⟨_, h, rfl⟩, by rw [q.length]; exact po.pure (Same.refl H) .int (pureD_int _)⟩
    · cases hz
      cases r with
      | scr h => exact ⟨_, _, rfl, .inl ⟨_, h, rfl⟩, by rw [List.length_map]; exact po.pure (Same.refl H) .int (pureD_int _)⟩
    · split at hz
      · rename_i hs
        cases hz
        cases r with
        | str => exact ⟨_, _, rfl, ⟨szOk_le hs, rfl⟩, po.pure (Same.refl H) .int (pureD_int _)⟩
      · cases hz
    · cases hz) oLen_calm hg hm PySem.boot_len ha (by decide) (by decide) hs hpl
def oAbs : D → Res D
  | .int i => .ok (.int (if i < 0 then -i else i))
  | _ => .stuck
theorem oAbs_calm : Calm1 oAbs := fun d x => by
  unfold oAbs
  split <;> exact fun h => nomatch h
theorem j_abs (hg : Gl X "abs") (hm : X.mg "abs" = none) (ha : J X Y W .r a fa) (hs : starEach (a :: []) X.env = (false, eval a X.env) :: starEach [] X.env := by rfl) (hpl : (backTo pos (starEach [] X.env)).any (·.1) = false := by rfl) : J X Y W k (.Call (.Name "abs" p) [a] [] pos) (x1 oAbs fa) :=
  j_cb1 call_abs (fun H v d Q r ⟨z, hz, po⟩ => by
    unfold oAbs at hz
    split at hz
    · cases hz
      cases r
      exact ⟨_, rfl, po.pure (Same.refl H) .int (pureD_int _)⟩
    · cases hz) oAbs_calm hg hm (by decide +kernel) ha (by decide) (by decide) hs hpl
def oInt : D → Res D
  | .int i => .ok (.int i)
  | .bl c => .ok (.int (if c then 1 else 0))
  | _ => .stuck
theorem oInt_calm : Calm1 oInt := fun d x => by
  unfold oInt
  split <;> exact fun h => nomatch h
theorem j_intc (hg : Gl X "int") (hm : X.mg "int" = none) (ha : J X Y W .r a fa) (hs : starEach (a :: []) X.env = (false, eval a X.env) :: starEach [] X.env := by rfl) (hpl : (backTo pos (starEach [] X.env)).any (·.1) = false := by rfl) : J X Y W k (.Call (.Name "int" p) [a] [] pos) (x1 oInt fa) :=
  j_ct1 call_int1 (fun H v d Q r ⟨z, hz, po⟩ => by
    unfold oInt at hz
    split at hz
    · cases hz
      cases r
      exact .inl ⟨_, rfl, po.pure (Same.refl H) .int (pureD_int _)⟩
    · cases hz
      cases r
      exact .inr ⟨_, rfl, po.pure (Same.refl H) .int (pureD_int _)⟩
    · cases hz) oInt_calm hg hm (by decide +kernel) ha (by decide) (by decide) hs hpl
def oMin : D → D → Res D := oI (fun _ _ => true) (iI fun i j => if j < i then j else i)
def oMax : D → D → Res D := oI (fun _ _ => true) (iI fun i j => if j > i then j else i)
theorem j_min2 (hc : X.calm = true) (hg : Gl X "min") (hm : X.mg "min" = none) (ha : J X Y W .r a fa) (hb : J X Y W .r b fb) (hs : starEach (a :: [b]) X.env = (false, eval a X.env) :: starEach [b] X.env := by rfl) (hs2 : starEach (b :: []) X.env = (false, eval b X.env) :: starEach [] X.env := by rfl) (hpl : (backTo pos (starEach [b] X.env)).any (·.1) = false := by rfl) :
    J X Y W k (.Call (.Name "min" p) [a, b] [] pos) (x2 oMin fa fb) :=
  j_cb2 (call_min2 hc) (fun H v u d e Q r q ⟨z, hz, po⟩ => by
    unfold oMin oI at hz
    split at hz
    · rw [if_pos rfl] at hz
      cases hz
      cases r
      cases q
      exact ⟨_, _, rfl, po.pure (Same.refl H) .int (pureD_int _)⟩
    · cases hz) (oI_calm _ _) hg hm (by decide +kernel) ha hb (by decide) (by decide) hs hs2 hpl
theorem j_max2 (hc : X.calm = true) (hg : Gl X "max") (hm : X.mg "max" = none) (ha : J X Y W .r a fa) (hb : J X Y W .r b fb) (hs : starEach (a :: [b]) X.env = (false, eval a X.env) :: starEach [b] X.env := by rfl) (hs2 : starEach (b :: []) X.env = (false, eval b X.env) :: starEach [] X.env := by rfl) (hpl : (backTo pos (starEach [b] X.env)).any (·.1) = false := by rfl) :
    J X Y W k (.Call (.Name "max" p) [a, b] [] pos) (x2 oMax fa fb) :=
  j_cb2 (call_max2 hc) (fun H v u d e Q r q ⟨z, hz, po⟩ => by
    unfold oMax oI at hz
    split at hz
    · rw [if_pos rfl] at hz
      cases hz
      cases r
      cases q
      exact ⟨_, _, rfl, po.pure (Same.refl H) .int (pureD_int _)⟩
    · cases hz) (oI_calm _ _) hg hm (by decide +kernel) ha hb (by decide) (by decide) hs hs2 hpl

/-! ### list(..), slices, + -/
theorem same_new {H : Hp} {q : Addr} {o : HO} (hq : H q = none) : Same H (upd H q o) := fun b u e => by rw [upd_ne (ne_of_none e hq)]; exact e
/-- a new list of pure items, at q -/
theorem po_new {K : PySem.W.Frag} {H : Hp} {Q : VK} {q : Addr} {vs : List V} {ds : List D} (po : Po K Y k (.lst ds) H Q) (r : Reps K Y H vs ds) (hp : pureDs ds = true) (hq : H q = none) : Q (.ref q) (upd H q (.lst vs)) := by
  cases k with
  | r => exact po _ _ (same_new hq) (.lst upd_same (r.mono (same_new hq)))
  | n => exact po _ _ [q] (same_new hq) (.lst upd_same (.pur (r.mono (same_new hq)) hp)) (by simp) fun p hm => by rw [List.mem_singleton.mp hm]; exact hq
theorem pureDs_ints (ns : List Int) : pureDs (ns.map D.int) = true := by
  rw [pureDs_iff]
  intro d hd
  obtain ⟨n, _, rfl⟩ := List.mem_map.mp hd
  exact pureD_int n
def oList : D → Res D
  | .lst ds => if pureDs ds = true then .ok (.lst ds) else .stuck
  | .tup ds => if pureDs ds = true then .ok (.lst ds) else .stuck
  | .scr ns => .ok (.lst (ns.map .int))
  | _ => .stuck
theorem oList_calm : Calm1 oList := fun d x => by
  unfold oList
  split <;> first | (intro h; cases h; done) | (split <;> (intro h; cases h))
theorem j_list (hg : Gl X "list") (hm : X.mg "list" = none) (ha : J X Y W .r a fa) (hs : starEach (a :: []) X.env = (false, eval a X.env) :: starEach [] X.env := by rfl) (hpl : (backTo pos (starEach [] X.env)).any (·.1) = false := by rfl) : J X Y W k (.Call (.Name "list" p) [a] [] pos) (x1 oList fa) :=
  j_ct1 call_list_of (fun H v d Q r ⟨z, hz, po⟩ => by
    unfold oList at hz
    split at hz
    · split at hz
      · rename_i hp
        cases hz
        cases r with
        | lst h q => exact ⟨_, _, rfl, .inl (SqL.of h), fun l hl => po_new po q hp hl⟩
      · cases hz
    · split at hz
      · rename_i hp
        cases hz
        cases r with
        | tup h q => exact ⟨_, _, rfl, .inr h, fun l hl => po_new po q hp hl⟩
      · cases hz
    · cases hz
      cases r with
      | scr h => exact ⟨_, _, rfl, .inl h, fun l hl => po_new po (.of_ints _) (pureDs_ints _) hl⟩
    · cases hz) oList_calm hg hm (by decide +kernel) ha (by decide) (by decide) hs hpl
def cutG {α : Type} (xs : List α) (lo hi : Option Int) : List α := (xs.drop (HT.sIx xs.length 0 lo)).take (HT.sIx xs.length xs.length hi - HT.sIx xs.length 0 lo)
theorem cutV_eq (xs : List V) (lo hi : Option Int) : cutV xs lo hi = cutG xs lo hi := rfl
theorem Reps.cut {K : PySem.W.Frag} {H : Hp} {vs : List V} {ds : List D} (r : Reps K Y H vs ds) (lo hi : Option Int) : Reps K Y H (cutG vs lo hi) (cutG ds lo hi) := by
  unfold cutG
  rw [r.length]
  exact (r.drop _).take _
theorem cutG_map {α β : Type} (f : α → β) (xs : List α) (lo hi : Option Int) : cutG (xs.map f) lo hi = (cutG xs lo hi).map f := by
  unfold cutG
  rw [List.length_map, ← List.map_drop, ← List.map_take]
theorem pureDs_sub {ds es : List D} (h : pureDs ds = true) (hs : ∀ d ∈ es, d ∈ ds) : pureDs es = true := pureDs_iff.mpr fun d hd => pureDs_iff.mp h d (hs d hd)
theorem cutG_mem {α : Type} {xs : List α} {lo hi : Option Int} {x : α} (h : x ∈ cutG xs lo hi) : x ∈ xs := List.mem_of_mem_drop (List.mem_of_mem_take h)
/-- a part of a slice -/
def pN : En → Res (Option Int) := fun _ => .ok none
def pS (f : En → Res D) : En → Res (Option Int) := fun en => f en >>= fun d => match d with
  | .int i => .ok (some i)
  | _ => .stuck
def tO (K : PySem.W.Frag) (Y : Cl) (W : Wh) (f : En → Res (Option Int)) : TO := fun σ H Q => ∃ en, EnOk K Y H σ en ∧ WPr K Y W σ H (f en) fun o => ∀ H', Same H H' → Q o H'
def O (X : Cx) (Y : Cl) (W : Wh) (e : Option Expr) (f : En → Res (Option Int)) : Prop := PO X e (tO X.K Y W f)
theorem PO.imp {e : Option Expr} {t t' : TO} (h : PO X e t) (f : ∀ σ H Q, t' σ H Q → t σ H Q) : PO X e t' := ⟨fun pins s σ H Q I q => h.run pins s σ H Q I (f σ H Q q)⟩
theorem o_none : O X Y W none pN := PO.imp po_none fun σ H Q ⟨en, he, h⟩ => h H (Same.refl H)
theorem o_some (ha : J X Y W .r a fa) : O X Y W (some a) (pS fa) := PO.imp (po_some ha) fun σ H Q ⟨en, he, h⟩ => ⟨en, he, (WPr.bind h).imp (Same.refl H) fun d p => by
  intro v H' s r
  cases r with
  | int => exact ⟨_, rfl, p H' s⟩
  | _ => exact p.elim⟩
theorem WPr.bindO {K : PySem.W.Frag} {σ : St} {H : Hp} {r : Res (Option Int)} {g : Option Int → Res D} {Q : D → Prop} (h : WPr K Y W σ H (r >>= g) Q) : WPr K Y W σ H r fun a => WPr K Y W σ H (g a) Q := by
  cases r with
  | ok a => exact h
  | exc e => exact h
  | stuck => exact h
def xSl (f : En → Res D) (l h : En → Res (Option Int)) : En → Res D := fun en => f en >>= fun d => l en >>= fun lo => h en >>= fun hi => match d with
  | .lst ds => if pureDs ds = true then .ok (.lst (cutG ds lo hi)) else .stuck
  | .scr ns => .ok (.lst ((cutG ns lo hi).map .int))
  | _ => .stuck
variable {lo hi : Option Expr} {fl fh : En → Res (Option Int)} {p2 : Pos}
theorem j_slice (ha : J X Y W .r a fa) (hl : O X Y W lo fl) (hh : O X Y W hi fh) : J X Y W k (.Subscript a (.Slice lo hi none p2) pos) (xSl fa fl fh) :=
  PE.imp (pe_slice sl_list ha hl hh) fun σ H Q ⟨en, he, h⟩ => by
    refine ⟨en, he, (WPr.bind h).imp (Same.refl H) fun d p => ?_⟩
    intro v H1 s1 r1
    refine ⟨en, he.mono s1, (WPr.bindO p).imp s1 fun l q => ?_⟩
    intro H2 s2
    refine ⟨en, he.mono (s1.trans s2), (WPr.bindO q).imp (s1.trans s2) fun h q2 => ?_⟩
    intro H3 s3
    have r3 := r1.mono (s2.trans s3)
    have s13 := s1.trans (s2.trans s3)
    cases r3 with
    | lst hp r =>
      dsimp only at q2
      split at q2
      · rename_i hpu
        exact ⟨_, _, rfl, SqL.of hp, fun x hx => po_new (Po.mono (show Po X.K Y k _ H Q from q2) s13) (r.cut l h) (pureDs_sub hpu fun d hd => cutG_mem hd) hx⟩
      · exact q2.elim
    | @scr _ ns hp =>
      refine ⟨_, _, rfl, hp, fun x hx => ?_⟩
      have : Reps X.K Y H3 (cutV (List.map V.int ns) l h) ((cutG ns l h).map D.int) := by
        rw [cutV_eq, cutG_map]
        exact .of_ints _
      exact po_new (Po.mono (show Po X.K Y k _ H Q from q2) s13) this (pureDs_ints _) hx
    | _ => exact q2.elim
def oCat : D → D → Res D
  | .lst as, .lst bs => if (pureDs as && pureDs bs && szOk (as.length + bs.length)) = true then .ok (.lst (as ++ bs)) else .stuck
  | _, _ => .stuck
theorem oCat_calm : Calm2 oCat := fun d e x => by
  unfold oCat
  split
  · exact ite_calm
  · exact fun h => nomatch h
theorem j_cat (ha : J X Y W .r a fa) (hb : J X Y W .r b fb) : J X Y W k (.BinOp a .Add b pos) (x2 oCat fa fb) :=
  j_op op_cat (fun H x y d e Q rx ry ⟨z, hz, po⟩ => by
    unfold oCat at hz
    split at hz
    · split at hz
      · rename_i hc
        cases hz
        have hc1 := Bool.and_eq_true_iff.mp hc
        have hc2 := Bool.and_eq_true_iff.mp hc1.1
        cases rx with
        | lst hp r =>
          cases ry with
          | lst hq q =>
            exact ⟨_, _, _, _, rfl, rfl, hp, hq, by rw [r.length, q.length]; exact szOk_le hc1.2, fun x hx => po_new po (r.append q) (by rw [pureDs_append, hc2.1, hc2.2]; rfl) hx⟩
      · cases hz
    · cases hz) oCat_calm ha hb
end

/-! ### isinstance -/
/-- the kinds of data, for isinstance -/
def tyN : D → String
  | .non => "NoneType"
  | .bl _ => "bool"
  | .int _ => "int"
  | .str _ => "str"
  | .tup _ => "tuple"
  | .lst _ => "list"
  | .scr _ => "list"
  | .dI _ => "dict"
  | .dT _ => "dict"
  | .exc _ _ => ""
def isBI (t : String) : D → Res D := fun d => match d with
  | .exc _ _ => .stuck
  | d => match kitB (tyN d) t with
    | some b => .ok (.bl b)
    | none => .stuck
/-- what the head says of an exception class, so that its instances may be asked -/
structure ExCl (K : PySem.W.Frag) (C : Addr) : Prop where
  cl : (PySem.W.clsIn K C).isSome = true
  ga : PySem.W.findIn K (.ref C) "__getattribute__" = some (some (.builtin "BaseException.__getattribute__"))
  gt : PySem.W.findIn K (.ref C) "__getattr__" = some none
  sub : PySem.W.subIn K (.ref C) (.type "BaseException") = some true
  ca : PySem.W.findIn K (.ref C) "__class__" = some (some (.builtin "object.__class__"))
  cn : PySem.W.specialIn K (.builtin "object.__class__") "__get__" = some (some (.builtin "getset_descriptor.__get__"))
  ct : PySem.W.takesIn K (.builtin "object.__class__") = some true
  cm : PySem.W.mroIn K C (.type "object") = some true
section
variable {X : Cx} {Y : Cl} {W : Wh} {k : Kd} {a : Expr} {fa : En → Res D} {pos p p1 : Pos}
theorem rep_ty {K : PySem.W.Frag} {H : Hp} {v : V} {d : D} (r : Rep K Y H v d) (hn : ∀ c xs, d ≠ .exc c xs) : TyX K H v (.type (tyN d)) := by
  cases r with
  | non => exact .base .non
  | bl => exact .base (.bl _)
  | int => exact .base (.int _)
  | str => exact .base (.str _)
  | tup h _ =>
    rcases h with (h | ⟨o, h⟩) | ⟨o, its, n, h1, h2, _⟩
    · exact .base (.tup h)
    · exact .fTuple h
    · exact .kTuple h1 h2
  | lst h _ => exact .base (.lst h)
  | scr h =>
    rcases h with (h | ⟨o, h⟩) | ⟨o, its, n, h1, h2, _⟩
    · exact .base (.lst h)
    · exact .base (.frz h)
    · exact .kList h1 h2
  | dI h _ => exact .base (.dK h)
  | dT h _ => exact .base (.dT h)
  | exc0 _ => exact absurd rfl (hn _ _)
  | exc1 _ _ _ => exact absurd rfl (hn _ _)
theorem isBI_calm (t : String) : Calm1 (isBI t) := fun d x => by
  unfold isBI
  split
  · exact fun h => nomatch h
  · split <;> exact fun h => nomatch h
/-- isinstance(x, int) and its like -/
theorem j_isB {n : Str} {t : String} (hg : Gl X "isinstance") (hm : X.mg "isinstance" = none) (hg2 : Gl X n) (hm2 : X.mg n = none) (hv : bootBuiltins n = some (.type t)) (ha : J X Y W .r a fa) (hn : n ≠ "__name__" := by decide) (hdb : (n == ("__debug__" : Str)) = false := by decide)
    (hs : starEach (a :: [.Name n p1]) X.env = (false, eval a X.env) :: starEach [.Name n p1] X.env := by rfl) (hs2 : starEach (.Name n p1 :: []) X.env = (false, eval (.Name n p1) X.env) :: starEach [] X.env := by rfl) (hpl : (backTo pos (starEach [.Name n p1] X.env)).any (·.1) = false := by rfl) :
    J X Y W k (.Call (.Name "isinstance" p) [a, .Name n p1] [] pos) (x1 (isBI t) fa) :=
  PE.imp (pe_callB call_isi hg hm (by decide +kernel) (pa_cons ha (pa_cons (pe_bltn (v := .ty t) hg2 hm2 hv rfl hn hdb) pa_nil hs2) hs) (by decide) (by decide) hs hpl) fun σ H Q ⟨en, he, h⟩ => ⟨en, he, (WPr.bind h).imp (Same.refl H) fun d p => by
    intro v H1 s1 r1
    obtain ⟨z, ez, pz⟩ := WPr.calm (isBI_calm t d) p
    have hne : ∀ c xs, d ≠ .exc c xs := fun c xs e => by
      subst e
      cases ez
    have hk : ∃ b, kitB (tyN d) t = some b ∧ z = .bl b := by
      unfold isBI at ez
      split at ez
      · cases ez
      · split at ez
        · rename_i b hb
          cases ez
          exact ⟨b, hb, rfl⟩
        · cases ez
    obtain ⟨b, hb, rfl⟩ := hk
    exact ⟨v, .ty t, _, _, b, rfl, .ty t, rep_ty r1 hne, kit_ty hb, pz.pure s1 .bl (pureD_bl b)⟩⟩
/-- whether an error of class c is one of class c' (0: any) -/
def isC (c' : Nat) (c : Nat) : Bool := c == c' || c' == 0
/-- what the head says of the classes that may be met (ok) and asked for -/
structure ExAsk (K : PySem.W.Frag) (Y : Cl) (ok : Nat → Bool) (c' : Nat) : Prop where
  non : PySem.W.kitOne K (.type "NoneType") (.ref (Y.at_ c')) = some false
  exc : ∀ c, ok c = true → PySem.W.kitOne K (.ref (Y.at_ c)) (.ref (Y.at_ c')) = some (isC c' c)
def isCl (ok : Nat → Bool) (cs : List Nat) : D → Res D
  | .non => .ok (.bl false)
  | .exc c _ => if ok c = true then .ok (.bl (cs.any fun c' => isC c' c)) else .stuck
  | _ => .stuck
theorem isCl_calm (ok : Nat → Bool) (cs : List Nat) : Calm1 (isCl ok cs) := fun d x => by
  unfold isCl
  split
  · exact fun h => nomatch h
  · exact ite_calm
  · exact fun h => nomatch h
/-- isinstance of an exception object, by values -/
theorem exv_kit {pins : List (Addr × Obj)} {σ : St} {H : Hp} {s : Shared} {a C : Addr} {d : Option Addr} (I : Inv X pins σ H s) (E : ExCl X.K C) (h : H a = some (ExV (.ref C) d a)) (hd : ∀ dd, d = some dd → ∃ o, s.heap.get? dd = some o) :
    ∃ P : Heap → Prop, PySem.W.KitX X.K (.ref a) (.ref C) P ∧ P s.heap := by
  obtain ⟨⟨oe, vs, ho, ⟨hc, hdd⟩, hdat⟩, _, _⟩ := I.hok a _ h
  obtain ⟨oc, od, dt, sl⟩ := oe
  dsimp only at hc hdd hdat
  subst hc hdd hdat
  cases od with
  | none => exact ⟨_, PySem.W.kitx_exc E.cl E.ga E.gt E.sub E.ca E.cn E.ct E.cm (od := none), ⟨ho, rfl, rfl, trivial⟩⟩
  | some dd =>
    obtain ⟨o, hq⟩ := hd dd rfl
    exact ⟨_, PySem.W.kitx_exc E.cl E.ga E.gt E.sub E.ca E.cn E.ct E.cm (od := some o), ⟨ho, rfl, rfl, hq⟩⟩
theorem rep_kit {pins : List (Addr × Obj)} {σ : St} {H : Hp} {s : Shared} {v : V} {u : Value} {c : Nat} {xs : List D} (I : Inv X pins σ H s) (E : ExCl X.K (Y.at_ c)) (r : Rep X.K Y H v (.exc c xs)) (rv : RelV v u) : ∃ P : Heap → Prop, PySem.W.KitX X.K u (.ref (Y.at_ c)) P ∧ P s.heap ∧ u ≠ .builtin "__main__.__loader__#opaque" := by
  cases r with
  | exc0 h =>
    obtain rfl : u = .ref _ := rv
    obtain ⟨P, h1, h2⟩ := exv_kit I E h (fun dd e => nomatch e)
    exact ⟨P, h1, h2, fun z => nomatch z⟩
  | exc1 h h' _ =>
    obtain rfl : u = .ref _ := rv
    obtain ⟨P, h1, h2⟩ := exv_kit I E h (fun dd e => by
      cases e
      obtain ⟨mA, ⟨o, _, _, ho, _⟩, _⟩ := I.hok _ _ h'
      exact ⟨o, ho⟩)
    exact ⟨P, h1, h2, fun z => nomatch z⟩
/-- isinstance(x, c) where x may be an error: one class of the program -/
def rIsX (K : PySem.W.Frag) (Y : Cl) (ok : Nat → Bool) (c' : Nat) : List V → Hp → VK → Prop := fun xs H Q => ∃ (x : V) (d : D) (b : Bool), xs = [x, .ref (Y.at_ c')] ∧ Rep K Y H x d ∧ isCl ok [c'] d = .ok (.bl b) ∧ Q (.bl b) H
theorem call_isX {ok : Nat → Bool} {c' : Nat} (hE : ∀ c, ok c = true → ExCl X.K (Y.at_ c)) (hA : ExAsk X.K Y ok c') : CallR X (.builtin "isinstance") (rIsX X.K Y ok c') := by
  intro pins s σ H xs us Q I r h
  obtain ⟨x, d, b, rfl, rx, hb, q⟩ := h
  obtain ⟨u1, u2, rfl, r1, r2⟩ := vals2 r
  obtain rfl : u2 = .ref (Y.at_ c') := r2
  cases d with
  | non =>
    cases hb
    obtain ⟨P, Z, p, hx⟩ := kit_of I r1 (rep_ty rx fun _ _ e => nomatch e)
    exact PySem.W.kia_one Z I.kIn p hA.non hx fun tk => ⟨.bl false, H, I.tok tk, rfl, q⟩
  | exc c ys =>
    have hb' : (if ok c = true then Res.ok (D.bl ([c'].any fun c' => isC c' c)) else Res.stuck) = Res.ok (D.bl b) := hb
    by_cases hc : ok c = true
    · rw [if_pos hc] at hb'
      cases hb'
      obtain ⟨P, Z, p, hx⟩ := rep_kit I (hE c hc) rx r1
      have e : ([c'].any fun c' => isC c' c) = isC c' c := by simp
      rw [e] at q
      exact PySem.W.kia_one Z I.kIn p (hA.exc c hc) hx fun tk => ⟨.bl _, H, I.tok tk, rfl, q⟩
    · rw [if_neg hc] at hb'
      cases hb'
  | _ => cases hb
theorem isCl_bl {ok : Nat → Bool} {cs : List Nat} {d z : D} (h : isCl ok cs d = .ok z) : ∃ b, z = .bl b := by
  unfold isCl at h
  split at h
  · cases h; exact ⟨_, rfl⟩
  · split at h
    · cases h; exact ⟨_, rfl⟩
    · cases h
  · cases h
theorem j_isX {ok : Nat → Bool} {c' : Nat} {n : Str} (hE : ∀ c, ok c = true → ExCl X.K (Y.at_ c)) (hA : ExAsk X.K Y ok c') (hg : Gl X "isinstance") (hm : X.mg "isinstance" = none) (hg2 : Gl X n) (hm2 : X.mg n = some (.ref (Y.at_ c'))) (ha : J X Y W .r a fa) (hdb : (n == ("__debug__" : Str)) = false := by decide)
    (hs : starEach (a :: [.Name n p1]) X.env = (false, eval a X.env) :: starEach [.Name n p1] X.env := by rfl) (hs2 : starEach (.Name n p1 :: []) X.env = (false, eval (.Name n p1) X.env) :: starEach [] X.env := by rfl) (hpl : (backTo pos (starEach [.Name n p1] X.env)).any (·.1) = false := by rfl) :
    J X Y W k (.Call (.Name "isinstance" p) [a, .Name n p1] [] pos) (x1 (isCl ok [c']) fa) :=
  PE.imp (pe_callB (call_isX hE hA) hg hm (by decide +kernel) (pa_cons ha (pa_cons (pe_glob (v := .ref (Y.at_ c')) hg2 hm2 rfl hdb) pa_nil hs2) hs) (by decide) (by decide) hs hpl) fun σ H Q ⟨en, he, h⟩ => ⟨en, he, (WPr.bind h).imp (Same.refl H) fun d p => by
    intro v H1 s1 r1
    obtain ⟨z, ez, pz⟩ := WPr.calm (isCl_calm ok [c'] d) p
    obtain ⟨b, rfl⟩ := isCl_bl ez
    exact ⟨v, d, b, rfl, r1, ez, pz.pure s1 .bl (pureD_bl b)⟩⟩
/-- .. several classes, written as a tuple -/
def rIsT (K : PySem.W.Frag) (Y : Cl) (ok : Nat → Bool) (cs : List Nat) : List V → Hp → VK → Prop := fun xs H Q => ∃ (x : V) (tp : Addr) (d : D) (b : Bool), xs = [x, .ref tp] ∧ H tp = some (.tup (cs.map fun c => .ref (Y.at_ c))) ∧ Rep K Y H x d ∧ isCl ok cs d = .ok (.bl b) ∧ Q (.bl b) H
theorem kitAny_non {K : PySem.W.Frag} {ok : Nat → Bool} : ∀ {cs : List Nat}, (∀ c ∈ cs, ExAsk K Y ok c) → PySem.W.kitAny K (.type "NoneType") (cs.map fun c => .ref (Y.at_ c)) = some false
  | [], _ => rfl
  | c :: cs, h => kitAny_cons (h c List.mem_cons_self).non (fun _ => kitAny_non fun c hc => h c (List.mem_cons_of_mem _ hc)) (fun z => nomatch z)
theorem kitAny_exc {K : PySem.W.Frag} {ok : Nat → Bool} {c : Nat} (hc : ok c = true) : ∀ {cs : List Nat}, (∀ c ∈ cs, ExAsk K Y ok c) → PySem.W.kitAny K (.ref (Y.at_ c)) (cs.map fun c => .ref (Y.at_ c)) = some (cs.any fun c' => isC c' c)
  | [], _ => rfl
  | c' :: cs, h => by
    have ih := kitAny_exc hc fun c hc => h c (List.mem_cons_of_mem c' hc)
    refine kitAny_cons ((h c' List.mem_cons_self).exc c hc) (fun e => ?_) (fun e => ?_)
    · rw [List.any_cons, e, ih]; rfl
    · rw [List.any_cons, e]; rfl
theorem vals_refs {cs : List Nat} : ∀ {us : List Value}, Vals (cs.map fun c => V.ref (Y.at_ c)) us → us = cs.map fun c => .ref (Y.at_ c) := by
  induction cs with
  | nil => intro us r; cases r; rfl
  | cons c cs ih =>
    intro us r
    cases r with
    | cons r1 r2 =>
      obtain rfl : _ = Value.ref _ := r1
      rw [ih r2]
      rfl
theorem call_isT {ok : Nat → Bool} {cs : List Nat} (hE : ∀ c, ok c = true → ExCl X.K (Y.at_ c)) (hA : ∀ c ∈ cs, ExAsk X.K Y ok c) : CallR X (.builtin "isinstance") (rIsT X.K Y ok cs) := by
  intro pins s σ H xs us Q I r h
  obtain ⟨x, tp, d, b, rfl, hT, rx, hb, q⟩ := h
  obtain ⟨u1, u2, rfl, r1, r2⟩ := vals2 r
  obtain rfl : u2 = .ref tp := r2
  obtain ⟨_, its, rv, o, h1, h2, n, h3⟩ := (show ObjOk X.prog X.w H s.heap tp (.tup _) from I.hok tp _ hT)
  have e3 := vals_refs rv
  subst e3
  obtain ⟨oc, od, dt, sl⟩ := o
  simp only at h2 h3
  subst h2 h3
  cases d with
  | non =>
    cases hb
    obtain ⟨P, Z, p, hx⟩ := kit_of I r1 (rep_ty rx fun _ _ e => nomatch e)
    exact PySem.W.kia_tup Z I.kIn p h1 (kitAny_non hA) hx fun tk => ⟨.bl false, H, I.tok tk, rfl, q⟩
  | exc c ys =>
    have hb' : (if ok c = true then Res.ok (D.bl (cs.any fun c' => isC c' c)) else Res.stuck) = Res.ok (D.bl b) := hb
    by_cases hc : ok c = true
    · rw [if_pos hc] at hb'
      cases hb'
      obtain ⟨P, Z, p, hx⟩ := rep_kit I (hE c hc) rx r1
      exact PySem.W.kia_tup Z I.kIn p h1 (kitAny_exc hc hA) hx fun tk => ⟨.bl _, H, I.tok tk, rfl, q⟩
    · rw [if_neg hc] at hb'
      cases hb'
  | _ => cases hb
/-- the classes of the tuple, as arguments -/
def PCs (X : Cx) (Y : Cl) (es : List Expr) (cs : List Nat) : Prop := ∃ t : TA, PA X es t ∧ ∀ σ H Q, Q (cs.map fun c => V.ref (Y.at_ c)) H → t σ H Q
theorem cs_nil : PCs X Y [] [] := ⟨_, pa_nil, fun σ H Q q => q⟩
theorem cs_cons {n : Str} {c : Nat} {es : List Expr} {cs : List Nat} (hm : X.mg n = some (.ref (Y.at_ c))) (h : PCs X Y es cs) (hg : Gl X n := by rfl) (hdb : (n == ("__debug__" : Str)) = false := by decide)
    (hs : starEach (.Name n p1 :: es) X.env = (false, eval (.Name n p1) X.env) :: starEach es X.env := by rfl) : PCs X Y (.Name n p1 :: es) (c :: cs) := by
  obtain ⟨t, h1, h2⟩ := h
  exact ⟨_, pa_cons (pe_glob (v := .ref (Y.at_ c)) hg hm rfl hdb) h1 hs, fun σ H Q q => h2 σ H _ q⟩
theorem j_isT {ok : Nat → Bool} {cs : List Nat} {es : List Expr} {k1 : Nat} {pt : Pos} (hE : ∀ c, ok c = true → ExCl X.K (Y.at_ c)) (hA : ∀ c ∈ cs, ExAsk X.K Y ok c) (hg : Gl X "isinstance") (hm : X.mg "isinstance" = none) (ha : J X Y W .r a fa) (hc : PCs X Y es cs) (hz : cs.length ≤ 1000 := by decide)
    (hs : starEach (a :: [.Tuple es k1 pt]) X.env = (false, eval a X.env) :: starEach [.Tuple es k1 pt] X.env := by rfl) (hs2 : starEach (.Tuple es k1 pt :: []) X.env = (false, eval (.Tuple es k1 pt) X.env) :: starEach [] X.env := by rfl) (hpl : (backTo pos (starEach [.Tuple es k1 pt] X.env)).any (·.1) = false := by rfl) :
    J X Y W k (.Call (.Name "isinstance" p) [a, .Tuple es k1 pt] [] pos) (x1 (isCl ok cs) fa) := by
  obtain ⟨t, h1, h2⟩ := hc
  exact PE.imp (pe_callB (call_isT hE hA) hg hm (by decide +kernel) (pa_cons ha (pa_cons (pe_tup h1) pa_nil hs2) hs) (by decide) (by decide) hs hpl) fun σ H Q ⟨en, he, h⟩ => ⟨en, he, (WPr.bind h).imp (Same.refl H) fun d p => by
    intro v H1 s1 r1
    refine h2 σ H1 _ ?_
    refine ⟨by rw [List.length_map]; exact Nat.le_of_lt (small1000 hz), fun tp htp => ?_⟩
    obtain ⟨z, ez, pz⟩ := WPr.calm (isCl_calm ok cs d) p
    obtain ⟨b, rfl⟩ := isCl_bl ez
    exact ⟨v, tp, d, b, rfl, upd_same, r1.mono (same_new htp), ez, pz.pure (s1.trans (same_new htp)) .bl (pureD_bl b)⟩⟩
/-- isinstance(x, ValueError), x an error or None -/
structure ExVe (K : PySem.W.Frag) (Y : Cl) (ok : Nat → Bool) : Prop where
  non : PySem.W.kitOne K (.type "NoneType") (.type "ValueError") = some false
  exc : ∀ c, ok c = true → PySem.W.kitOne K (.ref (Y.at_ c)) (.type "ValueError") = some true
def isVe (ok : Nat → Bool) : D → Res D
  | .non => .ok (.bl false)
  | .exc c _ => if ok c = true then .ok (.bl true) else .stuck
  | _ => .stuck
theorem isVe_calm (ok : Nat → Bool) : Calm1 (isVe ok) := fun d x => by
  unfold isVe
  split
  · exact fun h => nomatch h
  · exact ite_calm
  · exact fun h => nomatch h
def rIsV (K : PySem.W.Frag) (Y : Cl) (ok : Nat → Bool) : List V → Hp → VK → Prop := fun xs H Q => ∃ (x : V) (d : D) (b : Bool), xs = [x, .ty "ValueError"] ∧ Rep K Y H x d ∧ isVe ok d = .ok (.bl b) ∧ Q (.bl b) H
theorem call_isV {ok : Nat → Bool} (hE : ∀ c, ok c = true → ExCl X.K (Y.at_ c)) (hA : ExVe X.K Y ok) : CallR X (.builtin "isinstance") (rIsV X.K Y ok) := by
  intro pins s σ H xs us Q I r h
  obtain ⟨x, d, b, rfl, rx, hb, q⟩ := h
  obtain ⟨u1, u2, rfl, r1, r2⟩ := vals2 r
  obtain rfl : u2 = .type "ValueError" := r2
  cases d with
  | non =>
    cases hb
    obtain ⟨P, Z, p, hx⟩ := kit_of I r1 (rep_ty rx fun _ _ e => nomatch e)
    exact PySem.W.kia_one Z I.kIn p hA.non hx fun tk => ⟨.bl false, H, I.tok tk, rfl, q⟩
  | exc c ys =>
    have hb' : (if ok c = true then Res.ok (D.bl true) else Res.stuck) = Res.ok (D.bl b) := hb
    by_cases hc : ok c = true
    · rw [if_pos hc] at hb'
      cases hb'
      obtain ⟨P, Z, p, hx⟩ := rep_kit I (hE c hc) rx r1
      exact PySem.W.kia_one Z I.kIn p (hA.exc c hc) hx fun tk => ⟨.bl true, H, I.tok tk, rfl, q⟩
    · rw [if_neg hc] at hb'
      cases hb'
  | _ => cases hb
theorem isVe_bl {ok : Nat → Bool} {d z : D} (h : isVe ok d = .ok z) : ∃ b, z = .bl b := by
  unfold isVe at h
  split at h
  · cases h; exact ⟨_, rfl⟩
  · split at h
    · cases h; exact ⟨_, rfl⟩
    · cases h
  · cases h
theorem j_isV {ok : Nat → Bool} (hE : ∀ c, ok c = true → ExCl X.K (Y.at_ c)) (hA : ExVe X.K Y ok) (hg : Gl X "isinstance") (hm : X.mg "isinstance" = none) (hg2 : Gl X "ValueError") (hm2 : X.mg "ValueError" = none) (ha : J X Y W .r a fa)
    (hs : starEach (a :: [.Name "ValueError" p1]) X.env = (false, eval a X.env) :: starEach [.Name "ValueError" p1] X.env := by rfl) (hs2 : starEach (.Name "ValueError" p1 :: []) X.env = (false, eval (.Name "ValueError" p1) X.env) :: starEach [] X.env := by rfl) (hpl : (backTo pos (starEach [.Name "ValueError" p1] X.env)).any (·.1) = false := by rfl) :
    J X Y W k (.Call (.Name "isinstance" p) [a, .Name "ValueError" p1] [] pos) (x1 (isVe ok) fa) :=
  PE.imp (pe_callB (call_isV hE hA) hg hm (by decide +kernel) (pa_cons ha (pa_cons (pe_bltn (v := .ty "ValueError") hg2 hm2 (by decide +kernel) rfl) pa_nil hs2) hs) (by decide) (by decide) hs hpl) fun σ H Q ⟨en, he, h⟩ => ⟨en, he, (WPr.bind h).imp (Same.refl H) fun d p => by
    intro v H1 s1 r1
    obtain ⟨z, ez, pz⟩ := WPr.calm (isVe_calm ok d) p
    obtain ⟨b, rfl⟩ := isVe_bl ez
    exact ⟨v, d, b, rfl, r1, ez, pz.pure s1 .bl (pureD_bl b)⟩⟩
end
end Ow
end
section
set_option linter.all false
set_option maxRecDepth 100000
set_option maxHeartbeats 2000000
/-! Ow7: for loops over new lists, shared lists, ranges. -/
namespace Ow
open PySem L2 PySem.Spec

/-- a loop over items: b behind the binding of each -/
def forS {α : Type} (bind : α → List Slot → Res (List Slot)) (b : List Slot → Res Fl) : List α → List Slot → Res Fl
  | [], S => .ok (.nx S)
  | d :: ds, S => bind d S >>= fun S1 => b S1 >>= fun r => match r with
    | .nx S' => forS bind b ds S'
    | .ct S' => forS bind b ds S'
    | .bk S' => .ok (.nx S')
    | .rt d S' => .ok (.rt d S')
def bindF (i : Nat) (d : D) (S : List Slot) : Res (List Slot) := .ok (setS S i (.fz d))
def intsUpTo (lo : Int) (n : Nat) : List D := (List.range n).map fun k => .int (lo + (k : Nat))

section
variable {K : PySem.W.Frag} {Y : Cl} {F H H' : Hp} {S : List Slot} {σ : St}
/-- a new thing is shared from now on -/
theorem Sat.freeze (h : Sat K Y F S σ H) (sh : Same H H') {v : V} {d : D} {f : List Addr} (o : Own K Y H' v d f) (fr : ∀ p ∈ f, H p = none) : ∃ F', Same F F' ∧ Same F' H' ∧ Sat K Y F' S σ H' ∧ Rep K Y F' v d := by
  obtain ⟨G, w, fp, s⟩ := h
  have gh' : Same G H' := s.gh.trans sh
  let G' : Hp := fun p => if p ∈ f then H' p else grow G H' p
  have sg : Same (grow G H') G' := fun p u e => by
    show (if p ∈ f then H' p else grow G H' p) = some u
    by_cases hp : p ∈ f
    · rw [if_pos hp]; exact grow_to gh' p u e
    · rw [if_neg hp]; exact e
  have gh2 : Same G' H' := fun p u e => by
    have e' : (if p ∈ f then H' p else grow G H' p) = some u := e
    by_cases hp : p ∈ f
    · rw [if_pos hp] at e'; exact e'
    · rw [if_neg hp] at e'; exact grow_to gh' p u e'
  have keepR : ∀ {v : V} {d : D} {f' : List Addr}, Own K Y H' v d f' → (∀ p ∈ f', p ∈ f) → Own K Y G' v d f' := by
    have fx : Fix H' G' := fun p u e hf => sg p u (grow_fix gh' e hf)
    intro v d f' o' hs
    exact o'.frame fx fun p hp => if_pos (hs p hp)
  refine ⟨G', s.fg.trans (grow_same.trans sg), gh2, ⟨G', w, fp, Same.refl G', gh2, fun p u e hf => sg p u (grow_fix gh' e hf), s.len, fun k y hy => ?_⟩, (keepR o fun p hp => hp).rep⟩
  have h := s.ok k y hy
  cases y with
  | un => trivial
  | own d =>
    obtain ⟨u, a, b, c, q⟩ := h
    refine ⟨u, a, b.mono sh, c, fun p hp => ⟨(q p hp).1, ?_⟩⟩
    obtain ⟨o', ho, hx⟩ := b.there p hp
    have nf : p ∉ f := fun hm => by
      rw [fr p hm] at ho
      cases ho
    show (if p ∈ f then H' p else grow G H' p) = none
    rw [if_neg nf]
    refine grow_none (q p hp).2 fun u' e => ?_
    rw [sh p o' ho] at e
    cases e
    exact hx
  | fz d =>
    obtain ⟨u, a, b⟩ := h
    exact ⟨u, a, b.mono (grow_same.trans sg)⟩
  | ali t j =>
    obtain ⟨ds, p, vs, u, h1, h2, h3, h4, h5, h6⟩ := h
    exact ⟨ds, p, vs, u, h1, h2, h3, sh _ _ h4, h5, h6⟩
theorem WPs.shallow {W : Wh} {M : Md} {D' : Ends} {σ0 : St} {r : Res Fl} {F' : Hp} (h : WPs K Y W M F D' σ0 r) (f : Same F F') : WPs K Y W M F' D' σ0 r := by
  cases r with
  | stuck => exact h
  | exc e =>
    obtain ⟨w, a, b⟩ := h
    exact ⟨w, a, fun cls d σ' H' s x => b cls d σ' H' (f.trans s) x⟩
  | ok r =>
    cases r with
    | nx S' => exact fun σ' H' s st => h σ' H' (s.shallow f) st
    | bk S' => exact fun σ' H' s st => h σ' H' (s.shallow f) st
    | ct S' => exact fun σ' H' s st => h σ' H' (s.shallow f) st
    | rt d S2 => exact fun v H' r => h v H' (r.shallow f)
/-- the walk over items that stand in the frame -/
theorem for_run {W : Wh} {M : Md} {D' : Ends} {J : It} {b : List Slot → Res Fl} {i : Nat} {L : List D} (hM : M i = true) (hgo : ∀ (k : Nat) (H' : Hp), Same F H' → k < L.length → J.go k H' ∧ ∀ x H'', J.yld k H' x H'' → H'' = H' ∧ ∃ d, L[k]? = some d ∧ Rep K Y F x d)
    (hst : ∀ (k : Nat) (H' : Hp), Same F H' → L.length ≤ k → J.stop k H') (s : Sat K Y F S σ H) (h : WPs K Y W M F D' σ (forS (bindF i) b L S)) :
    ∃ W' : Nat → Nat → St → Hp → Prop, (∃ m, W' 0 m σ H) ∧ ∀ k m σ1 H1, W' k m σ1 H1 → (J.stop k H1 ∧ D'.nx σ1 H1) ∨ (J.go k H1 ∧ ∃ N : St → Hp → Prop, (∀ σ' H', N σ' H' → ∃ m', m' < m ∧ W' (k + 1) m' σ' H') ∧
      ∀ x H', J.yld k H1 x H' → gName i x σ1 H' fun σ2 H2 => tS K Y W M b { D' with nx := N, ct := N, bk := D'.nx } σ2 H2) := by
  refine ⟨fun k m σ1 H1 => m = L.length - k ∧ k ≤ L.length ∧ ∃ S1, Sat K Y F S1 σ1 H1 ∧ Stay M σ σ1 ∧ WPs K Y W M F D' σ (forS (bindF i) b (L.drop k) S1), ⟨_, rfl, Nat.zero_le _, S, s, Stay.refl M σ, h⟩, ?_⟩
  rintro k m σ1 H1 ⟨rfl, hk, S1, s1, y1, p⟩
  by_cases hlt : k < L.length
  · obtain ⟨g1, g2⟩ := hgo k H1 s1.same hlt
    refine .inr ⟨g1, fun σ' H' => ∃ S', Sat K Y F S' σ' H' ∧ Stay M σ σ' ∧ WPs K Y W M F D' σ (forS (bindF i) b (L.drop (k + 1)) S'), fun σ' H' ⟨S', a1, a2, a3⟩ => ⟨_, by omega, rfl, hlt, S', a1, a2, a3⟩, fun x H' hy => ?_⟩
    obtain ⟨rfl, d, hd, rx⟩ := g2 x H' hy
    have ed : L.drop k = d :: L.drop (k + 1) := by
      rw [List.drop_eq_getElem_cons hlt]
      congr 1
      rw [List.getElem?_eq_getElem hlt] at hd
      exact Option.some.inj hd
    rw [ed] at p
    have p' : WPs K Y W M F D' σ (b (setS S1 i (.fz d)) >>= fun r => match r with
      | .nx S' => forS (bindF i) b (L.drop (k + 1)) S'
      | .ct S' => forS (bindF i) b (L.drop (k + 1)) S'
      | .bk S' => .ok (.nx S')
      | .rt d S' => .ok (.rt d S')) := p
    refine ⟨F, setS S1 i (.fz d), s1.setFz rx, ?_⟩
    have y2 : Stay M σ (σ1.set i (some x)) := y1.trans (Stay.set hM)
    cases q : b (setS S1 i (.fz d)) with
    | stuck => rw [q] at p'; exact p'
    | exc e => rw [q] at p'; exact p'
    | ok r =>
      rw [q] at p'
      cases r with
      | rt d S2 => exact fun v H2 r => p' v H2 (r.stay y2)
      | nx S' => exact fun σ' H' s' st => ⟨S', s', y2.trans st, p'⟩
      | ct S' => exact fun σ' H' s' st => ⟨S', s', y2.trans st, p'⟩
      | bk S' => exact fun σ' H' s' st => p' σ' H' s' (y2.trans st)
  · have ed : L.drop k = [] := List.drop_of_length_le (by omega)
    rw [ed] at p
    exact .inl ⟨hst k H1 s1.same (by omega), p σ1 H1 s1 y1⟩
end

/-- for x in a new list -/
def sForN (i : Nat) (f : En → Res D) (b : List Slot → Res Fl) : List Slot → Res Fl := fun S => f (en S) >>= fun d => match d with
  | .lst ds => forS (bindF i) b ds S
  | _ => .stuck
def sForR1 (i : Nat) (f : En → Res D) (b : List Slot → Res Fl) : List Slot → Res Fl := fun S => f (en S) >>= fun d => match d with
  | .int n => if (decide (-4611686018427387904 ≤ n) && decide (n < 4611686018427387904)) = true then forS (bindF i) b (intsUpTo 0 n.toNat) S else .stuck
  | _ => .stuck
def rgOk (n : Int) : Bool := decide (-4611686018427387904 ≤ n) && decide (n < 4611686018427387904)
theorem rgOk_iff {n : Int} (h : rgOk n = true) : -(2 ^ 62) ≤ n ∧ n < 2 ^ 62 := by
  have h' := Bool.and_eq_true_iff.mp h
  exact ⟨by have := of_decide_eq_true h'.1; omega, by have := of_decide_eq_true h'.2; omega⟩
def sForR2 (i : Nat) (f g : En → Res D) (b : List Slot → Res Fl) : List Slot → Res Fl := fun S => f (en S) >>= fun d => g (en S) >>= fun e => match d, e with
  | .int lo, .int hi => if (rgOk lo && rgOk hi) = true then forS (bindF i) b (intsUpTo lo (hi - lo).toNat) S else .stuck
  | _, _ => .stuck
/-- for x in v, the name v's slot shared -/
def sForV (i v : Nat) (b : List Slot → Res Fl) : List Slot → Res Fl := fun S => match S[v]? with
  | some (.fz (.lst ds)) => forS (bindF i) b ds S
  | some (.fz (.scr ns)) => forS (bindF i) b (ns.map .int) S
  | _ => .stuck
/-- for x in v[e], v's slot shared -/
def sForP (i v : Nat) (f : En → Res D) (b : List Slot → Res Fl) : List Slot → Res Fl := fun S => match S[v]? with
  | some (.fz (.lst ds)) => f (en S) >>= fun e => match e with
    | .int j => match atI ds j with
      | some (.lst es) => forS (bindF i) b es S
      | _ => .stuck
    | _ => .stuck
  | _ => .stuck

section
variable {X : Cx} {Y : Cl} {W : Wh} {M : Md} {i : Nat} {x : Str} {px pos p : Pos} {e a : Expr} {body : List Stmt} {f fa : En → Res D} {b : List Slot → Res Fl}
theorem pg_fr (hN : X.N.Nodup) (hi : X.N[i]? = some x) (hx : Loc X.env.scope x) (hf : X.fn x = true ∨ X.env.scope.names.lookup x = some .local) : PG X (.Name x px) (gName i) := pg_name hN hi hx hf
theorem itl_run {F : Hp} {p : Addr} {vs : List V} {L : List D} (hs : SqL X.K F p vs) (r : Reps X.K Y F vs L) : (∀ (k : Nat) (H' : Hp), Same F H' → k < L.length → (Itl X.K p).go k H' ∧ ∀ x H'', (Itl X.K p).yld k H' x H'' → H'' = H' ∧ ∃ d, L[k]? = some d ∧ Rep X.K Y F x d) ∧
    (∀ (k : Nat) (H' : Hp), Same F H' → L.length ≤ k → (Itl X.K p).stop k H') := by
  refine ⟨fun k H' s hk => ?_, fun k H' s hk => ⟨vs, s.seq hs, by rw [r.length]; exact hk⟩⟩
  have hd : L[k]? = some L[k] := List.getElem?_eq_getElem hk
  obtain ⟨v, hv, rv⟩ := r.get hd
  refine ⟨⟨vs, v, s.seq hs, hv⟩, fun x H'' hy => ?_⟩
  obtain ⟨rfl, hx⟩ := hy
  have := hx vs (s.seq hs)
  rw [hv] at this
  cases this
  exact ⟨rfl, _, hd, rv⟩
theorem s_forN (i : Nat) (hp : PassesOwn (model X.prog X.w) X.A X.env X.xe) (hc : X.calm = true) (hN : X.N.Nodup) (he : J X Y W .n e f) (hb : JB X Y W M body b) (hi : X.N[i]? = some x := by rfl) (hx : Loc X.env.scope x := by first | exact Or.inl rfl | exact Or.inr rfl) (hM : M i = true := by rfl)
    (hf : X.fn x = true ∨ X.env.scope.names.lookup x = some .local := by first | exact .inl rfl | exact .inr rfl) (hfs : ∀ x, foldedSetIterable e X.env x = pure x := by intro _; rfl) : JS X Y W M (.For (.Name x px) e body [] pos) (sForN i f b) :=
  PS.imp (ps_for hp hc (pi_list he) (pg_fr hN hi hx hf) hb hfs) fun D σ H ⟨F, S, s, h⟩ => by
    refine ⟨en S, s.en, (WPs.bind h s.same).imp (Same.refl H) fun d q => ?_⟩
    intro v H1 fp sh o nd fr
    cases d with
    | lst ds =>
      obtain ⟨F', f1, f2, s', r⟩ := s.freeze sh o fr
      cases r with
      | @lst a vs _ ha r =>
        refine ⟨a, rfl, ⟨vs, SqL.of (f2 _ _ ha)⟩, ?_⟩
        obtain ⟨g1, g2⟩ := itl_run (X := X) (SqL.of ha) r
        exact for_run hM g1 g2 s' (WPs.shallow (show WPs X.K Y W M F D σ (forS (bindF i) b ds S) from q) f1)
    | _ => exact q.elim
theorem itr_run {F : Hp} {lo : Int} {n : Nat} : (∀ (k : Nat) (H' : Hp), Same F H' → k < (intsUpTo lo n).length → (Itr lo n).go k H' ∧ ∀ x H'', (Itr lo n).yld k H' x H'' → H'' = H' ∧ ∃ d, (intsUpTo lo n)[k]? = some d ∧ Rep X.K Y F x d) ∧
    (∀ (k : Nat) (H' : Hp), Same F H' → (intsUpTo lo n).length ≤ k → (Itr lo n).stop k H') := by
  have el : (intsUpTo lo n).length = n := by simp [intsUpTo]
  rw [el]
  refine ⟨fun k H' s hk => ⟨hk, fun x H'' hy => ?_⟩, fun k H' s hk => hk⟩
  obtain ⟨rfl, rfl⟩ := hy
  refine ⟨rfl, .int (lo + (k : Nat)), ?_, .int⟩
  unfold intsUpTo
  rw [List.getElem?_map, List.getElem?_range hk]
  rfl
theorem s_forR1 (i : Nat) (hp : PassesOwn (model X.prog X.w) X.A X.env X.xe) (hc : X.calm = true) (hN : X.N.Nodup) (hm : X.mg "range" = none) (he : J X Y W .r e f) (hb : JB X Y W M body b) (hg : Gl X "range" := by rfl) (hi : X.N[i]? = some x := by rfl) (hx : Loc X.env.scope x := by first | exact Or.inl rfl | exact Or.inr rfl) (hM : M i = true := by rfl)
    (hf : X.fn x = true ∨ X.env.scope.names.lookup x = some .local := by first | exact .inl rfl | exact .inr rfl) (hs : starEach [e] X.env = [(false, eval e X.env)] := by rfl) (hs1 : starEach (e :: []) X.env = (false, eval e X.env) :: starEach [] X.env := by rfl) : JS X Y W M (.For (.Name x px) (.Call (.Name "range" p) [e] [] pos) body [] pos') (sForR1 i f b) :=
  PS.imp (ps_for hp hc (pi_range1 hg hm (pa_cons he pa_nil hs1) hs) (pg_fr hN hi hx hf) hb) fun D σ H ⟨F, S, s, h⟩ => by
    refine ⟨en S, s.en, (WPs.bind h s.same).imp (Same.refl H) fun d q => ?_⟩
    intro v H1 sh r
    cases r with
    | @int n =>
      have q' : WPs X.K Y W M F D σ (if rgOk n = true then forS (bindF i) b (intsUpTo 0 n.toNat) S else .stuck) := q
      by_cases hr : rgOk n = true
      · rw [if_pos hr] at q'
        obtain ⟨z1, z2⟩ := rgOk_iff hr
        refine ⟨n, rfl, z1, z2, ?_⟩
        obtain ⟨g1, g2⟩ := itr_run (X := X) (Y := Y) (F := F) (lo := 0) (n := n.toNat)
        exact for_run hM g1 g2 (s.ext sh) q'
      · rw [if_neg hr] at q'
        exact q'.elim
    | _ => exact q.elim
theorem s_forR2 (i : Nat) (hp : PassesOwn (model X.prog X.w) X.A X.env X.xe) (hc : X.calm = true) (hN : X.N.Nodup) (hm : X.mg "range" = none) (ha : J X Y W .r a fa) (he : J X Y W .r e f) (hb : JB X Y W M body b) (hg : Gl X "range" := by rfl) (hi : X.N[i]? = some x := by rfl) (hx : Loc X.env.scope x := by first | exact Or.inl rfl | exact Or.inr rfl) (hM : M i = true := by rfl)
    (hf : X.fn x = true ∨ X.env.scope.names.lookup x = some .local := by first | exact .inl rfl | exact .inr rfl) (hs : starEach [a, e] X.env = [(false, eval a X.env), (false, eval e X.env)] := by rfl) (hs2 : starEach [e] X.env = [(false, eval e X.env)] := by rfl)
    (hs1 : starEach (a :: [e]) X.env = (false, eval a X.env) :: starEach [e] X.env := by rfl) (hs3 : starEach (e :: []) X.env = (false, eval e X.env) :: starEach [] X.env := by rfl) : JS X Y W M (.For (.Name x px) (.Call (.Name "range" p) [a, e] [] pos) body [] pos') (sForR2 i fa f b) :=
  PS.imp (ps_for hp hc (pi_range2 hg hm (pa_cons ha (pa_cons he pa_nil hs3) hs1) hs hs2) (pg_fr hN hi hx hf) hb) fun D σ H ⟨F, S, s, h⟩ => by
    refine ⟨en S, s.en, (WPs.bind h s.same).imp (Same.refl H) fun d q => ?_⟩
    intro v H1 sh r
    refine ⟨en S, s.en.mono sh, (WPs.bind q (s.same.trans sh)).imp (Same.refl H1) fun d2 q2 => ?_⟩
    intro v2 H2 sh2 r2
    cases r with
    | @int lo =>
      cases r2 with
      | @int hi =>
        have q' : WPs X.K Y W M F D σ (if (rgOk lo && rgOk hi) = true then forS (bindF i) b (intsUpTo lo (hi - lo).toNat) S else .stuck) := q2
        by_cases hr : (rgOk lo && rgOk hi) = true
        · rw [if_pos hr] at q'
          have hr' := Bool.and_eq_true_iff.mp hr
          obtain ⟨z1, z2⟩ := rgOk_iff hr'.1
          obtain ⟨z3, z4⟩ := rgOk_iff hr'.2
          refine ⟨lo, hi, rfl, ⟨z1, z2, z3, z4⟩, ?_⟩
          obtain ⟨g1, g2⟩ := itr_run (X := X) (Y := Y) (F := F) (lo := lo) (n := (hi - lo).toNat)
          exact for_run hM g1 g2 (s.ext (sh.trans sh2)) q'
        · rw [if_neg hr] at q'
          exact q'.elim
      | _ => exact q2.elim
    | _ =>
      cases d2 <;> exact q2.elim
theorem s_forV (i v : Nat) {y : Str} {py : Pos} (hp : PassesOwn (model X.prog X.w) X.A X.env X.xe) (hc : X.calm = true) (hN : X.N.Nodup) (hb : JB X Y W M body b) (hi : X.N[i]? = some x := by rfl) (hx : Loc X.env.scope x := by first | exact Or.inl rfl | exact Or.inr rfl) (hM : M i = true := by rfl)
    (hf : X.fn x = true ∨ X.env.scope.names.lookup x = some .local := by first | exact .inl rfl | exact .inr rfl)
    (hv : X.N[v]? = some y := by rfl) (hvy : Vis X.env.scope y := by first | exact Or.inl rfl | exact Or.inr (Or.inl rfl) | exact Or.inr (Or.inr rfl)) (hd : (y == ("__debug__" : Str)) = false := by decide) (hcd : (y == ("__classdict__" : Str)) = false := by decide) :
    JS X Y W M (.For (.Name x px) (.Name y py) body [] pos) (sForV i v b) :=
  PS.imp (ps_for hp hc (pi_list (pe_var hv hvy hd hcd)) (pg_fr hN hi hx hf) hb) fun D σ H ⟨F, S, s, h⟩ => by
    obtain ⟨G, f1, f2, s', hz⟩ := s.deep
    unfold sForV at h
    cases q : S[v]? with
    | none => rw [q] at h; exact h.elim
    | some z =>
      rw [q] at h
      cases z with
      | un => exact h.elim
      | own d => exact h.elim
      | ali s j => exact h.elim
      | fz d =>
        obtain ⟨u, hu, ru⟩ := hz v d q
        cases d with
        | lst ds =>
          cases ru with
          | @lst a vs _ ha r =>
            refine ⟨.ref a, hu, a, rfl, ⟨vs, SqL.of (f2 _ _ ha)⟩, ?_⟩
            obtain ⟨g1, g2⟩ := itl_run (X := X) (SqL.of ha) r
            exact for_run hM g1 g2 s' (WPs.shallow (show WPs X.K Y W M F D σ (forS (bindF i) b ds S) from h) f1)
        | scr ns =>
          cases ru with
          | @scr a _ ha =>
            refine ⟨.ref a, hu, a, rfl, ⟨_, f2.seq ha⟩, ?_⟩
            obtain ⟨g1, g2⟩ := itl_run (X := X) ha (.of_ints (Y := Y) ns)
            exact for_run hM g1 g2 s' (WPs.shallow (show WPs X.K Y W M F D σ (forS (bindF i) b (ns.map .int) S) from h) f1)
        | _ => exact h.elim
theorem s_forP (i v : Nat) {y : Str} {py : Pos} (hp : PassesOwn (model X.prog X.w) X.A X.env X.xe) (hc : X.calm = true) (hN : X.N.Nodup) (he : J X Y W .r e f) (hb : JB X Y W M body b) (hi : X.N[i]? = some x := by rfl) (hx : Loc X.env.scope x := by first | exact Or.inl rfl | exact Or.inr rfl) (hM : M i = true := by rfl)
    (hf : X.fn x = true ∨ X.env.scope.names.lookup x = some .local := by first | exact .inl rfl | exact .inr rfl) (hs : PlainIx e := by exact fun _ _ => rfl)
    (hv : X.N[v]? = some y := by rfl) (hvy : Vis X.env.scope y := by first | exact Or.inl rfl | exact Or.inr (Or.inl rfl) | exact Or.inr (Or.inr rfl)) (hd : (y == ("__debug__" : Str)) = false := by decide) (hcd : (y == ("__classdict__" : Str)) = false := by decide) :
    JS X Y W M (.For (.Name x px) (.Subscript (.Name y py) e p) body [] pos) (sForP i v f b) :=
  PS.imp (ps_for hp hc (pi_list (pe_ix ix_list (pe_var hv hvy hd hcd) he hs)) (pg_fr hN hi hx hf) hb) fun D σ H ⟨F, S, s, h⟩ => by
    obtain ⟨G, f1, f2, s', hz⟩ := s.deep
    unfold sForP at h
    cases q : S[v]? with
    | none => rw [q] at h; exact h.elim
    | some z =>
      rw [q] at h
      cases z with
      | un => exact h.elim
      | own d => exact h.elim
      | ali s j => exact h.elim
      | fz d =>
        obtain ⟨u, hu, ru⟩ := hz v d q
        cases d with
        | lst ds =>
          cases ru with
          | @lst a vs _ ha r =>
            refine ⟨.ref a, hu, ?_⟩
            have h' : WPs X.K Y W M F D σ (f (en S) >>= fun e => match e with
              | .int j => match atI ds j with
                | some (.lst es) => forS (bindF i) b es S
                | _ => .stuck
              | _ => .stuck) := h
            refine ⟨en S, s.en, (WPs.bind h' s.same).imp (Same.refl H) fun d2 q2 => ?_⟩
            intro v2 H2 sh2 r2
            cases r2 with
            | @int j =>
              cases q3 : atI ds j with
              | none =>
                simp only [q3] at q2
                exact q2.elim
              | some d3 =>
                simp only [q3] at q2
                obtain ⟨u3, hu3, ru3⟩ := r.at q3
                cases d3 with
                | lst es =>
                  cases ru3 with
                  | @lst a3 vs3 _ ha3 r3 =>
                    have f2' := f2.trans sh2
                    refine ⟨a, vs, j, .ref a3, rfl, rfl, SqL.of (f2' _ _ ha), hu3, a3, rfl, ⟨vs3, SqL.of (f2' _ _ ha3)⟩, ?_⟩
                    obtain ⟨g1, g2⟩ := itl_run (X := X) (SqL.of ha3) r3
                    exact for_run hM g1 g2 (s'.ext sh2) (WPs.shallow (show WPs X.K Y W M F D σ (forS (bindF i) b es S) from q2) f1)
                | _ => exact q2.elim
            | _ => exact q2.elim
        | _ => exact h.elim
end
end Ow
end
section
set_option linter.all false
set_option maxRecDepth 100000
set_option maxHeartbeats 1000000
/-! Ow8: reckoning with the plain functions. -/
namespace Ow
open PySem L2
@[simp] theorem map_fz_cons (d : D) (ds : List D) : (d :: ds).map Slot.fz = Slot.fz d :: ds.map Slot.fz := rfl
@[simp] theorem dat_fz (S : List Slot) (d : D) : Slot.dat S (.fz d) = some d := rfl
@[simp] theorem dat_own (S : List Slot) (d : D) : Slot.dat S (.own d) = some d := rfl
@[simp] theorem dat_un (S : List Slot) : Slot.dat S .un = none := rfl
@[simp] theorem kill_fz (i : Nat) (d : D) : Slot.kill i (.fz d) = .fz d := rfl
@[simp] theorem kill_own (i : Nat) (d : D) : Slot.kill i (.own d) = .own d := rfl
@[simp] theorem kill_un (i : Nat) : Slot.kill i .un = .un := rfl
@[simp] theorem mk_int (i : Int) : mk (.int i) = .fz (.int i) := by simp [mk, pureD]
@[simp] theorem mk_bl (i : Bool) : mk (.bl i) = .fz (.bl i) := by simp [mk, pureD]
@[simp] theorem mk_non : mk .non = .fz .non := by simp [mk, pureD]
@[simp] theorem mk_str (x : Str) : mk (.str x) = .fz (.str x) := by simp [mk, pureD]
@[simp] theorem mk_lst (x : List D) : mk (.lst x) = .own (.lst x) := by simp [mk, pureD]
@[simp] theorem mk_dI (x : List (Int × D)) : mk (.dI x) = .own (.dI x) := by simp [mk, pureD]
@[simp] theorem mk_dT (x : List (List Int × D)) : mk (.dT x) = .own (.dT x) := by simp [mk, pureD]
theorem mk_pure {d : D} (h : pureD d = true) : mk d = .fz d := by simp [mk, h]
/-- a fraction -/
abbrev fr (a b : Int) : D := .tup [.int a, .int b]
@[simp] theorem pure_fr (a b : Int) : pureD (fr a b) = true := by simp [pureD, pureDs]
@[simp] theorem mk_fr (a b : Int) : mk (.tup [.int a, .int b]) = .fz (.tup [.int a, .int b]) := mk_pure (pure_fr a b)
@[simp] theorem pureD_int' (i : Int) : pureD (.int i) = true := pureD_int i
@[simp] theorem pureD_bl' (i : Bool) : pureD (.bl i) = true := pureD_bl i
@[simp] theorem pureD_non' : pureD .non = true := pureD_non
@[simp] theorem pureD_str' (x : Str) : pureD (.str x) = true := pureD_str x
@[simp] theorem pureD_lst' (x : List D) : pureD (.lst x) = false := pureD_lst x
@[simp] theorem pureD_tup' (x : List D) : pureD (.tup x) = pureDs x := pureD_tup x
@[simp] theorem pureDs_nil' : pureDs [] = true := pureDs_nil
@[simp] theorem pureDs_cons' (d : D) (ds : List D) : pureDs (d :: ds) = (pureD d && pureDs ds) := pureDs_cons d ds

@[simp] theorem oAdd_int (a b : Int) : oAdd (.int a) (.int b) = .ok (.int (a + b)) := rfl
@[simp] theorem oSub_int (a b : Int) : oSub (.int a) (.int b) = .ok (.int (a - b)) := rfl
@[simp] theorem oLt_int (a b : Int) : oLt (.int a) (.int b) = .ok (.bl (decide (a < b))) := rfl
@[simp] theorem oLe_int (a b : Int) : oLe (.int a) (.int b) = .ok (.bl (decide (a ≤ b))) := rfl
@[simp] theorem oGt_int (a b : Int) : oGt (.int a) (.int b) = .ok (.bl (decide (b < a))) := rfl
@[simp] theorem oGe_int (a b : Int) : oGe (.int a) (.int b) = .ok (.bl (decide (b ≤ a))) := rfl
@[simp] theorem oMin_int (a b : Int) : oMin (.int a) (.int b) = .ok (.int (if b < a then b else a)) := rfl
@[simp] theorem oMax_int (a b : Int) : oMax (.int a) (.int b) = .ok (.int (if b > a then b else a)) := rfl
@[simp] theorem oNeg_int (a : Int) : oNeg (.int a) = .ok (.int (-a)) := rfl
@[simp] theorem oAbs_int (a : Int) : oAbs (.int a) = .ok (.int (if a < 0 then -a else a)) := rfl
/-- the size of a number: below two to the n -/
abbrev Sz (n : Nat) (a : Int) : Prop := a.natAbs < 2 ^ n
theorem log2_lt {n k : Nat} (h : n < 2 ^ k) (hk : 0 < k) : n.log2 < k := by
  by_cases e : n = 0
  · subst e
    simpa using hk
  · exact (Nat.log2_lt e).mpr h
theorem oMul_ok {a b : Int} {n m : Nat} (ha : Sz n a) (hb : Sz m b) (h : n + m ≤ 999000) : oMul (.int a) (.int b) = .ok (.int (a * b)) := by
  have h1 : a.natAbs.log2 < n + 1 := log2_lt (Nat.lt_of_lt_of_le ha (Nat.pow_le_pow_right (by decide) (Nat.le_succ n))) (Nat.succ_pos n)
  have h2 : b.natAbs.log2 < m + 1 := log2_lt (Nat.lt_of_lt_of_le hb (Nat.pow_le_pow_right (by decide) (Nat.le_succ m))) (Nat.succ_pos m)
  have : cMul a b = true := decide_eq_true (by omega)
  show (if cMul a b = true then Res.ok (D.int (a * b)) else .stuck) = _
  rw [if_pos this]
theorem oDiv_ok {a b : Int} {n : Nat} (h0 : b ≠ 0) (hb : Sz n b) (h : n ≤ 8999) : oDiv (.int a) (.int b) = .ok (.int (a.fdiv b)) := by
  have h2 : b.natAbs.log2 < n + 1 := log2_lt (Nat.lt_of_lt_of_le hb (Nat.pow_le_pow_right (by decide) (Nat.le_succ n))) (Nat.succ_pos n)
  have : cDiv a b = true := by
    unfold cDiv
    rw [decide_eq_true h0, decide_eq_true (show b.natAbs.log2 < 9000 by omega)]
    rfl
  show (if cDiv a b = true then Res.ok (D.int (a.fdiv b)) else .stuck) = _
  rw [if_pos this]
theorem oMod_ok {a b : Int} (h0 : b ≠ 0) : oMod (.int a) (.int b) = .ok (.int (a.fmod b)) := by
  have : cMod a b = true := decide_eq_true h0
  show (if cMod a b = true then Res.ok (D.int (a.fmod b)) else .stuck) = _
  rw [if_pos this]
/-- by a positive number -/
theorem oDiv_pos {a b : Int} (h0 : 0 < b) (hb : Sz 8000 b) : oDiv (.int a) (.int b) = .ok (.int (a / b)) := by
  rw [oDiv_ok (n := 8000) (by omega) hb (by decide), Int.fdiv_eq_ediv_of_nonneg a (by omega)]
/-- by a written number -/
theorem oDiv_c {a b : Int} (h0 : 0 < b) (hb : Sz 250 b) : oDiv (.int a) (.int b) = .ok (.int (a / b)) :=
  oDiv_pos h0 (Nat.lt_of_lt_of_le hb (Nat.pow_le_pow_right (by decide) (by decide)))
theorem oMod_pos {a b : Int} (h0 : 0 < b) : oMod (.int a) (.int b) = .ok (.int (a % b)) := by
  rw [oMod_ok (by omega), Int.fmod_eq_emod_of_nonneg a (by omega)]
/-- == of ints -/
theorem shp_int (a : Int) : shp (.int a) = true := by
  unfold shp
  rw [toP]
  rfl
@[simp] theorem oEq_int (a b : Int) : oEq (.int a) (.int b) = .ok (.bl (decide (a = b))) := by
  unfold oEq
  rw [shp_int, shp_int, toP, toP, PyData.eqv]
  rfl
@[simp] theorem oNe_int (a b : Int) : oNe (.int a) (.int b) = .ok (.bl (!decide (a = b))) := by
  unfold oNe
  rw [shp_int, shp_int, toP, toP, PyData.eqv]
  rfl
@[simp] theorem isNon_tup (x : List D) : isNon (.tup x) = false := rfl
@[simp] theorem isNon_lst (x : List D) : isNon (.lst x) = false := rfl
@[simp] theorem isNon_int (x : Int) : isNon (.int x) = false := rfl
@[simp] theorem isNon_non : isNon .non = true := rfl
@[simp] theorem oLen_lst (x : List D) : oLen (.lst x) = .ok (.int x.length) := rfl
@[simp] theorem oLen_tup (x : List D) : oLen (.tup x) = .ok (.int x.length) := rfl
@[simp] theorem oLen_scr (x : List Int) : oLen (.scr x) = .ok (.int x.length) := rfl
theorem oIx_lst (x : List D) (i : Int) : oIx (.lst x) (.int i) = match atI x i with
    | some d => .ok d
    | none => .stuck := rfl
theorem oIx_tup (x : List D) (i : Int) : oIx (.tup x) (.int i) = match atI x i with
    | some d => .ok d
    | none => .stuck := rfl
theorem oIx_scr (x : List Int) (i : Int) : oIx (.scr x) (.int i) = match atI x i with
    | some d => .ok (.int d)
    | none => .stuck := rfl
@[simp] theorem oIx_p0 (a b : D) : oIx (.tup [a, b]) (.int 0) = .ok a := rfl
@[simp] theorem oIx_p1 (a b : D) : oIx (.tup [a, b]) (.int 1) = .ok b := rfl
theorem atI_nat' {α : Type} {xs : List α} {i : Int} (h : 0 ≤ i) : atI xs i = xs[i.toNat]? := by
  unfold atI ixN
  rw [if_pos h]
  by_cases e : i < xs.length
  · rw [if_pos e]; rfl
  · rw [if_neg e]
    have : xs.length ≤ i.toNat := by omega
    rw [List.getElem?_eq_none this]
    rfl
end Ow
end
section
set_option linter.all false
set_option maxRecDepth 100000
set_option maxHeartbeats 1000000
/-! Ow9: loops, slices, in plain. -/
namespace Ow
open PySem L2
theorem forS_all {α : Type} {bind : α → List Slot → Res (List Slot)} {b : List Slot → Res Fl} (I : Nat → List Slot → Prop) : ∀ (L : List α) (S : List Slot), I 0 S → (∀ (k : Nat) (d : α) S, L[k]? = some d → I k S → ∃ S1 S', bind d S = .ok S1 ∧ b S1 = .ok (.nx S') ∧ I (k + 1) S') →
    ∃ S', forS bind b L S = .ok (.nx S') ∧ I L.length S'
  | [], S, h0, _ => ⟨S, rfl, h0⟩
  | d :: L, S, h0, hs => by
    obtain ⟨S1, S', e1, e2, h1⟩ := hs 0 d S rfl h0
    obtain ⟨S2, e3, h2⟩ := forS_all (fun k => I (k + 1)) L S' h1 (fun k d S hd hI => hs (k + 1) d S hd hI)
    refine ⟨S2, ?_, h2⟩
    unfold forS
    rw [e1]
    simp only [ok_bind]
    rw [e2]
    exact e3
theorem cutG_to {α : Type} (xs : List α) (n : Nat) : cutG xs none (some (n : Int)) = xs.take n := by
  unfold cutG
  rw [HT.sIx_nat, HT.sIx_none]
  simp only [Nat.sub_zero, List.drop_zero]
  exact List.take_eq_take_iff.mpr (by omega)
theorem cutG_from {α : Type} (xs : List α) (n : Nat) : cutG xs (some (n : Int)) none = xs.drop n := by
  unfold cutG
  rw [HT.sIx_nat, HT.sIx_none]
  apply List.ext_getElem?
  intro i
  rw [List.getElem?_take, List.getElem?_drop, List.getElem?_drop]
  by_cases h : i < xs.length - min n xs.length
  · rw [if_pos h]
    congr 1
    omega
  · rw [if_neg h]
    exact (List.getElem?_eq_none (by omega)).symm
/-! ### divisors -/
/-- what the while of divisor does -/
def dvC : En → Res Bool := tBl (x2 oGt (xVar 1) (xC (.int 0)))
def dvB : List Slot → Res Fl := sPar 0 1 (xVar 1) (x2 oMod (xVar 0) (xVar 1))
theorem dv_while : ∀ (n : Nat) (x y : Int), y.toNat ≤ n → 0 ≤ x → 0 ≤ y → sWhile dvC dvB [.fz (.int x), .fz (.int y)] = .ok (.nx [.fz (.int (Int.gcd x y)), .fz (.int 0)]) := by
  intro n
  induction n with
  | zero =>
    intro x y h hx hy
    have e : y = 0 := by omega
    subst e
    rw [sWhile_eq]
    simp [dvC, tBl, x2, xVar, xC, en]
    omega
  | succ n ih =>
    intro x y h hx hy
    rw [sWhile_eq]
    by_cases e : y = 0
    · subst e
      simp [dvC, tBl, x2, xVar, xC, en]
      omega
    · have hy0 : 0 < y := by omega
      have hlt := Int.emod_lt_of_pos x hy0
      have hge := Int.emod_nonneg x e
      have hb : dvB [.fz (.int x), .fz (.int y)] = .ok (.nx [.fz (.int y), .fz (.int (x % y))]) := by
        simp [dvB, sPar, xVar, x2, en, oMod_pos hy0, setS]
      have hc : dvC (en [.fz (.int x), .fz (.int y)]) = .ok true := by
        simp [dvC, tBl, x2, xVar, xC, en, hy0]
      rw [hc, ok_bind, if_pos rfl, hb, ok_bind]
      show sWhile dvC dvB [.fz (.int y), .fz (.int (x % y))] = _
      have eg : Int.gcd y (x % y) = Int.gcd x y := by
        rw [Int.gcd_comm x y]
        have := Int.gcd_add_mul_left_right y (x % y) (x / y)
        rw [Int.emod_add_mul_ediv] at this
        exact this.symm
      rw [ih y (x % y) (by omega) hy hge, eg]
end Ow
end
section
set_option linter.all false
set_option maxRecDepth 100000
set_option maxHeartbeats 2000000
/-! Ow10: loops with any target: enumerate, zip; tuples unpacked. -/
namespace Ow
open PySem L2 PySem.Spec
section
variable {K : PySem.W.Frag} {Y : Cl} {F H H' : Hp} {S : List Slot} {σ : St}
/-- the walk over items, any binding -/
theorem for_gen {α : Type} {W : Wh} {M : Md} {D' : Ends} {J : It} {g : TG} {b : List Slot → Res Fl} {bind : α → List Slot → Res (List Slot)} {L : List α}
    (hgo : ∀ (k : Nat) (a : α) (S1 : List Slot) (σ1 : St) (H1 : Hp) (S2 : List Slot), L[k]? = some a → Sat K Y F S1 σ1 H1 → Stay M σ σ1 → bind a S1 = .ok S2 → J.go k H1 ∧ ∀ x H2, J.yld k H1 x H2 → ∀ Q : St → Hp → Prop, (∀ σ2 H3, Sat K Y F S2 σ2 H3 → Stay M σ1 σ2 → Q σ2 H3) → g x σ1 H2 Q)
    (hst : ∀ (S1 : List Slot) (σ1 : St) (H1 : Hp), Sat K Y F S1 σ1 H1 → Stay M σ σ1 → J.stop L.length H1) (hcalm : ∀ a S1 e, bind a S1 ≠ .exc e) (s : Sat K Y F S σ H) (h : WPs K Y W M F D' σ (forS bind b L S)) :
    ∃ W' : Nat → Nat → St → Hp → Prop, (∃ m, W' 0 m σ H) ∧ ∀ k m σ1 H1, W' k m σ1 H1 → (J.stop k H1 ∧ D'.nx σ1 H1) ∨ (J.go k H1 ∧ ∃ N : St → Hp → Prop, (∀ σ' H', N σ' H' → ∃ m', m' < m ∧ W' (k + 1) m' σ' H') ∧
      ∀ x H', J.yld k H1 x H' → g x σ1 H' fun σ2 H2 => tS K Y W M b { D' with nx := N, ct := N, bk := D'.nx } σ2 H2) := by
  refine ⟨fun k m σ1 H1 => m = L.length - k ∧ k ≤ L.length ∧ ∃ S1, Sat K Y F S1 σ1 H1 ∧ Stay M σ σ1 ∧ WPs K Y W M F D' σ (forS bind b (L.drop k) S1), ⟨_, rfl, Nat.zero_le _, S, s, Stay.refl M σ, h⟩, ?_⟩
  rintro k m σ1 H1 ⟨rfl, hk, S1, s1, y1, p⟩
  by_cases hlt : k < L.length
  · have hd : L[k]? = some L[k] := List.getElem?_eq_getElem hlt
    have ed : L.drop k = L[k] :: L.drop (k + 1) := List.drop_eq_getElem_cons hlt
    rw [ed] at p
    have p' : WPs K Y W M F D' σ (bind L[k] S1 >>= fun S2 => b S2 >>= fun r => match r with
      | .nx S' => forS bind b (L.drop (k + 1)) S'
      | .ct S' => forS bind b (L.drop (k + 1)) S'
      | .bk S' => .ok (.nx S')
      | .rt d S' => .ok (.rt d S')) := p
    cases qb : bind L[k] S1 with
    | stuck => rw [qb] at p'; exact p'.elim
    | exc e => exact absurd qb (hcalm _ _ e)
    | ok S2 =>
      rw [qb, ok_bind] at p'
      obtain ⟨g1, g2⟩ := hgo k L[k] S1 σ1 H1 S2 hd s1 y1 qb
      refine .inr ⟨g1, fun σ' H' => ∃ S', Sat K Y F S' σ' H' ∧ Stay M σ σ' ∧ WPs K Y W M F D' σ (forS bind b (L.drop (k + 1)) S'), fun σ' H' ⟨S', a1, a2, a3⟩ => ⟨_, by omega, rfl, hlt, S', a1, a2, a3⟩, fun x H' hy => ?_⟩
      refine g2 x H' hy _ fun σ2 H2 s2 y2 => ⟨F, S2, s2, ?_⟩
      have y3 : Stay M σ σ2 := y1.trans y2
      cases q : b S2 with
      | stuck => rw [q] at p'; exact p'
      | exc e => rw [q] at p'; exact p'
      | ok r =>
        rw [q] at p'
        cases r with
        | rt d S2 => exact fun v H2 r => p' v H2 (r.stay y3)
        | nx S' => exact fun σ' H' s' st => ⟨S', s', y3.trans st, p'⟩
        | ct S' => exact fun σ' H' s' st => ⟨S', s', y3.trans st, p'⟩
        | bk S' => exact fun σ' H' s' st => p' σ' H' s' (y3.trans st)
  · have ed : L.drop k = [] := List.drop_of_length_le (by omega)
    rw [ed] at p
    have ek : k = L.length := by omega
    subst ek
    exact .inl ⟨hst S1 σ1 H1 s1 y1, p σ1 H1 s1 y1⟩
end
/-- the items with their numbers -/
def enumD (k : Nat) : List D → List (Nat × D)
  | [] => []
  | d :: ds => (k, d) :: enumD (k + 1) ds
theorem enumD_len : ∀ (k : Nat) (ds : List D), (enumD k ds).length = ds.length
  | _, [] => rfl
  | k, d :: ds => by simp [enumD, enumD_len (k + 1) ds]
theorem enumD_get : ∀ (ds : List D) (k i : Nat), (enumD k ds)[i]? = (ds[i]?).map fun d => (k + i, d)
  | [], k, i => by simp [enumD]
  | d :: ds, k, 0 => by simp [enumD]
  | d :: ds, k, i + 1 => by
    simp only [enumD, List.getElem?_cons_succ]
    rw [enumD_get ds (k + 1) i]
    simp [Nat.add_comm, Nat.add_left_comm]
def bind2 (i j : Nat) (p : Nat × D) (S : List Slot) : Res (List Slot) := .ok (setS (setS S i (.fz (.int p.1))) j (.fz p.2))
/-- for i, j in enumerate(a new list) -/
def sForE (i j : Nat) (f : En → Res D) (b : List Slot → Res Fl) : List Slot → Res Fl := fun S => f (en S) >>= fun d => match d with
  | .lst ds => forS (bind2 i j) b (enumD 0 ds) S
  | _ => .stuck
/-- a, b = a pure pair -/
def sUnp2 (i j : Nat) (f : En → Res D) : List Slot → Res Fl := fun S => f (en S) >>= fun d => match d with
  | .tup [x, y] => if (pureD x && pureD y) = true then .ok (.nx (setS (setS S i (.fz x)) j (.fz y))) else .stuck
  | _ => .stuck
section
variable {X : Cx} {Y : Cl} {W : Wh} {M : Md} {x y : Str} {px py pt pos p : Pos} {kt : Nat} {e : Expr} {body : List Stmt} {f : En → Res D} {b : List Slot → Res Fl}
theorem pg_pair {i j : Nat} (hc : X.calm = true) (hN : X.N.Nodup) (hi : X.N[i]? = some x) (hj : X.N[j]? = some y) (hx : Loc X.env.scope x) (hy : Loc X.env.scope y) (hfx : X.fn x = true ∨ X.env.scope.names.lookup x = some .local) (hfy : X.fn y = true ∨ X.env.scope.names.lookup y = some .local)
    (hn : (assignEach [.Name x px, .Name y py] X.env).length = 2) (hst : (assignEach [.Name x px, .Name y py] X.env).findIdx? (·.1) = none) (h1 : (assignEach (.Name x px :: [.Name y py]) X.env).map (·.2) = assign (.Name x px) X.env :: (assignEach [.Name y py] X.env).map (·.2))
    (h2 : (assignEach (.Name y py :: []) X.env).map (·.2) = assign (.Name y py) X.env :: (assignEach [] X.env).map (·.2)) : PG X (.Tuple [.Name x px, .Name y py] kt pt) (gTup X.K 2 (gCons (gName i) (gCons (gName j) gNil))) :=
  pg_tup hc (pgs_cons (pg_name hN hi hx hfx) (pgs_cons (pg_name hN hj hy hfy) pgs_nil h2) h1) hn hst
theorem s_forE (i j : Nat) (hp : PassesOwn (model X.prog X.w) X.A X.env X.xe) (hc : X.calm = true) (hN : X.N.Nodup) (hm : X.mg "enumerate" = none) (he : J X Y W .n e f) (hb : JB X Y W M body b) (hg : Gl X "enumerate" := by rfl) (hi : X.N[i]? = some x := by rfl) (hj : X.N[j]? = some y := by rfl)
    (hx : Loc X.env.scope x := by first | exact Or.inl rfl | exact Or.inr rfl) (hy : Loc X.env.scope y := by first | exact Or.inl rfl | exact Or.inr rfl) (hMi : M i = true := by rfl) (hMj : M j = true := by rfl)
    (hfx : X.fn x = true ∨ X.env.scope.names.lookup x = some .local := by first | exact .inl rfl | exact .inr rfl) (hfy : X.fn y = true ∨ X.env.scope.names.lookup y = some .local := by first | exact .inl rfl | exact .inr rfl)
    (hn : (assignEach [.Name x px, .Name y py] X.env).length = 2 := by rfl) (hst : (assignEach [.Name x px, .Name y py] X.env).findIdx? (·.1) = none := by rfl) (h1 : (assignEach (.Name x px :: [.Name y py]) X.env).map (·.2) = assign (.Name x px) X.env :: (assignEach [.Name y py] X.env).map (·.2) := by rfl)
    (h2 : (assignEach (.Name y py :: []) X.env).map (·.2) = assign (.Name y py) X.env :: (assignEach [] X.env).map (·.2) := by rfl) (hs : starEach [e] X.env = [(false, eval e X.env)] := by rfl) (hs1 : starEach (e :: []) X.env = (false, eval e X.env) :: starEach [] X.env := by rfl) :
    JS X Y W M (.For (.Tuple [.Name x px, .Name y py] kt pt) (.Call (.Name "enumerate" p) [e] [] pos) body [] pos') (sForE i j f b) :=
  PS.imp (ps_for hp hc (pi_enum hg hm (pa_cons he pa_nil hs1) hs) (pg_pair hc hN hi hj hx hy hfx hfy hn hst h1 h2) hb) fun D σ H ⟨F, S, s, h⟩ => by
    refine ⟨en S, s.en, (WPs.bind h s.same).imp (Same.refl H) fun d q => ?_⟩
    intro v H1 fp sh o nd fr
    cases d with
    | lst ds =>
      obtain ⟨F', f1, f2, s', r⟩ := s.freeze sh o fr
      cases r with
      | @lst a vs _ ha r =>
        refine ⟨a, vs, rfl, SqL.of (f2 _ _ ha), ?_⟩
        refine for_gen (K := X.K) (Y := Y) (F := F') (J := Ite X.K a) (bind := bind2 i j) (L := enumD 0 ds) (fun k pd S1 σ1 H2 S2 hk s1 y1 hb => ?_) (fun S1 σ1 H2 s1 y1 => ?_) (fun a S1 e z => by cases z) s' (WPs.shallow (show WPs X.K Y W M F D σ (forS (bind2 i j) b (enumD 0 ds) S) from q) f1)
        · rw [enumD_get] at hk
          obtain ⟨d, hd, rfl⟩ := Option.map_eq_some_iff.mp hk
          obtain ⟨v, hv, rv⟩ := r.get hd
          refine ⟨⟨vs, v, SqL.of (s1.same _ _ ha), hv⟩, fun x H3 hy Q hQ => ?_⟩
          obtain ⟨Tp, u, rfl, hT, rfl, hu⟩ := hy
          have eu := hu vs (SqL.of (s1.same _ _ ha))
          rw [hv] at eu
          cases eu
          have sm : Same H2 (upd H2 Tp (.tup [.int (k : Nat), v])) := same_new hT
          refine ⟨Tp, _, rfl, SqT.of upd_same, rfl, _, _, rfl, _, _, rfl, rfl, ?_⟩
          cases hb
          refine hQ _ _ (((s1.ext sm).setPure (Same.refl _) .int (pureD_int _)).setFz rv) ((Stay.set hMi).trans (Stay.set hMj)) |> fun z => ?_
          simpa using z
        · rw [enumD_len]
          exact ⟨vs, SqL.of (s1.same _ _ ha), by rw [r.length]; exact Nat.le_refl _⟩
    | _ => exact q.elim
theorem s_unp2 (i j : Nat) (hc : X.calm = true) (hN : X.N.Nodup) (he : J X Y W .r e f) (hi : X.N[i]? = some x := by rfl) (hj : X.N[j]? = some y := by rfl)
    (hx : Loc X.env.scope x := by first | exact Or.inl rfl | exact Or.inr rfl) (hy : Loc X.env.scope y := by first | exact Or.inl rfl | exact Or.inr rfl) (hMi : M i = true := by rfl) (hMj : M j = true := by rfl)
    (hfx : X.fn x = true ∨ X.env.scope.names.lookup x = some .local := by first | exact .inl rfl | exact .inr rfl) (hfy : X.fn y = true ∨ X.env.scope.names.lookup y = some .local := by first | exact .inl rfl | exact .inr rfl)
    (hn : (assignEach [.Name x px, .Name y py] X.env).length = 2 := by rfl) (hst : (assignEach [.Name x px, .Name y py] X.env).findIdx? (·.1) = none := by rfl) (h1 : (assignEach (.Name x px :: [.Name y py]) X.env).map (·.2) = assign (.Name x px) X.env :: (assignEach [.Name y py] X.env).map (·.2) := by rfl)
    (h2 : (assignEach (.Name y py :: []) X.env).map (·.2) = assign (.Name y py) X.env :: (assignEach [] X.env).map (·.2) := by rfl)
    (hs : swapsWithSole [.Tuple [.Name x px, .Name y py] kt pt] e pos.line X.env = pure false := by rfl) (hw : swappedStores [.Tuple [.Name x px, .Name y py] kt pt] e X.env = pure none := by rfl) (h3 : (assignEach [.Tuple [.Name x px, .Name y py] kt pt] X.env).map (·.2) = [assign (.Tuple [.Name x px, .Name y py] kt pt) X.env] := by rfl) :
    JS X Y W M (.Assign [.Tuple [.Name x px, .Name y py] kt pt] e pos) (sUnp2 i j f) :=
  PS.imp (ps_asg he (pg_pair hc hN hi hj hx hy hfx hfy hn hst h1 h2) hs hw h3) fun D σ H ⟨F, S, s, h⟩ => by
    refine ⟨en S, s.en, (WPs.bind h s.same).imp (Same.refl H) fun d q => ?_⟩
    intro v H1 sh r
    split at q
    · rename_i d1 d2
      by_cases hp : (pureD d1 && pureD d2) = true
      · rw [if_pos hp] at q
        have hp' := Bool.and_eq_true_iff.mp hp
        cases r with
        | tup ht rs =>
          cases rs with
          | cons r1 rs =>
            cases rs with
            | cons r2 rs =>
              cases rs
              refine ⟨_, _, rfl, ht, rfl, _, _, rfl, _, _, rfl, rfl, ?_⟩
              exact q _ _ ((s.setPure sh r1 hp'.1).setPure (Same.refl _) r2 hp'.2) ((Stay.set hMi).trans (Stay.set hMj))
      · rw [if_neg hp] at q
        exact q.elim
    · exact q.elim
end
end Ow
end
section
set_option linter.all false
set_option maxRecDepth 100000
set_option maxHeartbeats 2000000
/-! Ow11: iterators, and list comprehensions. -/
namespace Ow
open PySem L2 PySem.Spec

/-- what a turn binds -/
abbrev Bd := List (Nat × D)
def setE (en : En) : Bd → En
  | [] => en
  | (i, d) :: r => setE (en.set i (some d)) r
def setV (σ : St) : List (Nat × V) → St
  | [] => σ
  | (i, v) :: r => setV (σ.set i (some v)) r
def wipeE (en : En) : List Nat → En
  | [] => en
  | v :: vs => (wipeE en vs).set v none
inductive BdRep (K : PySem.W.Frag) (Y : Cl) (F H : Hp) : List (Nat × V) → Bd → Prop
  | nil : BdRep K Y F H [] []
  | cons {i : Nat} {v : V} {d : D} {r : List (Nat × V)} {s : Bd} : (Rep K Y F v d ∨ (pureD d = true ∧ Rep K Y H v d)) → BdRep K Y F H r s → BdRep K Y F H ((i, v) :: r) ((i, d) :: s)
structure ItOk (K : PySem.W.Frag) (Y : Cl) (J : It) (g : TG) {α : Type} (l : List α) (bnd : α → Bd) (F : Hp) : Prop where
  go : ∀ (k : Nat) (H' : Hp), Same F H' → k < l.length → J.go k H'
  stop : ∀ H' : Hp, Same F H' → J.stop l.length H'
  step : ∀ (k : Nat) (a : α) (H' : Hp) (x : V) (H'' : Hp) (σ : St), l[k]? = some a → Same F H' → J.yld k H' x H'' → Same H' H'' ∧ ∀ Q : St → Hp → Prop, (∀ ws, BdRep K Y F H'' ws (bnd a) → Q (setV σ ws) H'') → g x σ H'' Q

section
variable {K : PySem.W.Frag} {Y : Cl} {F H H' : Hp} {σ : St} {en : En}
theorem EnOk.set (h : EnOk K Y H σ en) {i : Nat} {v : V} {d : D} (r : Rep K Y H v d) : EnOk K Y H (σ.set i (some v)) (en.set i (some d)) := by
  refine ⟨by rw [List.length_set, List.length_set]; exact h.1, fun k e q => ?_⟩
  by_cases hk : k = i
  · subst hk
    by_cases hl : k < en.length
    · rw [List.getElem?_set_self hl] at q
      cases q
      exact ⟨v, by rw [List.getElem?_set_self (by rw [← h.1]; exact hl)], r⟩
    · rw [List.getElem?_eq_none (by simpa using hl)] at q
      cases q
  · rw [List.getElem?_set_ne (Ne.symm hk)] at q ⊢
    exact h.2 k e q
theorem EnOk.setE {ws : List (Nat × V)} {bd : Bd} (b : BdRep K Y F H ws bd) (fh : Same F H) : ∀ {σ : St} {en : En}, EnOk K Y H σ en → EnOk K Y H (setV σ ws) (setE en bd) := by
  induction b with
  | nil => exact fun h => h
  | cons hr _ ih =>
    intro σ en h
    refine ih (h.set ?_)
    rcases hr with hr | ⟨_, hr⟩
    · exact hr.mono fh
    · exact hr
theorem EnOk.wipe (h : EnOk K Y H σ en) : ∀ vs : List Nat, EnOk K Y H (wipe σ vs) (wipeE en vs)
  | [] => h
  | v :: vs => by
    have ih := EnOk.wipe h vs
    unfold L2.wipe wipeE
    refine ⟨by rw [List.length_set, List.length_set]; exact ih.1, fun k e q => ?_⟩
    by_cases hk : k = v
    · subst hk
      by_cases hl : k < (wipeE en vs).length
      · rw [List.getElem?_set_self hl] at q
        cases q
      · rw [List.getElem?_eq_none (by simpa using hl)] at q
        cases q
    · rw [List.getElem?_set_ne (Ne.symm hk)] at q ⊢
      exact ih.2 k e q
theorem wipe_out {i : Nat} {x : Option V} : ∀ {vs : List Nat} {σ : St}, i ∉ vs → wipe (σ.set i x) vs = (wipe σ vs).set i x
  | [], σ, h => rfl
  | v :: vs, σ, h => by
    unfold L2.wipe
    rw [wipe_out (fun z => h (List.mem_cons_of_mem _ z)), List.set_comm _ _ (show i ≠ v from fun e => h (by rw [e]; exact List.mem_cons_self))]
theorem wipe_set {i : Nat} {x : Option V} : ∀ {vs : List Nat} {σ : St}, i ∈ vs → wipe (σ.set i x) vs = wipe σ vs
  | v :: vs, σ, h => by
    unfold L2.wipe
    by_cases hi : i ∈ vs
    · rw [wipe_set hi]
    · have e : i = v := by
        rcases List.mem_cons.mp h with e | e
        · exact e
        · exact absurd e hi
      subst e
      rw [wipe_out hi, List.set_set]
theorem wipe_twice (σ : St) : ∀ us vs : List Nat, (∀ v ∈ vs, v ∈ us) → wipe (wipe σ vs) us = wipe σ us
  | us, [], _ => rfl
  | us, v :: vs, h => by
    have e : wipe σ (v :: vs) = (wipe σ vs).set v none := rfl
    rw [e, wipe_set (h v List.mem_cons_self)]
    exact wipe_twice σ us vs fun u hu => h u (List.mem_cons_of_mem _ hu)
theorem wipe_setV {ws : List (Nat × V)} {vs : List Nat} : ∀ {σ : St}, (∀ p ∈ ws, p.1 ∈ vs) → wipe (setV σ ws) vs = wipe σ vs := by
  induction ws with
  | nil => exact fun _ => rfl
  | cons p r ih =>
    intro σ h
    obtain ⟨i, v⟩ := p
    show wipe (setV (σ.set i (some v)) r) vs = _
    rw [ih fun q hq => h q (List.mem_cons_of_mem _ hq), wipe_set (h _ List.mem_cons_self)]
theorem BdRep.keys {ws : List (Nat × V)} {bd : Bd} (b : BdRep K Y F H ws bd) : ws.map (·.1) = bd.map (·.1) := by
  induction b with
  | nil => rfl
  | cons _ _ ih => simp [ih]
end

/-! ### iterators of an expression -/
structure IE (X : Cx) (Y : Cl) (W : Wh) (tg iter : Expr) (g : TG) {α : Type} (L : En → Res (List α)) (bnd : α → Bd) : Prop where
  ex : ∃ wi, PI X tg iter wi ∧ ∀ (σ : St) (H : Hp) (R : It → Hp → Prop), (∃ en, EnOk X.K Y H σ en ∧ WPr X.K Y W σ H (L en) fun l => ∀ (J : It) (H1 : Hp), Same H H1 → ItOk X.K Y J g l bnd H1 → R J H1) → wi σ H R
def b1 (i : Nat) (d : D) : Bd := [(i, d)]
def b2 (i j : Nat) (p : D × D) : Bd := [(i, p.1), (j, p.2)]
def g2 (K : PySem.W.Frag) (i j : Nat) : TG := gTup K 2 (gCons (gName i) (gCons (gName j) gNil))
def itD : D → Res (List D)
  | .lst ds => .ok ds
  | .scr ns => .ok (ns.map .int)
  | _ => .stuck
def itP : List D → Res (List (D × D))
  | [] => .ok []
  | .tup [x, y] :: r => itP r >>= fun l => .ok ((x, y) :: l)
  | _ :: _ => .stuck
def iL (f : En → Res D) : En → Res (List D) := fun en => f en >>= itD
def iP (f : En → Res D) : En → Res (List (D × D)) := fun en => f en >>= fun d => itD d >>= itP
def iR1 (f : En → Res D) : En → Res (List D) := fun en => f en >>= fun d => match d with
  | .int n => if rgOk n = true then .ok (intsUpTo 0 n.toNat) else .stuck
  | _ => .stuck
def iR2 (f g : En → Res D) : En → Res (List D) := fun en => f en >>= fun d => g en >>= fun e => match d, e with
  | .int lo, .int hi => if (rgOk lo && rgOk hi) = true then .ok (intsUpTo lo (hi - lo).toNat) else .stuck
  | _, _ => .stuck
def iZ (f g : En → Res D) : En → Res (List (D × D)) := fun en => f en >>= fun d => g en >>= fun e => itD d >>= fun xs => itD e >>= fun ys => .ok (xs.zip ys)
def enumP (k : Nat) : List D → List (D × D)
  | [] => []
  | d :: ds => (.int (k : Nat), d) :: enumP (k + 1) ds
def iEn (f : En → Res D) : En → Res (List (D × D)) := fun en => f en >>= fun d => itD d >>= fun xs => .ok (enumP 0 xs)
def iRv (f : En → Res D) : En → Res (List D) := fun en => f en >>= fun d => itD d >>= fun xs => .ok xs.reverse
theorem enumP_len : ∀ (k : Nat) (ds : List D), (enumP k ds).length = ds.length
  | _, [] => rfl
  | k, d :: ds => by simp [enumP, enumP_len (k + 1) ds]
theorem enumP_get : ∀ (ds : List D) (k i : Nat), (enumP k ds)[i]? = (ds[i]?).map fun d => (D.int ((k + i : Nat) : Int), d)
  | [], k, i => by simp [enumP]
  | d :: ds, k, 0 => by simp [enumP]
  | d :: ds, k, i + 1 => by
    simp only [enumP, List.getElem?_cons_succ]
    rw [enumP_get ds (k + 1) i]
    simp [Nat.add_comm, Nat.add_left_comm, Nat.add_assoc]
section
variable {K : PySem.W.Frag} {Y : Cl} {F H H' : Hp} {i j : Nat}
/-- a list's items lie behind its place -/
theorem itD_rep {K : PySem.W.Frag} {Y : Cl} {H : Hp} {v : V} {d : D} {l : List D} (r : Rep K Y H v d) (e : itD d = .ok l) : ∃ p vs, v = .ref p ∧ SqL K H p vs ∧ Reps K Y H vs l := by
  cases r with
  | lst h r => cases e; exact ⟨_, _, rfl, SqL.of h, r⟩
  | scr h => cases e; exact ⟨_, _, rfl, h, .of_ints _⟩
  | _ => cases e
theorem itok_l {p : Addr} {vs : List V} {l : List D} (hs : SqL K F p vs) (r : Reps K Y F vs l) : ItOk K Y (Itl K p) (gName i) l (b1 i) F where
  go k H' s hk := by
    have hd : l[k]? = some l[k] := List.getElem?_eq_getElem hk
    obtain ⟨v, hv, rv⟩ := r.get hd
    exact ⟨vs, v, s.seq hs, hv⟩
  stop H' s := ⟨vs, s.seq hs, by rw [r.length]; exact Nat.le_refl _⟩
  step k a H' x H'' σ hk s hy := by
    obtain ⟨v, hv, rv⟩ := r.get hk
    obtain ⟨rfl, hx⟩ := hy
    have := hx vs (s.seq hs)
    rw [hv] at this
    cases this
    exact ⟨Same.refl _, fun Q q => q [(i, _)] (.cons (.inl rv) .nil)⟩
theorem itP_get : ∀ {ds : List D} {l : List (D × D)}, itP ds = Res.ok l → l.length = ds.length ∧ ∀ (k : Nat) (p : D × D), l[k]? = some p → ds[k]? = some (D.tup [p.1, p.2])
  | [], l, e => by cases e; exact ⟨rfl, fun k p h => by simp at h⟩
  | d :: ds, l, e => by
    unfold itP at e
    split at e
    · rename_i h0
      cases h0
    · rename_i h0
      cases h0
      rename_i x y
      cases q : itP ds with
      | stuck => rw [q] at e; cases e
      | exc z => rw [q] at e; cases e
      | ok l' =>
        rw [q] at e
        cases e
        obtain ⟨a, b⟩ := itP_get q
        refine ⟨by simp [a], fun k p h => ?_⟩
        cases k with
        | zero => cases h; rfl
        | succ k => exact b k p h
    · cases e
theorem itok_p {p : Addr} {vs : List V} {ds : List D} {l : List (D × D)} (hs : SqL K F p vs) (r : Reps K Y F vs ds) (e : itP ds = .ok l) : ItOk K Y (Itl K p) (g2 K i j) l (b2 i j) F where
  go k H' s hk := by
    obtain ⟨el, _⟩ := itP_get e
    have hd : ds[k]? = some ds[k] := List.getElem?_eq_getElem (by omega)
    obtain ⟨v, hv, rv⟩ := r.get hd
    exact ⟨vs, v, s.seq hs, hv⟩
  stop H' s := ⟨vs, s.seq hs, by have := (itP_get e).1; have := r.length; omega⟩
  step k a H' x H'' σ hk s hy := by
    obtain ⟨v, hv, rv⟩ := r.get ((itP_get e).2 k a hk)
    obtain ⟨rfl, hx⟩ := hy
    have := hx vs (s.seq hs)
    rw [hv] at this
    cases this
    cases rv with
    | tup ht rs =>
      cases rs with
      | cons r1 rs =>
        cases rs with
        | cons r2 rs =>
          cases rs
          rename_i u1 u2
          exact ⟨Same.refl _, fun Q q => ⟨_, _, rfl, Same.sqT s ht, rfl, _, _, rfl, _, _, rfl, rfl, q [(i, u1), (j, u2)] (.cons (.inl r1) (.cons (.inl r2) .nil))⟩⟩
theorem itok_r {lo : Int} {n : Nat} : ItOk K Y (Itr lo n) (gName i) (intsUpTo lo n) (b1 i) F where
  go k H' s hk := by show k < n; simpa [intsUpTo] using hk
  stop H' s := by show n ≤ _; simp [intsUpTo]
  step k a H' x H'' σ hk s hy := by
    obtain ⟨rfl, rfl⟩ := hy
    have hkn : k < n := by
      have := (List.getElem?_eq_some_iff.mp hk).1
      simpa [intsUpTo] using this
    unfold intsUpTo at hk
    rw [List.getElem?_map, List.getElem?_range hkn] at hk
    cases hk
    exact ⟨Same.refl _, fun Q q => q [(i, .int (lo + (k : Nat)))] (.cons (.inl .int) .nil)⟩
theorem itok_z {p q : Addr} {vs us : List V} {xs ys : List D} (hs : SqL K F p vs) (r : Reps K Y F vs xs) (hs2 : SqL K F q us) (r2 : Reps K Y F us ys) : ItOk K Y (Itz K p q) (g2 K i j) (xs.zip ys) (b2 i j) F where
  go k H' s hk := by
    rw [List.length_zip] at hk
    obtain ⟨v, hv, _⟩ := r.get (List.getElem?_eq_getElem (i := k) (by omega))
    obtain ⟨u, hu, _⟩ := r2.get (List.getElem?_eq_getElem (i := k) (by omega))
    exact ⟨vs, us, v, u, s.seq hs, s.seq hs2, hv, hu⟩
  stop H' s := ⟨vs, us, s.seq hs, s.seq hs2, by rw [List.length_zip, r.length, r2.length]; omega⟩
  step k a H' x H'' σ hk s hy := by
    have hk' := List.getElem?_zip_eq_some.mp hk
    obtain ⟨v, hv, rv⟩ := r.get hk'.1
    obtain ⟨u, hu, ru⟩ := r2.get hk'.2
    obtain ⟨Tp, x1, y1, rfl, hT, rfl, h1, h2⟩ := hy
    have e1 := h1 vs (s.seq hs)
    have e2 := h2 us (s.seq hs2)
    rw [hv] at e1
    rw [hu] at e2
    cases e1
    cases e2
    exact ⟨same_new hT, fun Q q => ⟨_, _, rfl, SqT.of upd_same, rfl, _, _, rfl, _, _, rfl, rfl, q [(i, v), (j, u)] (.cons (.inl rv) (.cons (.inl ru) .nil))⟩⟩
theorem itok_e {p : Addr} {vs : List V} {xs : List D} (hs : SqL K F p vs) (r : Reps K Y F vs xs) : ItOk K Y (Ite K p) (g2 K i j) (enumP 0 xs) (b2 i j) F where
  go k H' s hk := by
    rw [enumP_len] at hk
    obtain ⟨v, hv, _⟩ := r.get (List.getElem?_eq_getElem hk)
    exact ⟨vs, v, s.seq hs, hv⟩
  stop H' s := ⟨vs, s.seq hs, by rw [enumP_len, r.length]; exact Nat.le_refl _⟩
  step k a H' x H'' σ hk s hy := by
    rw [enumP_get] at hk
    obtain ⟨d, hd, rfl⟩ := Option.map_eq_some_iff.mp hk
    obtain ⟨v, hv, rv⟩ := r.get hd
    obtain ⟨Tp, u, rfl, hT, rfl, hu⟩ := hy
    have eu := hu vs (s.seq hs)
    rw [hv] at eu
    cases eu
    refine ⟨same_new hT, fun Q q => ⟨_, _, rfl, SqT.of upd_same, rfl, _, _, rfl, _, _, rfl, rfl, q [(i, .int (k : Nat)), (j, v)] (.cons (.inl ?_) (.cons (.inl rv) .nil))⟩⟩
    rw [Nat.zero_add]
    exact .int
theorem itok_v {p : Addr} {vs : List V} {xs : List D} (hs : SqL K F p vs) (r : Reps K Y F vs xs) : ItOk K Y (Itv K p vs.length) (gName i) xs.reverse (b1 i) F where
  go k H' s hk := by
    rw [List.length_reverse] at hk
    have hl := r.length
    obtain ⟨v, hv, _⟩ := r.get (List.getElem?_eq_getElem (i := vs.length - 1 - k) (by omega))
    exact ⟨by omega, vs, v, s.seq hs, hv⟩
  stop H' s := by show vs.length ≤ _; rw [List.length_reverse, r.length]; exact Nat.le_refl _
  step k a H' x H'' σ hk s hy := by
    obtain ⟨rfl, hx⟩ := hy
    have hl := r.length
    have hkl := (List.getElem?_eq_some_iff.mp hk).1
    rw [List.length_reverse] at hkl
    rw [List.getElem?_reverse hkl] at hk
    obtain ⟨v, hv, rv⟩ := r.get hk
    have := hx vs (s.seq hs)
    rw [hl, hv] at this
    cases this
    exact ⟨Same.refl _, fun Q q => q [(i, _)] (.cons (.inl rv) .nil)⟩
end
section
variable {X : Cx} {Y : Cl} {W : Wh} {tg e e2 : Expr} {f f2 : En → Res D} {i j : Nat} {p pos tpos : Pos} {elts : List Expr} {kk : Nat}
theorem ie_l (he : J X Y W .r e f) : IE X Y W tg e (gName i) (iL f) (b1 i) := ⟨_, pi_list he, fun σ H R ⟨en, hE, h⟩ => ⟨en, hE, (WPr.bind h).imp (Same.refl H) fun d q v H1 sh r => by
  cases z : itD d with
  | stuck => rw [z] at q; exact q.elim
  | exc x => cases d <;> cases z
  | ok l =>
    rw [z] at q
    obtain ⟨a, vs, rfl, hs, rs⟩ := itD_rep r z
    exact ⟨a, rfl, ⟨vs, hs⟩, q _ H1 sh (itok_l hs rs)⟩⟩⟩
theorem ie_p (he : J X Y W .r e f) : IE X Y W tg e (g2 X.K i j) (iP f) (b2 i j) := ⟨_, pi_list he, fun σ H R ⟨en, hE, h⟩ => ⟨en, hE, (WPr.bind h).imp (Same.refl H) fun d q v H1 sh r => by
  cases z : itD d with
  | stuck => rw [z] at q; exact q.elim
  | exc x => cases d <;> cases z
  | ok l =>
    rw [z] at q
    obtain ⟨a, vs, rfl, hs, rs⟩ := itD_rep r z
    have q' : WPr X.K Y W σ H (itP l) fun l => ∀ (J : It) (H1 : Hp), Same H H1 → ItOk X.K Y J (g2 X.K i j) l (b2 i j) H1 → R J H1 := q
    cases z2 : itP l with
    | stuck => rw [z2] at q'; exact q'.elim
    | exc x =>
      exfalso
      have : ∀ ds x, itP ds ≠ .exc x := by
        intro ds
        induction ds with
        | nil => exact fun x h => nomatch h
        | cons a r ih =>
          intro x h
          unfold itP at h
          split at h
          · cases h
          · rename_i h0; cases h0
            rename_i x1 y1
            cases q3 : itP r with
            | stuck => rw [q3] at h; cases h
            | exc y => exact ih y q3
            | ok y => rw [q3] at h; cases h
          · cases h
      exact this l x z2
    | ok l2 =>
      rw [z2] at q'
      exact ⟨a, rfl, ⟨vs, hs⟩, q' _ H1 sh (itok_p hs rs z2)⟩⟩⟩
theorem ie_r1 (hm : X.mg "range" = none) (he : J X Y W .r e f) (hg : Gl X "range" := by rfl) (hs : starEach [e] X.env = [(false, eval e X.env)] := by rfl) (hs1 : starEach (e :: []) X.env = (false, eval e X.env) :: starEach [] X.env := by rfl) :
    IE X Y W tg (.Call (.Name "range" p) [e] [] pos) (gName i) (iR1 f) (b1 i) := ⟨_, pi_range1 hg hm (pa_cons he pa_nil hs1) hs, fun σ H R ⟨en, hE, h⟩ => ⟨en, hE, (WPr.bind h).imp (Same.refl H) fun d q v H1 sh r => by
  cases r with
  | @int n =>
    have q' : WPr X.K Y W σ H (if rgOk n = true then Res.ok (intsUpTo 0 n.toNat) else .stuck) fun l => ∀ (J : It) (H1 : Hp), Same H H1 → ItOk X.K Y J (gName i) l (b1 i) H1 → R J H1 := q
    by_cases hr : rgOk n = true
    · rw [if_pos hr] at q'
      obtain ⟨z1, z2⟩ := rgOk_iff hr
      exact ⟨n, rfl, z1, z2, q' _ H1 sh itok_r⟩
    · rw [if_neg hr] at q'
      exact q'.elim
  | _ => exact q.elim⟩⟩
theorem ie_r2 (hm : X.mg "range" = none) (he : J X Y W .r e f) (he2 : J X Y W .r e2 f2) (hg : Gl X "range" := by rfl) (hs : starEach [e, e2] X.env = [(false, eval e X.env), (false, eval e2 X.env)] := by rfl) (hs2 : starEach [e2] X.env = [(false, eval e2 X.env)] := by rfl)
    (hs1 : starEach (e :: [e2]) X.env = (false, eval e X.env) :: starEach [e2] X.env := by rfl) (hs3 : starEach (e2 :: []) X.env = (false, eval e2 X.env) :: starEach [] X.env := by rfl) :
    IE X Y W tg (.Call (.Name "range" p) [e, e2] [] pos) (gName i) (iR2 f f2) (b1 i) := ⟨_, pi_range2 hg hm (pa_cons he (pa_cons he2 pa_nil hs3) hs1) hs hs2, fun σ H R ⟨en, hE, h⟩ => ⟨en, hE, (WPr.bind h).imp (Same.refl H) fun d q v H1 sh r => by
  refine ⟨en, hE.mono sh, (WPr.bind q).imp sh fun d2 q2 v2 H2 sh2 r2 => ?_⟩
  cases r with
  | @int lo =>
    cases r2 with
    | @int hi =>
      have q' : WPr X.K Y W σ H (if (rgOk lo && rgOk hi) = true then Res.ok (intsUpTo lo (hi - lo).toNat) else .stuck) fun l => ∀ (J : It) (H1 : Hp), Same H H1 → ItOk X.K Y J (gName i) l (b1 i) H1 → R J H1 := q2
      by_cases hr : (rgOk lo && rgOk hi) = true
      · rw [if_pos hr] at q'
        have hr' := Bool.and_eq_true_iff.mp hr
        obtain ⟨z1, z2⟩ := rgOk_iff hr'.1
        obtain ⟨z3, z4⟩ := rgOk_iff hr'.2
        exact ⟨lo, hi, rfl, ⟨z1, z2, z3, z4⟩, q' _ H2 (sh.trans sh2) itok_r⟩
      · rw [if_neg hr] at q'
        exact q'.elim
    | _ => exact q2.elim
  | _ => cases d2 <;> exact q2.elim⟩⟩
theorem ie_z (hm : X.mg "zip" = none) (he : J X Y W .r e f) (he2 : J X Y W .r e2 f2) (hg : Gl X "zip" := by rfl) (hs : starEach [e, e2] X.env = (false, eval e X.env) :: starEach [e2] X.env := by rfl) (hpl : (backTo pos (starEach [e2] X.env)).any (·.1) = false := by rfl)
    (hs3 : starEach (e2 :: []) X.env = (false, eval e2 X.env) :: starEach [] X.env := by rfl) :
    IE X Y W (.Tuple elts kk tpos) (.Call (.Name "zip" p) [e, e2] [] pos) (g2 X.K i j) (iZ f f2) (b2 i j) := ⟨_, pi_zip hg hm (pa_cons he (pa_cons he2 pa_nil hs3) hs) hs hpl, fun σ H R ⟨en, hE, h⟩ => ⟨en, hE, (WPr.bind h).imp (Same.refl H) fun d q v H1 sh r => by
  refine ⟨en, hE.mono sh, (WPr.bind q).imp sh fun d2 q2 v2 H2 sh2 r2 => ?_⟩
  cases z : itD d with
  | stuck => rw [z] at q2; exact q2.elim
  | exc x => cases d <;> cases z
  | ok l =>
    rw [z] at q2
    have q2 : WPr X.K Y W σ H (itD d2 >>= fun ys => .ok (l.zip ys)) fun l => ∀ (J : It) (H1 : Hp), Same H H1 → ItOk X.K Y J (g2 X.K i j) l (b2 i j) H1 → R J H1 := q2
    cases z2 : itD d2 with
    | stuck => rw [z2] at q2; exact q2.elim
    | exc x => cases d2 <;> cases z2
    | ok l2 =>
      rw [z2] at q2
      obtain ⟨a, vs, rfl, hs, rs⟩ := itD_rep (r.mono sh2) z
      obtain ⟨b, us, rfl, hs2, rs2⟩ := itD_rep r2 z2
      exact ⟨a, b, vs, us, rfl, hs, hs2, q2 _ H2 (sh.trans sh2) (itok_z hs rs hs2 rs2)⟩⟩⟩
theorem ie_e (hm : X.mg "enumerate" = none) (he : J X Y W .r e f) (hg : Gl X "enumerate" := by rfl) (hs : starEach [e] X.env = [(false, eval e X.env)] := by rfl) (hs1 : starEach (e :: []) X.env = (false, eval e X.env) :: starEach [] X.env := by rfl) :
    IE X Y W (.Tuple elts kk tpos) (.Call (.Name "enumerate" p) [e] [] pos) (g2 X.K i j) (iEn f) (b2 i j) := ⟨_, pi_enum hg hm (pa_cons he pa_nil hs1) hs, fun σ H R ⟨en, hE, h⟩ => ⟨en, hE, (WPr.bind h).imp (Same.refl H) fun d q v H1 sh r => by
  cases z : itD d with
  | stuck => rw [z] at q; exact q.elim
  | exc x => cases d <;> cases z
  | ok l =>
    rw [z] at q
    obtain ⟨a, vs, rfl, hs, rs⟩ := itD_rep r z
    exact ⟨a, vs, rfl, hs, q _ H1 sh (itok_e hs rs)⟩⟩⟩
theorem ie_v (hm : X.mg "reversed" = none) (he : J X Y W .r e f) (hg : Gl X "reversed" := by rfl) (hs : starEach [e] X.env = [(false, eval e X.env)] := by rfl) (hs1 : starEach (e :: []) X.env = (false, eval e X.env) :: starEach [] X.env := by rfl) :
    IE X Y W tg (.Call (.Name "reversed" p) [e] [] pos) (gName i) (iRv f) (b1 i) := ⟨_, pi_reversed hg hm (pa_cons he pa_nil hs1) hs, fun σ H R ⟨en, hE, h⟩ => ⟨en, hE, (WPr.bind h).imp (Same.refl H) fun d q v H1 sh r => by
  cases z : itD d with
  | stuck => rw [z] at q; exact q.elim
  | exc x => cases d <;> cases z
  | ok l =>
    rw [z] at q
    obtain ⟨a, vs, rfl, hs, rs⟩ := itD_rep r z
    exact ⟨a, vs, rfl, hs, q _ H1 sh (itok_v hs rs)⟩⟩⟩
end
end Ow
end
section
set_option linter.all false
set_option maxRecDepth 100000
set_option maxHeartbeats 2000000
/-! Ow12: list comprehensions; for loops over anything that iterates. -/
namespace Ow
open PySem L2 PySem.Spec

def lcR {α : Type} (bnd : α → Bd) (c : En → Res Bool) (f : En → Res D) (en : En) : List α → Res (List D)
  | [] => .ok []
  | a :: l => c (setE en (bnd a)) >>= fun b => if b = true then f (setE en (bnd a)) >>= fun d => lcR bnd c f en l >>= fun ds => .ok (d :: ds) else lcR bnd c f en l
/-- [f for a in L if c] -/
def xLc {α : Type} (L : En → Res (List α)) (bnd : α → Bd) (vs : List Nat) (c : En → Res Bool) (f : En → Res D) : En → Res D := fun en => L en >>= fun l => if szOk l.length = true then noX (lcR bnd c f (wipeE en vs) l) >>= fun ds => .ok (.lst ds) else .stuck
def tYs : En → Res Bool := fun _ => .ok true
def CTs (X : Cx) (Y : Cl) (ifs : List Expr) (c : En → Res Bool) : Prop := PTs X ifs (tT X.K Y none c)
section
variable {X : Cx} {Y : Cl} {c : Expr} {gc : En → Res Bool}
theorem PTs.imp {ifs : List Expr} {t t' : TT} (h : PTs X ifs t) (f : ∀ σ H Q, t' σ H Q → t σ H Q) : PTs X ifs t' := ⟨fun pins s σ H Q I q => h.run pins s σ H Q I (f σ H Q q)⟩
theorem ct_nil : CTs X Y [] tYs := PTs.imp pts_nil fun σ H Q ⟨en, he, h⟩ => h H (Same.refl H)
theorem ct_one (h : T X Y none c gc) : CTs X Y [c] gc := pts_one h
end
theorem fix_upd {H : Hp} {D : Addr} {o o' : HO} (h : H D = some o') (hx : fixO o' = false) : Fix H (upd H D o) := fun p u e f => by
  have : p ≠ D := fun z => by
    subst z
    rw [h] at e
    cases e
    rw [hx] at f
    cases f
  rw [upd_ne this]
  exact e
theorem lc_cons_inv {α : Type} {bnd : α → Bd} {c : En → Res Bool} {f : En → Res D} {en : En} {a : α} {l : List α} {ds : List D} (h : lcR bnd c f en (a :: l) = .ok ds) :
    (c (setE en (bnd a)) = .ok false ∧ lcR bnd c f en l = .ok ds) ∨ (c (setE en (bnd a)) = .ok true ∧ ∃ d ds', f (setE en (bnd a)) = .ok d ∧ lcR bnd c f en l = .ok ds' ∧ ds = d :: ds') := by
  unfold lcR at h
  cases q : c (setE en (bnd a)) with
  | stuck => rw [q] at h; cases h
  | exc e => rw [q] at h; cases h
  | ok b =>
    rw [q, ok_bind] at h
    cases b with
    | false =>
      rw [if_neg Bool.false_ne_true] at h
      exact .inl ⟨rfl, h⟩
    | true =>
      rw [if_pos rfl] at h
      cases q2 : f (setE en (bnd a)) with
      | stuck => rw [q2] at h; cases h
      | exc e => rw [q2] at h; cases h
      | ok d =>
        rw [q2, ok_bind] at h
        cases q3 : lcR bnd c f en l with
        | stuck => rw [q3] at h; cases h
        | exc e => rw [q3] at h; cases h
        | ok ds' =>
          rw [q3, ok_bind] at h
          cases h
          exact .inr ⟨rfl, d, ds', rfl, rfl, rfl⟩
section
variable {X : Cx} {Y : Cl} {W : Wh} {α : Type} {elt tg iter : Expr} {ifs : List Expr} {scope : Scope} {pos : Pos} {g : TG} {L : En → Res (List α)} {bnd : α → Bd} {gc : En → Res Bool} {f : En → Res D}
theorem tlc_of {wi : TI} {vs : List Nat} {σ : St} {H : Hp} {Q : VK} (hw : ∀ (σ : St) (H : Hp) (R : It → Hp → Prop), (∃ en, EnOk X.K Y H σ en ∧ WPr X.K Y W σ H (L en) fun l => ∀ (J : It) (H1 : Hp), Same H H1 → ItOk X.K Y J g l bnd H1 → R J H1) → wi σ H R)
    (hb : ∀ a, ∀ p ∈ bnd a, p.1 ∈ vs) (h : tJ X.K Y W .n (xLc L bnd vs gc f) σ H Q) : tLc wi g (tT X.K Y none gc) (tJ X.K Y none .n f) vs σ H Q := by
  obtain ⟨en, hE, h⟩ := h
  refine hw σ H _ ⟨en, hE, (WPr.bind h).imp (Same.refl H) fun l q J H1 sh ok D hD => ?_⟩
  by_cases hz : szOk l.length = true
  · rw [if_pos hz] at q
    cases q0 : lcR bnd gc f (wipeE en vs) l with
    | stuck => rw [q0] at q; exact q.elim
    | exc x => rw [q0] at q; exact q.elim
    | ok ds =>
      rw [q0] at q
      have q : Po X.K Y .n (.lst ds) H Q := q
      have hE1 := (hE.mono sh).wipe vs
      refine ⟨fun i m H' => m = l.length - i ∧ i ≤ l.length ∧ Same H1 H' ∧ ∃ acc done fp rest, H' D = some (.lst acc) ∧ Owns X.K Y H' acc done fp ∧ fp.Nodup ∧ D ∉ fp ∧ (∀ p ∈ fp, H1 p = none) ∧ acc.length ≤ i ∧ lcR bnd gc f (wipeE en vs) (l.drop i) = .ok rest ∧ done ++ rest = ds,
        ⟨_, rfl, Nat.zero_le _, same_new hD, [], [], [], ds, upd_same, .nil, .nil, List.not_mem_nil, (fun _ z => absurd z List.not_mem_nil), Nat.le_refl _, q0, rfl⟩, ?_⟩
      rintro i m H' ⟨rfl, hi, s1, acc, done, fp, rest, hacc, ow, nd, hDf, fr, al, hr, ed⟩
      by_cases hlt : i < l.length
      · have hd : l[i]? = some l[i] := List.getElem?_eq_getElem hlt
        have edr : l.drop i = l[i] :: l.drop (i + 1) := List.drop_eq_getElem_cons hlt
        rw [edr] at hr
        refine .inr ⟨ok.go i H' s1 hlt, _, fun H'' z => ⟨l.length - (i + 1), by omega, z⟩, fun x H'' hy => ?_⟩
        obtain ⟨s2, hg⟩ := ok.step i l[i] H' x H'' (wipe σ vs) hd s1 hy
        refine hg _ fun ws bd => ?_
        have hk : ∀ p ∈ ws, p.1 ∈ vs := fun p hp => by
          have hm : p.1 ∈ ws.map (·.1) := List.mem_map_of_mem hp
          rw [bd.keys] at hm
          obtain ⟨r, hr1, hr2⟩ := List.mem_map.mp hm
          rw [← hr2]
          exact hb _ r hr1
        have s12 := s1.trans s2
        have hE2 : EnOk X.K Y H'' (setV (wipe σ vs) ws) (setE (wipeE en vs) (bnd l[i])) := (hE1.mono s12).setE bd s12
        refine ⟨by rw [wipe_setV hk]; exact wipe_twice σ vs vs (fun _ h => h), _, hE2, ?_⟩
        rcases lc_cons_inv hr with ⟨hc, hr'⟩ | ⟨hc, d, ds', hf, hr', rfl⟩
        · rw [hc]
          intro H3 s3
          rw [if_neg Bool.false_ne_true]
          have s13 := s12.trans s3
          have s03 := s2.trans s3
          refine ⟨rfl, hlt, s13, acc, done, fp, rest, s03 _ _ hacc, ow.mono s03, nd, hDf, fr, by omega, hr', ed⟩
        · rw [hc]
          intro H3 s3
          rw [if_pos rfl]
          refine ⟨_, hE2.mono s3, ?_⟩
          rw [hf]
          intro y H4 fp' s4 o nd' fr'
          have s34 := (s2.trans s3).trans s4
          have s14 := s1.trans s34
          have hD4 : H4 D = some (.lst acc) := s34 _ _ hacc
          have hDf' : D ∉ fp' := fun z => by
            have := fr' D z
            rw [(s2.trans s3) _ _ hacc] at this
            cases this
          refine ⟨acc, hD4, szOk_lt (by unfold szOk at hz ⊢; simp at hz ⊢; omega), rfl, hlt, ?_, acc ++ [y], done ++ [d], fp ++ fp', ds', upd_same, ?_, ?_, ?_, ?_, by simp; omega, hr', by simpa using ed⟩
          · intro p u e
            have : p ≠ D := fun z => by
              subst z
              rw [hD] at e
              cases e
            rw [upd_ne this]
            exact s14 p u e
          · have fx : Fix H4 (upd H4 D (.lst (acc ++ [y]))) := fix_upd hD4 rfl
            refine Owns.append ((ow.mono s34).frame fx fun p hp => ?_) (Owns.one (o.frame fx fun p hp => ?_))
            · exact upd_ne fun z => hDf (z ▸ hp)
            · exact upd_ne fun z => hDf' (z ▸ hp)
          · refine List.nodup_append.mpr ⟨nd, nd', fun a ha b hb e => ?_⟩
            subst e
            obtain ⟨u, hu, _⟩ := ow.there a ha
            have := fr' a hb
            rw [(s2.trans s3) _ _ hu] at this
            cases this
          · exact fun z => (List.mem_append.mp z).elim hDf hDf'
          · intro p hp
            rcases List.mem_append.mp hp with hp | hp
            · exact fr p hp
            · exact (s12.trans s3).free (fr' p hp)
      · have : i = l.length := by omega
        subst this
        rw [List.drop_length] at hr
        cases hr
        rw [List.append_nil] at ed
        subst ed
        refine .inl ⟨ok.stop H' s1, q (.ref D) H' (D :: fp) (sh.trans s1) (.lst hacc ow) (List.nodup_cons.mpr ⟨hDf, nd⟩) fun p hp => ?_⟩
        rcases List.mem_cons.mp hp with rfl | hp
        · exact sh.free hD
        · exact sh.free (fr p hp)
  · rw [if_neg hz] at q
    exact q.elim
/-- a list comprehension -/
theorem jn_lc (own : List (Str × Nat)) (hc : X.calm = true) (hN : X.N.Nodup) (hi : IE X Y W tg iter g L bnd)
    (hg : ∀ (s : Shared) (H : Hp) (C : Addr) (cl : List (Str × Addr)) (fp : List Addr), PG (X.blk s H scope (compEnvC scope cl C X.env) fp) tg g)
    (ht : ∀ (s : Shared) (H : Hp) (C : Addr) (cl : List (Str × Addr)) (fp : List Addr), CTs (X.blk s H scope (compEnvC scope cl C X.env) fp) Y ifs gc)
    (he : ∀ (s : Shared) (H : Hp) (C : Addr) (cl : List (Str × Addr)) (fp : List Addr), J (X.blk s H scope (compEnvC scope cl C X.env) fp) Y none .n elt f)
    (hb : ∀ a, ∀ p ∈ bnd a, p.1 ∈ own.map (·.2)) (ok : blkC X.N X.env.scope scope own = true := by with_unfolding_all rfl) (hs : ∀ x, foldedSetIterable iter X.env x = pure x := by intro _; rfl) :
    J X Y W .n (.ListComp elt [⟨tg, iter, ifs, 0⟩] scope pos) (xLc L bnd (own.map (·.2)) gc f) := by
  obtain ⟨wi, hpi, hw⟩ := hi.ex
  exact PE.imp (pe_lc (tt := tT X.K Y none gc) (te := tJ X.K Y none .n f) hc hN hpi (blkOk_by ok) hg ht he hs) fun σ H Q h => tlc_of hw hb h
/-- name = a list comprehension -/
theorem s_setLc (own : List (Str × Nat)) (i : Nat) {M : Md} {y : Str} {py spos : Pos} (hc : X.calm = true) (hN : X.N.Nodup) (hi : IE X Y W tg iter g L bnd)
    (hg : ∀ (s : Shared) (H : Hp) (C : Addr) (cl : List (Str × Addr)) (fp : List Addr), PG (X.blk s H scope (compEnvC scope cl C X.env) fp) tg g)
    (ht : ∀ (s : Shared) (H : Hp) (C : Addr) (cl : List (Str × Addr)) (fp : List Addr), CTs (X.blk s H scope (compEnvC scope cl C X.env) fp) Y ifs gc)
    (he : ∀ (s : Shared) (H : Hp) (C : Addr) (cl : List (Str × Addr)) (fp : List Addr), J (X.blk s H scope (compEnvC scope cl C X.env) fp) Y none .n elt f)
    (hb : ∀ a, ∀ p ∈ bnd a, p.1 ∈ own.map (·.2)) (ok : blkC X.N X.env.scope scope own = true := by with_unfolding_all rfl) (hs : ∀ x, foldedSetIterable iter X.env x = pure x := by intro _; rfl)
    (hy : X.N[i]? = some y := by rfl) (hyl : X.env.scope.names.lookup y = some .local := by rfl) (hM : M i = true := by rfl)
    (hsw : swapsWith (.ListComp elt [⟨tg, iter, ifs, 0⟩] scope pos) (some (.Name y py)) spos.line X.env = pure true := by rfl) :
    JS X Y W M (.Assign [.Name y py] (.ListComp elt [⟨tg, iter, ifs, 0⟩] scope pos) spos) (sSet i (xLc L bnd (own.map (·.2)) gc f)) := by
  obtain ⟨wi, hpi, hw⟩ := hi.ex
  refine PS.imp (ps_setLc (tt := tT X.K Y none gc) (te := tJ X.K Y none .n f) hc hN hy hyl hsw hpi (blkOk_by ok) hg ht he hs) fun D σ H ⟨F, S, s, h⟩ => ?_
  exact tlc_of hw hb ⟨en S, s.en, (WPs.bind h s.same).imp (Same.refl H) fun d p => s.put (H' := H) hM p⟩
theorem hb_1 {i : Nat} {vs : List Nat} (h : i ∈ vs) : ∀ a, ∀ p ∈ b1 i a, p.1 ∈ vs := fun a p hp => by
  cases List.mem_singleton.mp hp
  exact h
theorem hb_2 {i j : Nat} {vs : List Nat} (h : i ∈ vs) (h2 : j ∈ vs) : ∀ a, ∀ p ∈ b2 i j a, p.1 ∈ vs := fun a p hp => by
  rcases List.mem_cons.mp hp with rfl | hp
  · exact h
  · cases List.mem_singleton.mp hp
    exact h2
end
end Ow
end
section
set_option linter.all false
set_option maxRecDepth 100000
set_option maxHeartbeats 2000000
/-! Ow13: slots frozen; for loops over any source. -/
namespace Ow
open PySem L2 PySem.Spec
def Slot.frz (S : List Slot) (v : Nat) : Slot → Slot
  | .ali s j => if s = v then (match Slot.dat S (.ali s j) with
    | some d => .fz d
    | none => .un) else .ali s j
  | x => x
def frz (v : Nat) (S : List Slot) : List Slot := match S[v]? with
  | some (.own d) => (S.map (Slot.frz S v)).set v (.fz d)
  | _ => S
def frzV (v : Nat) (S : List Slot) : List Slot := match S[v]? with
  | some (.own _) => frz v S
  | some (.ali s _) => frz s S
  | _ => S
def Slot.frzA (S : List Slot) : Slot → Slot
  | .own d => .fz d
  | .ali s j => (match Slot.dat S (.ali s j) with
    | some d => .fz d
    | none => .un)
  | x => x
def frzAll (S : List Slot) : List Slot := S.map (Slot.frzA S)
section
variable {K : PySem.W.Frag} {Y : Cl} {F H H' : Hp} {S : List Slot} {σ : St}
theorem Sat.frzAll (h : Sat K Y F S σ H) : Sat K Y H (frzAll S) σ H := by
  obtain ⟨G, w, fp, s⟩ := h
  refine ⟨H, fun _ => 0, fun _ => [], Same.refl H, Same.refl H, fun _ _ e _ => e, by simp [Ow.frzAll, s.len], fun k y hy => ?_⟩
  unfold Ow.frzAll at hy
  rw [List.getElem?_map] at hy
  cases q : S[k]? with
  | none => rw [q] at hy; cases hy
  | some x =>
    rw [q] at hy
    cases hy
    cases x with
    | un => trivial
    | own d => exact s.dat q (d := d) rfl
    | fz d => exact s.dat q (d := d) rfl
    | ali t j =>
      show SlotOk K Y H _ _ _ σ H k (match Slot.dat S (.ali t j) with
        | some d => .fz d
        | none => .un)
      cases q2 : Slot.dat S (.ali t j) with
      | none => trivial
      | some d => exact s.dat q q2
theorem Sat.frz (h : Sat K Y F S σ H) (v : Nat) : ∃ F', Same F F' ∧ Same F' H ∧ Sat K Y F' (frz v S) σ H := by
  unfold Ow.frz
  cases q : S[v]? with
  | none => exact ⟨F, Same.refl F, h.same, h⟩
  | some x =>
    cases x with
    | un => exact ⟨F, Same.refl F, h.same, h⟩
    | fz d => exact ⟨F, Same.refl F, h.same, h⟩
    | ali t j => exact ⟨F, Same.refl F, h.same, h⟩
    | own d =>
      obtain ⟨G, w, fp, s⟩ := h
      obtain ⟨u, hu, o, nd, z⟩ := s.ok v _ q
      let G' : Hp := fun p => if p ∈ fp v then H p else G p
      have g1 : Same G G' := fun p e hg => by
        show (if p ∈ fp v then H p else G p) = some e
        by_cases hp : p ∈ fp v
        · rw [(z p hp).2] at hg; cases hg
        · rw [if_neg hp]; exact hg
      have g2 : Same G' H := fun p e hg => by
        have hg' : (if p ∈ fp v then H p else G p) = some e := hg
        by_cases hp : p ∈ fp v
        · rw [if_pos hp] at hg'; exact hg'
        · rw [if_neg hp] at hg'; exact s.gh p e hg'
      have fx : Fix H G' := fun p e he hf => g1 p e (s.fx p e he hf)
      have oG : Own K Y G' u d (fp v) := o.frame fx fun p hp => if_pos hp
      refine ⟨G', s.fg.trans g1, g2, G', w, fp, Same.refl G', g2, fx, by simp [s.len], fun k y hy => ?_⟩
      by_cases hk : k = v
      · subst hk
        have hl : k < S.length := (List.getElem?_eq_some_iff.mp q).1
        rw [List.getElem?_set_self (by simpa using hl)] at hy
        cases hy
        exact ⟨u, hu, oG.rep⟩
      · have hy : ((S.map (Slot.frz S v)).set v (.fz d))[k]? = some y := hy
        rw [List.getElem?_set_ne (Ne.symm hk), List.getElem?_map] at hy
        cases q2 : S[k]? with
        | none => rw [q2] at hy; cases hy
        | some x =>
          rw [q2] at hy
          cases hy
          have ok := s.ok k x q2
          have other : ∀ t y, t ≠ v → S[t]? = some (.own y) → ((S.map (Slot.frz S v)).set v (.fz d))[t]? = some (.own y) := fun t y ht e => by
            rw [List.getElem?_set_ne (Ne.symm ht), List.getElem?_map, e]
            rfl
          cases x with
          | un => trivial
          | fz e =>
            obtain ⟨u', a, b⟩ := ok
            exact ⟨u', a, b.mono g1⟩
          | own e =>
            obtain ⟨u', a, b, c, zz⟩ := ok
            refine ⟨u', a, b, c, fun p hp => ⟨(zz p hp).1, ?_⟩⟩
            show (if p ∈ fp v then H p else G p) = none
            rw [if_neg fun hm => hk (by rw [← (zz p hp).1, (z p hm).1])]
            exact (zz p hp).2
          | ali t j =>
            show SlotOk K Y G' w fp _ σ H k (if t = v then (match Slot.dat S (.ali t j) with
              | some d => .fz d
              | none => .un) else .ali t j)
            obtain ⟨ds, p, vs, u', h1, h2, h3, h4, h5, h6⟩ := ok
            by_cases ht : t = v
            · subst ht
              rw [if_pos rfl]
              have ed : Slot.dat S (.ali t j) = ds[j]? := by simp [Slot.dat, h1]
              rw [ed]
              rw [q] at h1
              cases h1
              rw [hu] at h3
              cases h3
              have hj : ds[j]? = some ds[j] := List.getElem?_eq_getElem h2
              rw [hj]
              obtain ⟨p', vs', g, e1, e2, e3, e4⟩ := oG.lst_inv (p := p)
              cases e1
              have e2' := g2 _ _ e2
              rw [h4] at e2'
              cases e2'
              obtain ⟨u2, hu2, ru2⟩ := e3.reps.get hj
              rw [h5] at hu2
              cases hu2
              exact ⟨u', h6, ru2⟩
            · rw [if_neg ht]
              exact ⟨ds, p, vs, u', other t _ ht h1, h2, h3, h4, h5, h6⟩
theorem Sat.frzV (h : Sat K Y F S σ H) (v : Nat) : ∃ F', Same F F' ∧ Same F' H ∧ Sat K Y F' (frzV v S) σ H ∧ ∀ (i : Nat) (d : D), (Ow.frzV v S)[i]? = some (Slot.fz d) → ∃ u, σ[i]? = some (some u) ∧ Rep K Y F' u d := by
  have h1 : ∃ F', Same F F' ∧ Same F' H ∧ Sat K Y F' (Ow.frzV v S) σ H := by
    unfold Ow.frzV
    split
    · exact h.frz v
    · exact h.frz _
    · exact ⟨F, Same.refl F, h.same, h⟩
  obtain ⟨F1, a, b, s⟩ := h1
  obtain ⟨G, f1, f2, s', hz⟩ := s.deep
  exact ⟨G, a.trans f1, f2, s', hz⟩
end
def setBs (S : List Slot) : Bd → List Slot
  | [] => S
  | (i, d) :: r => setBs (setS S i (.fz d)) r
def bindB {α : Type} (bnd : α → Bd) (a : α) (S : List Slot) : Res (List Slot) := .ok (setBs S (bnd a))
section
variable {K : PySem.W.Frag} {Y : Cl} {F H H' : Hp} {S : List Slot} {σ : St}
theorem Sat.setBd {ws : List (Nat × V)} {bd : Bd} (b : BdRep K Y F H ws bd) : ∀ {S : List Slot} {σ : St}, Sat K Y F S σ H → Sat K Y F (setBs S bd) (setV σ ws) H := by
  induction b with
  | nil => exact fun s => s
  | cons hr _ ih =>
    intro S σ s
    refine ih ?_
    rcases hr with hr | ⟨hp, hr⟩
    · exact s.setFz hr
    · exact s.setPure (Same.refl H) hr hp
theorem Stay.setV {M : Md} {ws : List (Nat × V)} : ∀ {σ : St}, (∀ p ∈ ws, M p.1 = true) → Stay M σ (setV σ ws) := by
  induction ws with
  | nil => exact fun _ => Stay.refl M _
  | cons p r ih =>
    intro σ h
    exact (Stay.set (h p List.mem_cons_self)).trans (ih fun q hq => h q (List.mem_cons_of_mem _ hq))
end
/-! ### sources of a loop -/
structure IS (X : Cx) (Y : Cl) (W : Wh) (tg iter : Expr) (g : TG) {α : Type} (src : List Slot → Res (List α × List Slot)) (bnd : α → Bd) : Prop where
  ex : ∃ wi, PI X tg iter wi ∧ ∀ (σ : St) (H : Hp) (R : It → Hp → Prop), (∃ F S, Sat X.K Y F S σ H ∧ WPr X.K Y W σ H (src S) fun r => ∀ (J : It) (H1 F1 : Hp), Same F F1 → Sat X.K Y F1 r.2 σ H1 → ItOk X.K Y J g r.1 bnd F1 → R J H1) → wi σ H R
def sForG {α : Type} (src : List Slot → Res (List α × List Slot)) (bnd : α → Bd) (b : List Slot → Res Fl) : List Slot → Res Fl := fun S => src S >>= fun r => forS (bindB bnd) b r.1 r.2
theorem WPs.bindG {K : PySem.W.Frag} {Y : Cl} {W : Wh} {M : Md} {F H : Hp} {Dn : Ends} {σ0 σ : St} {α : Type} {r : Res α} {g : α → Res Fl} (h : WPs K Y W M F Dn σ0 (r >>= g)) (sf : Same F H) : WPr K Y W σ H r fun d => WPs K Y W M F Dn σ0 (g d) := by
  cases r with
  | ok d => exact h
  | exc e =>
    obtain ⟨w, a, b⟩ := h
    exact ⟨w, a, fun cls d H' s' x => b cls d σ H' (sf.trans s') x⟩
  | stuck => exact h
theorem forG_run {K : PySem.W.Frag} {Y : Cl} {F H : Hp} {S : List Slot} {σ : St} {α : Type} {W : Wh} {M : Md} {D' : Ends} {J : It} {g : TG} {b : List Slot → Res Fl} {bnd : α → Bd} {L : List α} (hM : ∀ a, ∀ p ∈ bnd a, M p.1 = true)
    (ok : ItOk K Y J g L bnd F) (s : Sat K Y F S σ H) (h : WPs K Y W M F D' σ (forS (bindB bnd) b L S)) :
    ∃ W' : Nat → Nat → St → Hp → Prop, (∃ m, W' 0 m σ H) ∧ ∀ k m σ1 H1, W' k m σ1 H1 → (J.stop k H1 ∧ D'.nx σ1 H1) ∨ (J.go k H1 ∧ ∃ N : St → Hp → Prop, (∀ σ' H', N σ' H' → ∃ m', m' < m ∧ W' (k + 1) m' σ' H') ∧
      ∀ x H', J.yld k H1 x H' → g x σ1 H' fun σ2 H2 => tS K Y W M b { D' with nx := N, ct := N, bk := D'.nx } σ2 H2) := by
  refine ⟨fun k m σ1 H1 => m = L.length - k ∧ k ≤ L.length ∧ ∃ S1, Sat K Y F S1 σ1 H1 ∧ Stay M σ σ1 ∧ WPs K Y W M F D' σ (forS (bindB bnd) b (L.drop k) S1), ⟨_, rfl, Nat.zero_le _, S, s, Stay.refl M σ, h⟩, ?_⟩
  rintro k m σ1 H1 ⟨rfl, hk, S1, s1, y1, p⟩
  by_cases hlt : k < L.length
  · have hd : L[k]? = some L[k] := List.getElem?_eq_getElem hlt
    have ed : L.drop k = L[k] :: L.drop (k + 1) := List.drop_eq_getElem_cons hlt
    rw [ed] at p
    have p' : WPs K Y W M F D' σ (b (setBs S1 (bnd L[k])) >>= fun r => match r with
      | .nx S' => forS (bindB bnd) b (L.drop (k + 1)) S'
      | .ct S' => forS (bindB bnd) b (L.drop (k + 1)) S'
      | .bk S' => .ok (.nx S')
      | .rt d S' => .ok (.rt d S')) := p
    refine .inr ⟨ok.go k H1 s1.same hlt, fun σ' H' => ∃ S', Sat K Y F S' σ' H' ∧ Stay M σ σ' ∧ WPs K Y W M F D' σ (forS (bindB bnd) b (L.drop (k + 1)) S'), fun σ' H' ⟨S', a1, a2, a3⟩ => ⟨_, by omega, rfl, hlt, S', a1, a2, a3⟩, fun x H' hy => ?_⟩
    obtain ⟨s2, hg⟩ := ok.step k L[k] H1 x H' σ1 hd s1.same hy
    refine hg _ fun ws bd => ?_
    have hk : ∀ p ∈ ws, M p.1 = true := fun p hp => by
      have hm : p.1 ∈ ws.map (·.1) := List.mem_map_of_mem hp
      rw [bd.keys] at hm
      obtain ⟨r, hr1, hr2⟩ := List.mem_map.mp hm
      rw [← hr2]
      exact hM _ r hr1
    refine ⟨F, setBs S1 (bnd L[k]), (s1.ext s2).setBd bd, ?_⟩
    have y2 : Stay M σ (setV σ1 ws) := y1.trans (Stay.setV hk)
    cases q : b (setBs S1 (bnd L[k])) with
    | stuck => rw [q] at p'; exact p'
    | exc e => rw [q] at p'; exact p'
    | ok r =>
      rw [q] at p'
      cases r with
      | rt d S2 => exact fun v H2 r => p' v H2 (r.stay y2)
      | nx S' => exact fun σ' H' s' st => ⟨S', s', y2.trans st, p'⟩
      | ct S' => exact fun σ' H' s' st => ⟨S', s', y2.trans st, p'⟩
      | bk S' => exact fun σ' H' s' st => p' σ' H' s' (y2.trans st)
  · have ed : L.drop k = [] := List.drop_of_length_le (by omega)
    rw [ed] at p
    have : k = L.length := by omega
    subst this
    exact .inl ⟨ok.stop H1 s1.same, p σ1 H1 s1 y1⟩
section
variable {X : Cx} {Y : Cl} {W : Wh} {M : Md} {α : Type} {tg iter : Expr} {g : TG} {src : List Slot → Res (List α × List Slot)} {bnd : α → Bd} {L : En → Res (List α)} {b : List Slot → Res Fl} {body : List Stmt} {pos : Pos}
theorem s_forG (hp : PassesOwn (model X.prog X.w) X.A X.env X.xe) (hc : X.calm = true) (hi : IS X Y W tg iter g src bnd) (hg : PG X tg g) (hb : JB X Y W M body b) (hM : ∀ a, ∀ p ∈ bnd a, M p.1 = true) (hfs : ∀ x, foldedSetIterable iter X.env x = pure x := by intro _; rfl) :
    JS X Y W M (.For tg iter body [] pos) (sForG src bnd b) := by
  obtain ⟨wi, hpi, hw⟩ := hi.ex
  refine PS.imp (ps_for hp hc hpi hg hb hfs) fun D σ H ⟨F, S, s, h⟩ => hw σ H _ ⟨F, S, s, (WPs.bindG h s.same).imp (Same.refl H) fun r q J H1 F1 f1 s1 ok => ?_⟩
  exact forG_run hM ok s1 (WPs.shallow q f1)
theorem hM_1 {M : Md} {i : Nat} (h : M i = true) : ∀ a, ∀ p ∈ b1 i a, M p.1 = true := fun a p hp => by
  cases List.mem_singleton.mp hp
  exact h
theorem hM_2 {M : Md} {i j : Nat} (h : M i = true) (h2 : M j = true) : ∀ a, ∀ p ∈ b2 i j a, M p.1 = true := fun a p hp => by
  rcases List.mem_cons.mp hp with rfl | hp
  · exact h
  · cases List.mem_singleton.mp hp
    exact h2
/-- all slots frozen -/
def srcA (L : En → Res (List α)) (S : List Slot) : Res (List α × List Slot) := L (en S) >>= fun l => .ok (l, frzAll S)
theorem is_all (hi : IE X Y W tg iter g L bnd) : IS X Y W tg iter g (srcA L) bnd := by
  obtain ⟨wi, hpi, hw⟩ := hi.ex
  refine ⟨wi, hpi, fun σ H R ⟨F, S, s, h⟩ => hw σ H R ⟨en S, s.en, (WPr.bind h).imp (Same.refl H) fun l q J H1 sh ok => q J H1 H1 (s.same.trans sh) (s.ext sh).frzAll ok⟩⟩
/-- nothing frozen: ranges -/
def srcK (L : En → Res (List α)) (S : List Slot) : Res (List α × List Slot) := L (en S) >>= fun l => .ok (l, S)
section
variable {e e2 : Expr} {f f2 : En → Res D} {i j : Nat} {p pos' tpos : Pos} {elts : List Expr} {kk : Nat}
theorem is_r1 (hm : X.mg "range" = none) (he : J X Y W .r e f) (hg : Gl X "range" := by rfl) (hs : starEach [e] X.env = [(false, eval e X.env)] := by rfl) (hs1 : starEach (e :: []) X.env = (false, eval e X.env) :: starEach [] X.env := by rfl) :
    IS X Y W tg (.Call (.Name "range" p) [e] [] pos') (gName i) (srcK (iR1 f)) (b1 i) := ⟨_, pi_range1 hg hm (pa_cons he pa_nil hs1) hs, fun σ H R ⟨F, S, s, h⟩ => ⟨en S, s.en, by
  have h' : WPr X.K Y W σ H (f (en S) >>= fun d => (match d with
    | .int n => if rgOk n = true then Res.ok (intsUpTo 0 n.toNat) else .stuck
    | _ => .stuck) >>= fun l => Res.ok (l, S)) (fun r : List D × List Slot => ∀ (J : It) (H1 F1 : Hp), Same F F1 → Sat X.K Y F1 r.2 σ H1 → ItOk X.K Y J (gName i) r.1 (b1 i) F1 → R J H1) := by
    unfold srcK iR1 at h
    cases q : f (en S) with
    | ok d => rw [q] at h; exact h
    | exc x => rw [q] at h; exact h
    | stuck => rw [q] at h; exact h
  refine (WPr.bind h').imp (Same.refl H) fun d q v H1 sh r => ?_
  cases r with
  | @int n =>
    have q' : WPr X.K Y W σ H ((if rgOk n = true then Res.ok (intsUpTo 0 n.toNat) else .stuck) >>= fun l => Res.ok (l, S)) fun r => ∀ (J : It) (H1 F1 : Hp), Same F F1 → Sat X.K Y F1 r.2 σ H1 → ItOk X.K Y J (gName i) r.1 (b1 i) F1 → R J H1 := q
    by_cases hr : rgOk n = true
    · rw [if_pos hr] at q'
      obtain ⟨z1, z2⟩ := rgOk_iff hr
      exact ⟨n, rfl, z1, z2, q' _ H1 F (Same.refl F) (s.ext sh) itok_r⟩
    · rw [if_neg hr] at q'
      exact q'.elim
  | _ => exact q.elim⟩⟩
theorem is_r2 (hm : X.mg "range" = none) (he : J X Y W .r e f) (he2 : J X Y W .r e2 f2) (hg : Gl X "range" := by rfl) (hs : starEach [e, e2] X.env = [(false, eval e X.env), (false, eval e2 X.env)] := by rfl) (hs2 : starEach [e2] X.env = [(false, eval e2 X.env)] := by rfl)
    (hs1 : starEach (e :: [e2]) X.env = (false, eval e X.env) :: starEach [e2] X.env := by rfl) (hs3 : starEach (e2 :: []) X.env = (false, eval e2 X.env) :: starEach [] X.env := by rfl) :
    IS X Y W tg (.Call (.Name "range" p) [e, e2] [] pos') (gName i) (srcK (iR2 f f2)) (b1 i) := ⟨_, pi_range2 hg hm (pa_cons he (pa_cons he2 pa_nil hs3) hs1) hs hs2, fun σ H R ⟨F, S, s, h⟩ => ⟨en S, s.en, by
  have h' : WPr X.K Y W σ H (f (en S) >>= fun d => f2 (en S) >>= fun e => (match d, e with
    | .int lo, .int hi => if (rgOk lo && rgOk hi) = true then Res.ok (intsUpTo lo (hi - lo).toNat) else .stuck
    | _, _ => .stuck) >>= fun l => Res.ok (l, S)) (fun r : List D × List Slot => ∀ (J : It) (H1 F1 : Hp), Same F F1 → Sat X.K Y F1 r.2 σ H1 → ItOk X.K Y J (gName i) r.1 (b1 i) F1 → R J H1) := by
    unfold srcK iR2 at h
    cases q : f (en S) with
    | ok d =>
      rw [q] at h
      cases q2 : f2 (en S) with
      | ok d2 => rw [ok_bind] at h; rw [q2] at h; exact h
      | exc x => rw [ok_bind] at h; rw [q2] at h; exact h
      | stuck => rw [ok_bind] at h; rw [q2] at h; exact h
    | exc x => rw [q] at h; exact h
    | stuck => rw [q] at h; exact h
  refine (WPr.bind h').imp (Same.refl H) fun d q v H1 sh r => ?_
  refine ⟨en S, s.en.mono sh, (WPr.bind q).imp sh fun d2 q2 v2 H2 sh2 r2 => ?_⟩
  cases r with
  | @int lo =>
    cases r2 with
    | @int hi =>
      have q' : WPr X.K Y W σ H ((if (rgOk lo && rgOk hi) = true then Res.ok (intsUpTo lo (hi - lo).toNat) else .stuck) >>= fun l => Res.ok (l, S)) fun r => ∀ (J : It) (H1 F1 : Hp), Same F F1 → Sat X.K Y F1 r.2 σ H1 → ItOk X.K Y J (gName i) r.1 (b1 i) F1 → R J H1 := q2
      by_cases hr : (rgOk lo && rgOk hi) = true
      · rw [if_pos hr] at q'
        have hr' := Bool.and_eq_true_iff.mp hr
        obtain ⟨z1, z2⟩ := rgOk_iff hr'.1
        obtain ⟨z3, z4⟩ := rgOk_iff hr'.2
        exact ⟨lo, hi, rfl, ⟨z1, z2, z3, z4⟩, q' _ H2 F (Same.refl F) (s.ext (sh.trans sh2)) itok_r⟩
      · rw [if_neg hr] at q'
        exact q'.elim
    | _ => exact q2.elim
  | _ => cases d2 <;> exact q2.elim⟩⟩
/-- a new list: frozen, nothing else -/
theorem is_new (he : J X Y W .n e f) : IS X Y W tg e (gName i) (srcK (iL f)) (b1 i) := ⟨_, pi_list he, fun σ H R ⟨F, S, s, h⟩ => ⟨en S, s.en, by
  have h' : WPr X.K Y W σ H (f (en S) >>= fun d => itD d >>= fun l => Res.ok (l, S)) fun r => ∀ (J : It) (H1 F1 : Hp), Same F F1 → Sat X.K Y F1 r.2 σ H1 → ItOk X.K Y J (gName i) r.1 (b1 i) F1 → R J H1 := by
    unfold srcK iL at h
    cases q : f (en S) with
    | ok d => rw [q] at h; exact h
    | exc x => rw [q] at h; exact h
    | stuck => rw [q] at h; exact h
  refine (WPr.bind h').imp (Same.refl H) fun d q v H1 fp sh o nd fr => ?_
  cases z : itD d with
  | stuck => rw [z] at q; exact q.elim
  | exc x => cases d <;> cases z
  | ok l =>
    rw [z] at q
    obtain ⟨F', f1, f2, s', r⟩ := s.freeze sh o fr
    obtain ⟨a, vs, rfl, hs, rs⟩ := itD_rep r z
    exact ⟨a, rfl, ⟨vs, f2.seq hs⟩, q _ H1 F' f1 s' (itok_l hs rs)⟩⟩⟩
theorem is_newE (hm : X.mg "enumerate" = none) (he : J X Y W .n e f) (hg : Gl X "enumerate" := by rfl) (hs : starEach [e] X.env = [(false, eval e X.env)] := by rfl) (hs1 : starEach (e :: []) X.env = (false, eval e X.env) :: starEach [] X.env := by rfl) :
    IS X Y W (.Tuple elts kk tpos) (.Call (.Name "enumerate" p) [e] [] pos') (g2 X.K i j) (srcK (iEn f)) (b2 i j) := ⟨_, pi_enum hg hm (pa_cons he pa_nil hs1) hs, fun σ H R ⟨F, S, s, h⟩ => ⟨en S, s.en, by
  have h' : WPr X.K Y W σ H (f (en S) >>= fun d => itD d >>= fun l => Res.ok (enumP 0 l, S)) fun r => ∀ (J : It) (H1 F1 : Hp), Same F F1 → Sat X.K Y F1 r.2 σ H1 → ItOk X.K Y J (g2 X.K i j) r.1 (b2 i j) F1 → R J H1 := by
    unfold srcK iEn at h
    cases q : f (en S) with
    | ok d =>
      rw [q] at h
      cases q2 : itD d with
      | ok l => simp only [ok_bind, q2] at h; simp only [ok_bind, q2]; exact h
      | exc x => cases d <;> cases q2
      | stuck => simp only [ok_bind, q2, stuck_bind] at h; exact h.elim
    | exc x => rw [q] at h; exact h
    | stuck => rw [q] at h; exact h
  refine (WPr.bind h').imp (Same.refl H) fun d q v H1 fp sh o nd fr => ?_
  cases z : itD d with
  | stuck => rw [z] at q; exact q.elim
  | exc x => cases d <;> cases z
  | ok l =>
    rw [z] at q
    obtain ⟨F', f1, f2, s', r⟩ := s.freeze sh o fr
    obtain ⟨a, vs, rfl, hs, rs⟩ := itD_rep r z
    exact ⟨a, vs, rfl, f2.seq hs, q _ H1 F' f1 s' (itok_e hs rs)⟩⟩⟩
/-- a name's list: its slot frozen -/
def srcV (v : Nat) (S : List Slot) : Res (List D × List Slot) := match (frzV v S)[v]? with
  | some (.fz d) => itD d >>= fun l => .ok (l, frzV v S)
  | _ => .stuck
theorem is_v (v : Nat) {y : Str} {py : Pos} (hv : X.N[v]? = some y := by rfl) (hvy : Vis X.env.scope y := by first | exact Or.inl rfl | exact Or.inr (Or.inl rfl) | exact Or.inr (Or.inr rfl)) (hd : (y == ("__debug__" : Str)) = false := by decide) (hcd : (y == ("__classdict__" : Str)) = false := by decide) :
    IS X Y W tg (.Name y py) (gName i) (srcV v) (b1 i) := ⟨_, pi_list (pe_var hv hvy hd hcd), fun σ H R ⟨F, S, s, h⟩ => by
  obtain ⟨F', f1, f2, s', hz⟩ := s.frzV v
  unfold srcV at h
  split at h
  · rename_i d q
    obtain ⟨u, hu, ru⟩ := hz v d q
    cases z : itD d with
    | stuck => rw [z] at h; exact h.elim
    | exc x => cases d <;> cases z
    | ok l =>
      rw [z] at h
      obtain ⟨a, vs, rfl, hs, rs⟩ := itD_rep ru z
      exact ⟨.ref a, hu, a, rfl, ⟨vs, f2.seq hs⟩, h _ H F' f1 s' (itok_l hs rs)⟩
  · exact h.elim⟩
def srcVp (v : Nat) (S : List Slot) : Res (List (D × D) × List Slot) := match (frzV v S)[v]? with
  | some (.fz d) => itD d >>= fun l => itP l >>= fun l => .ok (l, frzV v S)
  | _ => .stuck
theorem itP_calm : ∀ (ds : List D) (x : Err), itP ds ≠ .exc x := by
  intro ds
  induction ds with
  | nil => exact fun x h => nomatch h
  | cons a r ih =>
    intro x h
    unfold itP at h
    split at h
    · cases h
    · rename_i h0; cases h0
      rename_i x1 y1
      cases q3 : itP r with
      | stuck => rw [q3] at h; cases h
      | exc y => exact ih y q3
      | ok y => rw [q3] at h; cases h
    · cases h
theorem is_vp (v : Nat) {y : Str} {py : Pos} (hv : X.N[v]? = some y := by rfl) (hvy : Vis X.env.scope y := by first | exact Or.inl rfl | exact Or.inr (Or.inl rfl) | exact Or.inr (Or.inr rfl)) (hd : (y == ("__debug__" : Str)) = false := by decide) (hcd : (y == ("__classdict__" : Str)) = false := by decide) :
    IS X Y W tg (.Name y py) (g2 X.K i j) (srcVp v) (b2 i j) := ⟨_, pi_list (pe_var hv hvy hd hcd), fun σ H R ⟨F, S, s, h⟩ => by
  obtain ⟨F', f1, f2, s', hz⟩ := s.frzV v
  unfold srcVp at h
  split at h
  · rename_i d q
    obtain ⟨u, hu, ru⟩ := hz v d q
    cases z : itD d with
    | stuck => rw [z] at h; exact h.elim
    | exc x => cases d <;> cases z
    | ok l =>
      rw [z] at h
      have h : WPr X.K Y W σ H (itP l >>= fun l => .ok (l, frzV v S)) _ := h
      cases z2 : itP l with
      | stuck => rw [z2] at h; exact h.elim
      | exc x => exact absurd z2 (itP_calm l x)
      | ok l2 =>
        rw [z2] at h
        obtain ⟨a, vs, rfl, hs, rs⟩ := itD_rep ru z
        exact ⟨.ref a, hu, a, rfl, ⟨vs, f2.seq hs⟩, h _ H F' f1 s' (itok_p hs rs z2)⟩
  · exact h.elim⟩
/-- v[e] -/
def srcP (v : Nat) (f : En → Res D) (S : List Slot) : Res (List D × List Slot) := match (frzV v S)[v]? with
  | some (.fz (.lst ds)) => f (en S) >>= fun e => match e with
    | .int j => match atI ds j with
      | some d => itD d >>= fun l => .ok (l, frzV v S)
      | _ => .stuck
    | _ => .stuck
  | _ => .stuck
theorem is_at (v : Nat) {y : Str} {py : Pos} (he : J X Y W .r e f) (hs : PlainIx e := by exact fun _ _ => rfl) (hv : X.N[v]? = some y := by rfl) (hvy : Vis X.env.scope y := by first | exact Or.inl rfl | exact Or.inr (Or.inl rfl) | exact Or.inr (Or.inr rfl)) (hd : (y == ("__debug__" : Str)) = false := by decide) (hcd : (y == ("__classdict__" : Str)) = false := by decide) :
    IS X Y W tg (.Subscript (.Name y py) e p) (gName i) (srcP v f) (b1 i) := ⟨_, pi_list (pe_ix ix_list (pe_var hv hvy hd hcd) he hs), fun σ H R ⟨F, S, s, h⟩ => by
  obtain ⟨F', f1, f2, s', hz⟩ := s.frzV v
  unfold srcP at h
  split at h
  · rename_i ds q
    obtain ⟨u, hu, ru⟩ := hz v _ q
    refine ⟨u, hu, en S, s.en, (WPr.bind h).imp (Same.refl H) fun d q v2 H2 sh2 r2 => ?_⟩
    cases r2 with
    | @int j =>
      have q : WPr X.K Y W σ H (match atI ds j with
        | some d => itD d >>= fun l => .ok (l, frzV v S)
        | _ => .stuck) _ := q
      cases q3 : atI ds j with
      | none => rw [q3] at q; exact q.elim
      | some d3 =>
        rw [q3] at q
        cases ru with
        | @lst a vs _ ha r =>
          obtain ⟨u3, hu3, ru3⟩ := r.at q3
          have q : WPr X.K Y W σ H (itD d3 >>= fun l => .ok (l, frzV v S)) _ := q
          cases z : itD d3 with
          | stuck => rw [z] at q; exact q.elim
          | exc x => cases d3 <;> cases z
          | ok l =>
            rw [z] at q
            obtain ⟨a3, vs3, rfl, hs3, rs3⟩ := itD_rep ru3 z
            have f2' := f2.trans sh2
            exact ⟨a, vs, j, .ref a3, rfl, rfl, SqL.of (f2' _ _ ha), hu3, a3, rfl, ⟨vs3, f2'.seq hs3⟩, q _ H2 F' f1 (s'.ext sh2) (itok_l hs3 rs3)⟩
    | _ => exact q.elim
  · exact h.elim⟩
def srcZ (v u : Nat) (S : List Slot) : Res (List (D × D) × List Slot) := match (frzV u (frzV v S))[v]?, (frzV u (frzV v S))[u]? with
  | some (.fz d), some (.fz e) => itD d >>= fun l => itD e >>= fun r => .ok (l.zip r, frzV u (frzV v S))
  | _, _ => .stuck
theorem is_z (v u : Nat) {y z : Str} {py pz : Pos} (hm : X.mg "zip" = none) (hv : X.N[v]? = some y := by rfl) (hvy : Vis X.env.scope y := by first | exact Or.inl rfl | exact Or.inr (Or.inl rfl) | exact Or.inr (Or.inr rfl)) (hd : (y == ("__debug__" : Str)) = false := by decide) (hcd : (y == ("__classdict__" : Str)) = false := by decide)
    (hu : X.N[u]? = some z := by rfl) (huz : Vis X.env.scope z := by first | exact Or.inl rfl | exact Or.inr (Or.inl rfl) | exact Or.inr (Or.inr rfl)) (hd' : (z == ("__debug__" : Str)) = false := by decide) (hcd' : (z == ("__classdict__" : Str)) = false := by decide) (hg : Gl X "zip" := by rfl)
    (hs : starEach [.Name y py, .Name z pz] X.env = (false, eval (.Name y py) X.env) :: starEach [.Name z pz] X.env := by rfl) (hpl : (backTo pos' (starEach [.Name z pz] X.env)).any (·.1) = false := by rfl) (hs3 : starEach (.Name z pz :: []) X.env = (false, eval (.Name z pz) X.env) :: starEach [] X.env := by rfl) :
    IS X Y W (.Tuple elts kk tpos) (.Call (.Name "zip" p) [.Name y py, .Name z pz] [] pos') (g2 X.K i j) (srcZ v u) (b2 i j) := ⟨_, pi_zip hg hm (pa_cons (pe_var hv hvy hd hcd) (pa_cons (pe_var hu huz hd' hcd') pa_nil hs3) hs) hs hpl, fun σ H R ⟨F, S, s, h⟩ => by
  obtain ⟨F1, f1, f2, s1, hz1⟩ := s.frzV v
  obtain ⟨F', f3, f4, s', hz⟩ := s1.frzV u
  unfold srcZ at h
  split at h
  · rename_i d e q1 q2
    obtain ⟨x1, hx1, rx1⟩ := hz v d q1
    obtain ⟨x2, hx2, rx2⟩ := hz u e q2
    cases z1 : itD d with
    | stuck => rw [z1] at h; exact h.elim
    | exc x => cases d <;> cases z1
    | ok l =>
      rw [z1] at h
      have h : WPr X.K Y W σ H (itD e >>= fun r => .ok (l.zip r, frzV u (frzV v S))) _ := h
      cases z2 : itD e with
      | stuck => rw [z2] at h; exact h.elim
      | exc x => cases e <;> cases z2
      | ok l2 =>
        rw [z2] at h
        obtain ⟨a, vs, rfl, hs, rs⟩ := itD_rep rx1 z1
        obtain ⟨b, us, rfl, hs2, rs2⟩ := itD_rep rx2 z2
        exact ⟨.ref a, hx1, .ref b, hx2, a, b, vs, us, rfl, f4.seq hs, f4.seq hs2, h _ H F' (f1.trans f3) s' (itok_z hs rs hs2 rs2)⟩
  · exact h.elim⟩
end
end
end Ow
end
section
set_option linter.all false
set_option maxRecDepth 100000
set_option maxHeartbeats 2000000
/-! Ow14: what a slot owns is changed in its place. -/
namespace Ow
open PySem L2 PySem.Spec
/-- where a change is made: a slot's own data, or an item of its list -/
inductive Lc where
  | top (s : Nat) | it (s j : Nat)
def getL (S : List Slot) : Lc → Option D
  | .top s => match S[s]? with
    | some (.own d) => some d
    | _ => none
  | .it s j => match S[s]? with
    | some (.own (.lst ds)) => ds[j]?
    | _ => none
def putL (keep : Bool) (S : List Slot) (d' : D) : Lc → List Slot
  | .top s => if keep = true then S.set s (.own d') else setS S s (.own d')
  | .it s j => match S[s]? with
    | some (.own (.lst ds)) => S.set s (.own (.lst (ds.set j d')))
    | _ => S
def AtL (σ : St) (H : Hp) : Lc → V → Prop
  | .top s, v => σ[s]? = some (some v)
  | .it s j, v => ∃ p vs, σ[s]? = some (some (.ref p)) ∧ H p = some (.lst vs) ∧ vs[j]? = some v
/-- a longer list -/
def Longer (H H' : Hp) (d d' : D) (v : V) : Prop := ∀ ds p vs, d = .lst ds → v = .ref p → H p = some (.lst vs) → ∃ ds' vs', d' = .lst ds' ∧ H' p = some (.lst vs') ∧ ∀ (j : Nat) (x : V), j < ds.length → vs[j]? = some x → j < ds'.length ∧ vs'[j]? = some x
/-- nothing but the places fl has changed -/
def Out (fl : List Addr) (H H' : Hp) : Prop := ∀ p o, p ∉ fl → H p = some o → H' p = some o
section
variable {K : PySem.W.Frag} {Y : Cl} {F H H' : Hp} {S : List Slot} {σ : St}
theorem Own.fix_out {v : V} {d : D} {fl : List Addr} (o : Own K Y H v d fl) (h : Out fl H H') : Fix H H' := fun p u e hf => h p u (fun hm => by
  obtain ⟨u', a, b⟩ := o.there p hm
  rw [e] at a
  cases a
  rw [b] at hf
  cases hf) e
/-- a heap without some places -/
def lessH (fl : List Addr) (H : Hp) : Hp := fun p => if p ∈ fl then none else H p
theorem lessH_same {fl : List Addr} {H H' : Hp} (h : Same H H') : Same (lessH fl H) (lessH fl H') := fun p o e => by
  unfold lessH at e ⊢
  by_cases hp : p ∈ fl
  · rw [if_pos hp] at e; cases e
  · rw [if_neg hp] at e ⊢; exact h p o e
theorem lessH_to {fl : List Addr} {H : Hp} : Same (lessH fl H) H := fun p o e => by
  unfold lessH at e
  by_cases hp : p ∈ fl
  · rw [if_pos hp] at e; cases e
  · rw [if_neg hp] at e; exact e
theorem lessH_out {fl : List Addr} {H : Hp} {p : Addr} (h : p ∉ fl) : lessH fl H p = H p := if_neg h
/-- a slot's own data, opened -/
theorem Sat.mut2 (h : Sat K Y F S σ H) {s : Nat} {d : D} (hs : S[s]? = some (.own d)) : ∃ v fl, σ[s]? = some (some v) ∧ Own K Y H v d fl ∧ fl.Nodup ∧ (∀ p ∈ fl, F p = none) ∧ (∀ fl' : List Addr, (∀ p ∈ fl', p ∈ fl) → Sat K Y F (setS S s .un) σ (lessH fl' H)) ∧
    ∀ (H' : Hp) (d' : D) (fl' : List Addr), Out fl H H' → Own K Y H' v d' fl' → fl'.Nodup → (∀ p ∈ fl', p ∈ fl ∨ H p = none) →
      Sat K Y F (setS S s (.own d')) σ H' ∧ (Longer H H' d d' v → Sat K Y F (S.set s (.own d')) σ H') := by
  obtain ⟨G, w, fp, sw⟩ := h
  obtain ⟨v, hv, o, nd, z⟩ := sw.ok s _ hs
  refine ⟨v, fp s, hv, o, nd, fun p hp => sw.fg.free (z p hp).2, fun fl' sub => ?_, fun H' d' fl' out o' nd' sub => ?_⟩
  · have nfx : ∀ p ∈ fl', ∀ u, H p = some u → fixO u = false := fun p hp u e => by
      obtain ⟨u', a, b⟩ := o.there p (sub p hp)
      rw [e] at a
      cases a
      exact b
    have fx : Fix H (lessH fl' H) := fun p u e hf => by
      rw [lessH_out fun hm => by rw [nfx p hm u e] at hf; cases hf]
      exact e
    refine ⟨G, w, fp, sw.fg, fun p u e => ?_, fun p u e hf => sw.fx p u (lessH_to p u e) hf, by rw [setS_len]; exact sw.len, fun k y hy => ?_⟩
    · rw [lessH_out fun hm => by rw [(z p (sub p hm)).2] at e; cases e]
      exact sw.gh p u e
    · rcases setS_get hy with ⟨rfl, rfl, _⟩ | ⟨hk, x, hx, hxy⟩
      · trivial
      · rcases kill_ne hxy with ⟨rfl, _⟩ | ⟨rfl, hn⟩
        · trivial
        · have q := sw.ok k _ hx
          cases x with
          | un => trivial
          | fz e => exact q
          | own e =>
            obtain ⟨u, a, b, c, q'⟩ := q
            exact ⟨u, a, b.frame fx (fun p hp => lessH_out fun hm => hk (by rw [← (q' p hp).1, (z p (sub p hm)).1])), c, q'⟩
          | ali t j =>
            obtain ⟨ds, p, vs, u, h1, h2, h3, h4, h5, h6⟩ := q
            have ht : t ≠ s := fun e => hn j (by rw [e])
            obtain ⟨u2, a2, b2, c2, q2⟩ := sw.ok t _ h1
            rw [h3] at a2
            cases a2
            obtain ⟨p', vs', g, e1, e2, e3, e4⟩ := b2.lst_inv (p := p)
            cases e1
            have hp : p ∈ fp t := by rw [e4]; exact List.mem_cons_self
            refine ⟨ds, p, vs, u, setS_ne h1 (fun j q => nomatch q) ht, h2, h3, ?_, h5, h6⟩
            rw [lessH_out fun hm => ht (by rw [← (q2 p hp).1, (z p (sub p hm)).1])]
            exact h4
  have hls : s < S.length := (List.getElem?_eq_some_iff.mp hs).1
  have fx : Fix H H' := o.fix_out out
  have gh' : Same G H' := fun p u e => out p u (fun hm => by rw [(z p hm).2] at e; cases e) (sw.gh p u e)
  let w' : Addr → Nat := fun p => if p ∈ fl' then s else w p
  let fp' : Nat → List Addr := fun k => if k = s then fl' else fp k
  have core : ∀ (S' : List Slot), S'.length = S.length → S'[s]? = some (.own d') → (∀ (k : Nat) (y : Slot), k ≠ s → S'[k]? = some y → y = .un ∨ (S[k]? = some y ∧ ((∀ j, y ≠ .ali s j) ∨ Longer H H' d d' v))) → (∀ t e, t ≠ s → S[t]? = some (.own e) → S'[t]? = some (.own e)) → Sat K Y F S' σ H' := by
    intro S' hl hs' hk hoth
    refine ⟨grow G H', w', fp', sw.fg.trans grow_same, grow_to gh', fun p u e hf => grow_fix gh' e hf, by rw [hl]; exact sw.len, fun k y hy => ?_⟩
    by_cases hks : k = s
    · subst hks
      rw [hs'] at hy
      cases hy
      have e1 : fp' k = fl' := if_pos rfl
      refine ⟨v, hv, by rw [e1]; exact o', by rw [e1]; exact nd', ?_⟩
      rw [e1]
      intro p hp
      refine ⟨if_pos hp, grow_none ?_ fun u e => ?_⟩
      · rcases sub p hp with hm | hn
        · exact (z p hm).2
        · exact sw.gh.free hn
      · obtain ⟨u', a, b⟩ := o'.there p hp
        rw [e] at a
        cases a
        exact b
    · rcases hk k y hks hy with rfl | ⟨hz, hali⟩
      · trivial
      · have q := sw.ok k y hz
        cases y with
        | un => trivial
        | fz e =>
          obtain ⟨u, a, b⟩ := q
          exact ⟨u, a, b.mono grow_same⟩
        | own e =>
          obtain ⟨u, a, b, c, q'⟩ := q
          have e1 : fp' k = fp k := if_neg hks
          have nfl : ∀ p ∈ fp k, p ∉ fp s := fun p hp hm => hks (by rw [← (q' p hp).1, (z p hm).1])
          have eqH : ∀ p ∈ fp k, H' p = H p := fun p hp => by
            obtain ⟨u', a', _⟩ := b.there p hp
            rw [a', out p u' (nfl p hp) a']
          refine ⟨u, a, by rw [e1]; exact b.frame fx eqH, by rw [e1]; exact c, ?_⟩
          rw [e1]
          intro p hp
          obtain ⟨u', a', b'⟩ := b.there p hp
          refine ⟨?_, grow_none (q' p hp).2 fun u'' e => ?_⟩
          · show (if p ∈ fl' then s else w p) = k
            rw [if_neg fun hm => ?_]
            · exact (q' p hp).1
            · rcases sub p hm with hm' | hn
              · exact nfl p hp hm'
              · rw [a'] at hn
                cases hn
          · rw [eqH p hp, a'] at e
            cases e
            exact b'
        | ali t j =>
          obtain ⟨ds, p, vs, u, h1, h2, h3, h4, h5, h6⟩ := q
          by_cases ht : t = s
          · subst ht
            rcases hali with hn | lg
            · exact absurd rfl (hn j)
            · rw [hs] at h1
              cases h1
              rw [hv] at h3
              cases h3
              obtain ⟨ds', vs', rfl, e2, e3⟩ := lg ds p vs rfl rfl h4
              obtain ⟨e4, e5⟩ := e3 j u h2 h5
              exact ⟨ds', p, vs', u, hs', e4, hv, e2, e5, h6⟩
          · obtain ⟨u2, a2, b2, c2, q2⟩ := sw.ok t _ h1
            rw [h3] at a2
            cases a2
            obtain ⟨p', vs', g, e1, e2, e3, e4⟩ := b2.lst_inv (p := p)
            cases e1
            have hp : p ∈ fp t := by rw [e4]; exact List.mem_cons_self
            have : p ∉ fp s := fun hm => ht (by rw [← (q2 p hp).1, (z p hm).1])
            exact ⟨ds, p, vs, u, hoth t _ ht h1, h2, h3, out p _ this h4, h5, h6⟩
  refine ⟨core _ setS_len ?_ (fun k y hks hy => ?_) fun t e ht he => setS_ne he (fun j q => nomatch q) ht, fun lg => core _ (by simp) (by rw [List.getElem?_set_self hls]) (fun k y hks hy => ?_) fun t e ht he => by rw [List.getElem?_set_ne (Ne.symm ht)]; exact he⟩
  · unfold setS
    rw [List.getElem?_set_self (by simpa using hls)]
  · rcases setS_get hy with ⟨rfl, _, _⟩ | ⟨_, x, hx, hxy⟩
    · exact absurd rfl hks
    · rcases kill_ne hxy with ⟨rfl, _⟩ | ⟨rfl, hn⟩
      · exact .inl rfl
      · exact .inr ⟨hx, .inl hn⟩
  · rw [List.getElem?_set_ne (Ne.symm hks)] at hy
    exact .inr ⟨hy, .inr lg⟩
theorem Sat.mut (h : Sat K Y F S σ H) {s : Nat} {d : D} (hs : S[s]? = some (.own d)) : ∃ v fl, σ[s]? = some (some v) ∧ Own K Y H v d fl ∧ fl.Nodup ∧ (∀ p ∈ fl, F p = none) ∧
    ∀ (H' : Hp) (d' : D) (fl' : List Addr), Out fl H H' → Own K Y H' v d' fl' → fl'.Nodup → (∀ p ∈ fl', p ∈ fl ∨ H p = none) →
      Sat K Y F (setS S s (.own d')) σ H' ∧ (Longer H H' d d' v → Sat K Y F (S.set s (.own d')) σ H') := by
  obtain ⟨v, fl, a, b, c, d, _, e⟩ := h.mut2 hs
  exact ⟨v, fl, a, b, c, d, e⟩
theorem Owns.at_ : ∀ {vs : List V} {ds : List D} {fp : List Addr} {j : Nat} {d : D}, Owns K Y H vs ds fp → ds[j]? = some d → ∃ v f1 f f2, vs[j]? = some v ∧ Own K Y H v d f ∧ fp = f1 ++ (f ++ f2) ∧
    ∀ (H' : Hp) (v' : V) (d' : D) (f' : List Addr), Own K Y H' v' d' f' → Fix H H' → (∀ p ∈ f1 ++ f2, H' p = H p) → Owns K Y H' (vs.set j v') (ds.set j d') (f1 ++ (f' ++ f2))
  | _, _, _, j, d, .nil, h => by simp at h
  | v :: vs, _ :: ds, _, 0, d, .cons (f := f) (g := g) a b, h => by
    cases h
    refine ⟨v, [], f, g, rfl, a, rfl, fun H' v' d' f' o' fx eq => ?_⟩
    show Owns K Y H' (v' :: vs) (d' :: ds) (f' ++ g)
    exact .cons o' (b.frame fx fun p hp => eq p (by simpa using hp))
  | v :: vs, d0 :: ds, _, j + 1, d, .cons (f := f) (g := g) a b, h => by
    obtain ⟨u, f1, f', f2, h1, h2, h3, h4⟩ := Owns.at_ b (j := j) h
    refine ⟨u, f ++ f1, f', f2, h1, h2, by rw [h3]; simp, fun H' v' d' f'' o' fx eq => ?_⟩
    have := Owns.cons (a.frame fx fun p hp => eq p (by simp [hp])) (h4 H' v' d' f'' o' fx fun p hp => eq p (by
      rcases List.mem_append.mp hp with hp | hp <;> simp [hp]))
    simpa using this
theorem Owns.take_drop : ∀ (j : Nat) {vs : List V} {ds : List D} {fp : List Addr}, Owns K Y H vs ds fp → ∃ f1 f2, fp = f1 ++ f2 ∧ Owns K Y H (vs.take j) (ds.take j) f1 ∧ Owns K Y H (vs.drop j) (ds.drop j) f2
  | 0, vs, ds, fp, h => ⟨[], fp, rfl, .nil, h⟩
  | j + 1, _, _, _, .nil => ⟨[], [], rfl, .nil, .nil⟩
  | j + 1, _, _, _, .cons (f := f) (g := g) a b => by
    obtain ⟨f1, f2, h1, h2, h3⟩ := Owns.take_drop j b
    exact ⟨f ++ f1, f2, by rw [h1]; simp, .cons a h2, h3⟩
theorem Owns.reverse : ∀ {vs : List V} {ds : List D} {fp : List Addr}, Owns K Y H vs ds fp → ∃ fp', fp'.Perm fp ∧ Owns K Y H vs.reverse ds.reverse fp'
  | _, _, _, .nil => ⟨[], List.Perm.refl _, .nil⟩
  | v :: vs, d :: ds, _, .cons (f := f) (g := g) a b => by
    obtain ⟨g', h1, h2⟩ := Owns.reverse b
    refine ⟨g' ++ f, ?_, ?_⟩
    · exact (List.perm_append_comm).trans (List.Perm.append_left f h1)
    · rw [List.reverse_cons, List.reverse_cons]
      exact Owns.append h2 (Owns.one a)
/-- without the slot -/
def unL (S : List Slot) : Lc → List Slot
  | .top s => setS S s .un
  | .it s _ => setS S s .un
/-- the place where a change is made, opened -/
theorem Sat.openL2 (h : Sat K Y F S σ H) {lc : Lc} {d : D} (hg : getL S lc = some d) : ∃ v fl, AtL σ H lc v ∧ Own K Y H v d fl ∧ fl.Nodup ∧ (∀ p ∈ fl, F p = none) ∧ Sat K Y F (unL S lc) σ (lessH fl H) ∧
    ∀ (keep : Bool) (H' : Hp) (d' : D) (fl' : List Addr), Out fl H H' → Own K Y H' v d' fl' → fl'.Nodup → (∀ p ∈ fl', p ∈ fl ∨ H p = none) → (keep = true → Longer H H' d d' v) → Sat K Y F (putL keep S d' lc) σ H' := by
  cases lc with
  | top s =>
    have hs : S[s]? = some (.own d) := by
      have hg' : (match S[s]? with
        | some (.own d) => some d
        | _ => none) = some d := hg
      split at hg'
      · rename_i q
        cases hg'
        exact q
      · cases hg'
    obtain ⟨v, fl, a, b, c, e, ls, f⟩ := h.mut2 hs
    refine ⟨v, fl, a, b, c, e, ls fl (fun _ h => h), fun keep H' d' fl' h1 h2 h3 h4 h5 => ?_⟩
    obtain ⟨g1, g2⟩ := f H' d' fl' h1 h2 h3 h4
    unfold putL
    cases keep with
    | true => exact g2 (h5 rfl)
    | false => exact g1
  | it s j =>
    obtain ⟨ds, hs, hd⟩ : ∃ ds, S[s]? = some (.own (.lst ds)) ∧ ds[j]? = some d := by
      have hg' : (match S[s]? with
        | some (.own (.lst ds)) => ds[j]?
        | _ => none) = some d := hg
      split at hg'
      · rename_i q
        exact ⟨_, q, hg'⟩
      · cases hg'
    obtain ⟨v, fl, a, b, c, e, ls, f⟩ := h.mut2 hs
    obtain ⟨p, vs, g, rfl, hp, ow, rfl⟩ := b.lst_inv (p := 0)
    obtain ⟨u, f1, fj, f2, h1, h2, h3, h4⟩ := ow.at_ hd
    subst h3
    have nd := List.nodup_cons.mp c
    have hpj : p ∉ fj := fun hm => nd.1 (by simp [hm])
    refine ⟨u, fj, ⟨p, vs, a, hp, h1⟩, h2, ((List.nodup_append.mp ((List.nodup_append.mp nd.2).2.1)).1), fun q hq => e q (by simp [hq]), ls fj (fun q hq => by simp [hq]), fun keep H' d' fl' g1 g2 g3 g4 g5 => ?_⟩
    have nd2 := List.nodup_append.mp nd.2
    have nd3 := List.nodup_append.mp nd2.2.1
    have hp' : H' p = some (.lst vs) := g1 p _ hpj hp
    have fx : Fix H H' := h2.fix_out g1
    have fr : ∀ q ∈ f1 ++ f2, H' q = H q := fun q hq => by
      obtain ⟨o, ho, _⟩ := ow.there q (by rcases List.mem_append.mp hq with hq | hq <;> simp [hq])
      rw [ho]
      refine g1 q o (fun hm => ?_) ho
      rcases List.mem_append.mp hq with hq | hq
      · exact nd2.2.2 q hq q (by simp [hm]) rfl
      · exact nd3.2.2 q hm q hq rfl
    have ow' := h4 H' u d' fl' g2 fx fr
    have es : vs.set j u = vs := by
      apply List.ext_getElem?
      intro k
      by_cases hk : k = j
      · subst hk
        rw [List.getElem?_set_self (List.getElem?_eq_some_iff.mp h1).1, h1]
      · rw [List.getElem?_set_ne (Ne.symm hk)]
    rw [es] at ow'
    have key := f H' (.lst (ds.set j d')) (p :: (f1 ++ (fl' ++ f2))) (fun q o hq ho => g1 q o (fun hm => hq (by simp [hm])) ho) (.lst hp' ow') ?_ ?_
    · show Sat K Y F (match S[s]? with
        | some (.own (.lst ds)) => S.set s (.own (.lst (ds.set j d')))
        | _ => S) σ H'
      rw [hs]
      refine key.2 fun ds0 p0 vs0 e1 e2 e3 => ?_
      cases e1
      cases e2
      rw [hp] at e3
      cases e3
      exact ⟨_, vs, rfl, hp', fun k x hk hx => ⟨by simpa using hk, hx⟩⟩
    · have sub : ∀ q ∈ fl', q ∉ f1 ∧ q ∉ f2 ∧ q ≠ p := fun q hq => by
        rcases g4 q hq with hm | hn
        · refine ⟨fun z => nd2.2.2 q z q (by simp [hm]) rfl, fun z => nd3.2.2 q hm q z rfl, fun z => hpj (z ▸ hm)⟩
        · refine ⟨fun z => ?_, fun z => ?_, fun z => ?_⟩
          · obtain ⟨o, ho, _⟩ := ow.there q (by simp [z])
            rw [ho] at hn; cases hn
          · obtain ⟨o, ho, _⟩ := ow.there q (by simp [z])
            rw [ho] at hn; cases hn
          · rw [z, hp] at hn; cases hn
      refine List.nodup_cons.mpr ⟨fun hm => ?_, ?_⟩
      · rcases List.mem_append.mp hm with hm | hm
        · exact nd.1 (by simp [hm])
        · rcases List.mem_append.mp hm with hm | hm
          · exact (sub p hm).2.2 rfl
          · exact nd.1 (by simp [hm])
      · refine List.nodup_append.mpr ⟨nd2.1, List.nodup_append.mpr ⟨g3, nd3.2.1, fun x hx y hy e => ?_⟩, fun x hx y hy e => ?_⟩
        · subst e
          exact (sub x hx).2.1 hy
        · subst e
          rcases List.mem_append.mp hy with hy | hy
          · exact (sub x hy).1 hx
          · exact nd2.2.2 x hx x (by simp [hy]) rfl
    · intro q hq
      rcases List.mem_cons.mp hq with rfl | hq
      · exact .inl List.mem_cons_self
      · rcases List.mem_append.mp hq with hq | hq
        · exact .inl (by simp [hq])
        · rcases List.mem_append.mp hq with hq | hq
          · rcases g4 q hq with hm | hn
            · exact .inl (by simp [hm])
            · exact .inr hn
          · exact .inl (by simp [hq])
theorem Sat.openL (h : Sat K Y F S σ H) {lc : Lc} {d : D} (hg : getL S lc = some d) : ∃ v fl, AtL σ H lc v ∧ Own K Y H v d fl ∧ fl.Nodup ∧ (∀ p ∈ fl, F p = none) ∧
    ∀ (keep : Bool) (H' : Hp) (d' : D) (fl' : List Addr), Out fl H H' → Own K Y H' v d' fl' → fl'.Nodup → (∀ p ∈ fl', p ∈ fl ∨ H p = none) → (keep = true → Longer H H' d d' v) → Sat K Y F (putL keep S d' lc) σ H' := by
  obtain ⟨v, fl, a, b, c, d, _, e⟩ := h.openL2 hg
  exact ⟨v, fl, a, b, c, d, e⟩
theorem AtL.same {lc : Lc} {v : V} (h : AtL σ H lc v) (e : Same H H') : AtL σ H' lc v := by
  cases lc with
  | top s => exact h
  | it s j =>
    obtain ⟨p, vs, a, b, c⟩ := h
    exact ⟨p, vs, a, e _ _ b, c⟩
theorem AtL.one {lc : Lc} {v u : V} (h : AtL σ H lc v) (h' : AtL σ H lc u) : v = u := by
  cases lc with
  | top s =>
    have a : σ[s]? = some (some v) := h
    have b : σ[s]? = some (some u) := h'
    rw [a] at b
    cases b
    rfl
  | it s j =>
    obtain ⟨p, vs, a, b, c⟩ := h
    obtain ⟨p', vs', a', b', c'⟩ := h'
    rw [a] at a'
    cases a'
    rw [b] at b'
    cases b'
    rw [c] at c'
    cases c'
    rfl
end
/-! ### where -/
def JLc (X : Cx) (Y : Cl) (W : Wh) (e : Expr) (loc : List Slot → Res Lc) : Prop := PE X e fun σ H Q => ∃ F S, Sat X.K Y F S σ H ∧ WPr X.K Y W σ H (loc S) fun lc => ∀ v H1, Same H H1 → AtL σ H1 lc v → Q v H1
def locV (i : Nat) (S : List Slot) : Res Lc := match S[i]? with
  | some (.own _) => .ok (.top i)
  | some (.ali s j) => .ok (.it s j)
  | _ => .stuck
def locP (i : Nat) (f : En → Res D) (S : List Slot) : Res Lc := match S[i]? with
  | some (.own (.lst ds)) => f (en S) >>= fun d => match d with
    | .int k => match ixN ds.length k with
      | some j => .ok (.it i j)
      | none => .stuck
    | _ => .stuck
  | _ => .stuck

section
variable {X : Cx} {Y : Cl} {W : Wh} {M : Md} {e o : Expr} {es : List Expr} {f : En → Res D} {p pos : Pos}
theorem jl_var (i : Nat) {x : Str} (hN : X.N[i]? = some x := by rfl) (hv : Vis X.env.scope x := by first | exact Or.inl rfl | exact Or.inr (Or.inl rfl) | exact Or.inr (Or.inr rfl)) (hd : (x == ("__debug__" : Str)) = false := by decide) (hcd : (x == ("__classdict__" : Str)) = false := by decide) :
    JLc X Y W (.Name x p) (locV i) :=
  PE.imp (pe_var hN hv hd hcd) fun σ H Q ⟨F, S, s, h⟩ => by
    obtain ⟨G, w, fp, sw⟩ := s
    unfold locV at h
    split at h
    · rename_i d q
      obtain ⟨v, hv, _⟩ := sw.ok i _ q
      exact ⟨v, hv, h v H (Same.refl H) hv⟩
    · rename_i t j q
      obtain ⟨ds, p, vs, u, h1, h2, h3, h4, h5, h6⟩ := sw.ok i _ q
      exact ⟨u, h6, h u H (Same.refl H) ⟨p, vs, h3, h4, h5⟩⟩
    · exact h.elim
theorem jl_at (i : Nat) {x : Str} {p2 : Pos} (he : J X Y W .r e f) (hs : PlainIx e := by exact fun _ _ => rfl) (hN : X.N[i]? = some x := by rfl) (hv : Vis X.env.scope x := by first | exact Or.inl rfl | exact Or.inr (Or.inl rfl) | exact Or.inr (Or.inr rfl)) (hd : (x == ("__debug__" : Str)) = false := by decide) (hcd : (x == ("__classdict__" : Str)) = false := by decide) :
    JLc X Y W (.Subscript (.Name x p) e p2) (locP i f) :=
  PE.imp (pe_ix ix_list (pe_var hN hv hd hcd) he hs) fun σ H Q ⟨F, S, s, h⟩ => by
    have s0 := s
    obtain ⟨G, w, fp, sw⟩ := s
    unfold locP at h
    split at h
    · rename_i ds q
      obtain ⟨v, hv, o, _⟩ := sw.ok i _ q
      obtain ⟨p, vs, g, rfl, hp, ow, _⟩ := o.lst_inv (p := 0)
      refine ⟨.ref p, hv, en S, s0.en, (WPr.bind h).imp (Same.refl H) fun d q2 v2 H2 sh2 r2 => ?_⟩
      cases r2 with
      | @int k =>
        have q2 : WPr X.K Y W σ H (match ixN ds.length k with
          | some j => .ok (.it i j)
          | none => .stuck) fun lc => ∀ v H1, Same H H1 → AtL σ H1 lc v → Q v H1 := q2
        cases q3 : ixN ds.length k with
        | none => rw [q3] at q2; exact q2.elim
        | some j =>
          rw [q3] at q2
          have hl := ow.length
          obtain ⟨_, hj, _, _⟩ := ixN_seq q3
          have hx : vs[j]? = some vs[j] := List.getElem?_eq_getElem (by omega)
          refine ⟨p, vs, k, vs[j], rfl, rfl, SqL.of (sh2 _ _ hp), ?_, q2 _ H2 sh2 ⟨p, vs, hv, sh2 _ _ hp, hx⟩⟩
          have : ixN vs.length k = some j := by rw [hl]; exact q3
          show (ixN vs.length k).bind (fun j => vs[j]?) = some vs[j]
          rw [this]
          exact hx
      | _ => exact q2.elim
    · exact h.elim
/-! ### methods of a list -/
abbrev MOp := D → List D → Option (D × Bool)
/-- what a method does to a list that is owned -/
def MethOk (K : PySem.W.Frag) (Y : Cl) (r : V → List V → Hp → VK → Prop) (op : MOp) : Prop := ∀ (H : Hp) (v : V) (d : D) (fl : List Addr) (us : List V) (es : List D) (g : List Addr) (d' : D) (keep : Bool) (Q : VK),
  Own K Y H v d fl → fl.Nodup → Owns K Y H us es g → g.Nodup → (∀ p ∈ fl, p ∉ g) → op d es = some (d', keep) →
  (∀ H' fl', Out fl H H' → Own K Y H' v d' fl' → fl'.Nodup → (∀ p ∈ fl', p ∈ fl ∨ p ∈ g) → (keep = true → Longer H H' d d' v) → Q .non H') → r v us H Q
def sMeth (loc : List Slot → Res Lc) (fs : En → Res (List D)) (op : MOp) : List Slot → Res Fl := fun S => loc S >>= fun lc => match getL S lc with
  | some (.lst ds) => fs (en S) >>= fun es => match op (.lst ds) es with
    | some (d', keep) => .ok (.nx (putL keep S d' lc))
    | none => .stuck
  | _ => .stuck
theorem tyV_own {K : PySem.W.Frag} {H : Hp} {v : V} {ds : List D} {fl : List Addr} (o : Own K Y H v (.lst ds) fl) : tyV K "list" v H := by
  obtain ⟨p, vs, g, rfl, hp, _, _⟩ := o.lst_inv (p := 0)
  exact .inl ⟨rfl, vs, SqL.of hp⟩
theorem meth_core {K : PySem.W.Frag} {F H : Hp} {S : List Slot} {σ : St} {r : V → List V → Hp → VK → Prop} {op : MOp} {D' : Ends} {lc : Lc} {es : List D} {us : List V} {g : List Addr} {H1 H2 : Hp} {v : V} {d : D} (hk : MethOk K Y r op) (s : Sat K Y F S σ H) (s1 : Same H H1) (s2 : Same H1 H2)
    (at_ : AtL σ H1 lc v) (ow : Owns K Y H2 us es g) (nd : g.Nodup) (fr : ∀ p ∈ g, H1 p = none) (q : getL S lc = some d) (h : WPs K Y W M F D' σ (match op d es with
        | some (d', keep) => .ok (.nx (putL keep S d' lc))
        | none => .stuck)) : r v us H2 fun _ H3 => D'.nx σ H3 := by
    cases q2 : op d es with
    | none => rw [q2] at h; exact h.elim
    | some dk =>
      obtain ⟨d', keep⟩ := dk
      rw [q2] at h
      obtain ⟨v0, fl, a, b, c, _, cl⟩ := (s.ext s1).openL q
      have ev : v0 = v := a.one at_
      subst ev
      exact hk H2 v0 d fl us es g d' keep (fun _ H3 => D'.nx σ H3) (b.mono s2) c ow nd (fun p hp hg => by
        obtain ⟨o, ho, _⟩ := b.there p hp
        rw [fr p hg] at ho
        cases ho) q2 fun H' fl' o1 o2 o3 o4 o5 => h σ H' (cl keep H' d' fl' (fun p u hp hu => o1 p u hp (s2 p u hu)) o2 o3 (fun p hp => (o4 p hp).imp id (fr p)) fun hk ds p vs e1 e2 e3 => o5 hk ds p vs e1 e2 (s2 _ _ e3)) (Stay.refl M σ)
/-- o.m(..) as a statement -/
theorem s_meth {name : Str} {id : String} {r : V → List V → Hp → VK → Prop} {op : MOp} {loc : List Slot → Res Lc} {fs : En → Res (List D)} {apos cpos : Pos} (slot : PySem.Slot "list" name id) (hty : typeOf (.builtin id) = pure (.type "method_descriptor")) (hm : MtR X id r) (hk : MethOk X.K Y r op) (ho : JLc X Y W o loc) (ha : An X Y W (e :: es) fs)
    (hbase : attributeBase o name X.env (eval o X.env) = eval o X.env := by rfl)
    (hfew : ((backTo cpos (starEach (e :: es) X.env)).all (fun x => !x.1) && (backToKw cpos (keywordEach [] X.env)).all (fun x => x.1.isSome)
      && decide ((e :: es).length + ([] : List Keyword).length + (if ([] : List Keyword).isEmpty then 0 else 1) < 30)) = true := by rfl)
    (hline : (apos.endLine == cpos.line) = true := by rfl) (hs : starEach (e :: es) X.env = (false, eval e X.env) :: starEach es X.env := by rfl) (hplain : (backTo cpos (starEach es X.env)).any (·.1) = false := by rfl)
    (hsw : swapsWith (.Call (.Attribute o name apos) (e :: es) [] cpos) none pos.line X.env = pure false := by rfl) :
    JS X Y W M (.Expr (.Call (.Attribute o name apos) (e :: es) [] cpos) pos) (sMeth loc fs op) :=
  PS.imp (ps_expr (pe_bm F.plainAttrs_list slot hty hm ho ha hbase hfew hline hs hplain) hsw) fun D' σ H ⟨F, S, s, h⟩ => by
    refine ⟨F, S, s, (WPs.bindG h s.same).imp (Same.refl H) fun lc q v H1 s1 at_ => ?_⟩
    split at q
    · rename_i ds qg
      obtain ⟨v0, fl, a, b, c, _, cl⟩ := (s.ext s1).openL qg
      have ev : v0 = v := a.one at_
      subst ev
      exact ⟨tyV_own b, en S, s.en.mono s1, (WPs.bindG (σ := σ) q (s.same.trans s1)).imp (Same.refl H1) fun es q2 us H2 g s2 ow nd fr => meth_core hk s s1 s2 at_ ow nd fr qg q2⟩
    · exact q.elim
theorem s_meth0 {name : Str} {id : String} {r : V → List V → Hp → VK → Prop} {op : MOp} {loc : List Slot → Res Lc} {apos cpos : Pos} (slot : PySem.Slot "list" name id) (hty : typeOf (.builtin id) = pure (.type "method_descriptor")) (hm : MtR X id r) (hk : MethOk X.K Y r op) (ho : JLc X Y W o loc)
    (hbase : attributeBase o name X.env (eval o X.env) = eval o X.env := by rfl) (hline : (apos.endLine == cpos.line) = true := by rfl)
    (hsw : swapsWith (.Call (.Attribute o name apos) [] [] cpos) none pos.line X.env = pure false := by rfl) :
    JS X Y W M (.Expr (.Call (.Attribute o name apos) [] [] cpos) pos) (sMeth loc aNil op) :=
  PS.imp (ps_expr (pe_bm0 F.plainAttrs_list slot hty hm ho hbase hline) hsw) fun D' σ H ⟨F, S, s, h⟩ => by
    refine ⟨F, S, s, (WPs.bindG h s.same).imp (Same.refl H) fun lc q v H1 s1 at_ => ?_⟩
    split at q
    · rename_i ds qg
      obtain ⟨v0, fl, a, b, c, _, cl⟩ := (s.ext s1).openL qg
      have ev : v0 = v := a.one at_
      subst ev
      exact ⟨tyV_own b, meth_core (es := []) hk s s1 (Same.refl H1) at_ .nil .nil (fun _ z => nomatch z) qg q⟩
    · exact q.elim
end
section
variable {K : PySem.W.Frag} {Y : Cl}
theorem out_upd {H : Hp} {p : Addr} {o : HO} {fl : List Addr} (hp : p ∈ fl) : Out fl H (upd H p o) := fun q u hq e => by
  rw [upd_ne (show q ≠ p from fun z => hq (by rw [z]; exact hp))]
  exact e
theorem Owns.upd {H : Hp} {p : Addr} {o o' : HO} {vs : List V} {ds : List D} {g : List Addr} (h : Owns K Y H vs ds g) (hp : H p = some o) (hf : fixO o = false) (hn : p ∉ g) : Owns K Y (upd H p o') vs ds g := h.frame (fix_upd hp hf) fun q hq => upd_ne fun z => hn (z ▸ hq)
def opApp : MOp := fun d es => match d, es with
  | .lst ds, [e] => if szOk (ds.length + 1) = true then some (.lst (ds ++ [e]), true) else none
  | _, _ => none
theorem mk_app : MethOk K Y rAppend opApp := by
  intro H v d fl us es g d' keep Q o nd ow ndg dis he hQ
  unfold opApp at he
  split at he
  · rename_i ds e
    split at he
    · rename_i hz
      cases he
      obtain ⟨p, vs, f, rfl, hp, os, rfl⟩ := o.lst_inv (p := 0)
      have hl := os.length
      have nd' := List.nodup_cons.mp nd
      cases ow with
      | cons o1 r1 =>
        cases r1
        rename_i u f1
        have dis' : ∀ q ∈ p :: f, q ∉ f1 := fun q hq hm => dis q hq (by simp [hm])
        have hpf1 : p ∉ f1 := dis' p List.mem_cons_self
        refine ⟨p, vs, u, rfl, rfl, hp, ?_, hQ _ (p :: (f ++ f1)) (out_upd List.mem_cons_self) (.lst upd_same ?_) ?_ ?_ ?_⟩
        · have := szOk_lt (n := ds.length) (by unfold szOk at hz ⊢; simp at hz ⊢; omega)
          omega
        · exact Owns.append (os.upd hp rfl nd'.1) ((Owns.one o1).upd hp rfl hpf1)
        · refine List.nodup_cons.mpr ⟨fun hm => (List.mem_append.mp hm).elim nd'.1 hpf1, List.nodup_append.mpr ⟨nd'.2, by simpa using ndg, fun a ha b hb e => ?_⟩⟩
          subst e
          exact dis' a (List.mem_cons_of_mem _ ha) hb
        · intro q hq
          rcases List.mem_cons.mp hq with rfl | hq
          · exact .inl List.mem_cons_self
          · rcases List.mem_append.mp hq with hq | hq
            · exact .inl (List.mem_cons_of_mem _ hq)
            · exact .inr (by simp [hq])
        · intro _ ds0 p0 vs0 e1 e2 e3
          cases e1
          cases e2
          rw [hp] at e3
          cases e3
          refine ⟨_, _, rfl, upd_same, fun j x hj hx => ⟨by simp; omega, ?_⟩⟩
          rw [List.getElem?_append_left (List.getElem?_eq_some_iff.mp hx).1]
          exact hx
    · cases he
  · cases he
/-- whatever gives a list of some of the old items and the new ones -/
theorem mk_any {H : Hp} {p : Addr} {vs vs' : List V} {ds ds' : List D} {f g fp' : List Addr} {Q : VK} (hp : H p = some (.lst vs)) (nd : (p :: f).Nodup) (ow : Owns K Y H vs' ds' fp') (ndp : fp'.Nodup) (sub : ∀ q ∈ fp', q ∈ f ∨ (q ∈ g ∧ q ≠ p)) 
    (hQ : ∀ H' fl', Out (p :: f) H H' → Own K Y H' (.ref p) (.lst ds') fl' → fl'.Nodup → (∀ q ∈ fl', q ∈ p :: f ∨ q ∈ g) → (false = true → Longer H H' (.lst ds) (.lst ds') (.ref p)) → Q .non H') : Q .non (upd H p (.lst vs')) := by
  have nd' := List.nodup_cons.mp nd
  have hpn : p ∉ fp' := fun hm => (sub p hm).elim nd'.1 (fun z => z.2 rfl)
  refine hQ _ (p :: fp') (out_upd List.mem_cons_self) (.lst upd_same (ow.upd hp rfl hpn)) (List.nodup_cons.mpr ⟨hpn, ndp⟩) (fun q hq => ?_) (fun z => nomatch z)
  rcases List.mem_cons.mp hq with rfl | hq
  · exact .inl List.mem_cons_self
  · rcases sub q hq with h | h
    · exact .inl (List.mem_cons_of_mem _ h)
    · exact .inr h.1
def opIns : MOp := fun d es => match d, es with
  | .lst ds, [.int i, e] => if (szOk (ds.length + 1) && decide (0 ≤ i) && decide (i < 2 ^ 63)) = true then some (.lst (ds.take i.toNat ++ [e] ++ ds.drop i.toNat), false) else none
  | _, _ => none
def rInsert : V → List V → Hp → VK → Prop := fun x vs H Q => ∃ (l : Addr) (xs : List V) (i : Int) (y : V), x = .ref l ∧ vs = [.int i, y] ∧ H l = some (.lst xs) ∧ xs.length < sizeLine ∧ 0 ≤ i ∧ i < 2 ^ 63 ∧ Q .non (upd H l (.lst (xs.take i.toNat ++ [y] ++ xs.drop i.toNat)))
theorem mk_ins : MethOk K Y rInsert opIns := by
  intro H v d fl us es g d' keep Q o nd ow ndg dis he hQ
  unfold opIns at he
  split at he
  · rename_i ds i e
    split at he
    · rename_i hz
      cases he
      simp only [Bool.and_eq_true, decide_eq_true_eq] at hz
      obtain ⟨p, vs, f, rfl, hp, os, rfl⟩ := o.lst_inv (p := 0)
      have hl := os.length
      have nd' := List.nodup_cons.mp nd
      cases ow with
      | cons o1 r1 =>
        cases r1 with
        | cons o2 r2 =>
          cases r2
          rename_i u1 f1 u2 f2
          cases o1 with
          | pur _ r =>
            cases r
            have dis' : ∀ q ∈ p :: f, q ∉ f2 := fun q hq hm => dis q hq (by simp [hm])
            have nd2 : f2.Nodup := by simpa using ndg
            obtain ⟨g1, g2, e1, t1, t2⟩ := os.take_drop i.toNat
            subst e1
            have ndg := List.nodup_append.mp nd'.2
            refine ⟨p, vs, i, u2, rfl, rfl, hp, ?_, hz.1.2, hz.2, mk_any (fp' := (g1 ++ f2) ++ g2) (g := _) hp nd (Owns.append (Owns.append t1 (Owns.one o2)) t2) ?_ ?_ hQ⟩
            · have := szOk_lt (n := ds.length) (by have := hz.1.1; unfold szOk at this ⊢; simp at this ⊢; omega)
              omega
            · rw [List.append_assoc]
              refine List.nodup_append.mpr ⟨ndg.1, List.nodup_append.mpr ⟨nd2, ndg.2.1, fun a ha b hb e => ?_⟩, fun a ha b hb e => ?_⟩
              · subst e; exact dis' a (by simp [hb]) ha
              · subst e
                rcases List.mem_append.mp hb with hb | hb
                · exact dis' a (by simp [ha]) hb
                · exact ndg.2.2 a ha a hb rfl
            · intro q hq
              rcases List.mem_append.mp hq with hq | hq
              · rcases List.mem_append.mp hq with hq | hq
                · exact .inl (by simp [hq])
                · exact .inr ⟨by simp [hq], fun z => dis' p List.mem_cons_self (z ▸ hq)⟩
              · exact .inl (by simp [hq])
    · cases he
  · cases he
def opRev : MOp := fun d es => match d, es with
  | .lst ds, [] => some (.lst ds.reverse, false)
  | _, _ => none
theorem mk_rev : MethOk K Y rReverse opRev := by
  intro H v d fl us es g d' keep Q o nd ow ndg dis he hQ
  unfold opRev at he
  split at he
  · rename_i ds
    cases he
    obtain ⟨p, vs, f, rfl, hp, os, rfl⟩ := o.lst_inv (p := 0)
    cases ow
    obtain ⟨f', h1, h2⟩ := os.reverse
    have nd' := List.nodup_cons.mp nd
    exact ⟨p, vs, rfl, rfl, hp, mk_any hp nd h2 (h1.nodup_iff.mpr nd'.2) (fun q hq => .inl (h1.mem_iff.mp hq)) hQ⟩
  · cases he
def opClr : MOp := fun d es => match d, es with
  | .lst ds, [] => some (.lst [], false)
  | _, _ => none
theorem mk_clr : MethOk K Y rClear opClr := by
  intro H v d fl us es g d' keep Q o nd ow ndg dis he hQ
  unfold opClr at he
  split at he
  · rename_i ds
    cases he
    obtain ⟨p, vs, f, rfl, hp, os, rfl⟩ := o.lst_inv (p := 0)
    cases ow
    exact ⟨p, vs, rfl, rfl, hp, mk_any hp nd .nil .nil (fun q z => nomatch z) hQ⟩
  · cases he
theorem Owns.erase {H : Hp} {vs : List V} {ds : List D} {f : List Addr} (os : Owns K Y H vs ds f) (nd : f.Nodup) (j : Nat) : ∃ f', f'.Nodup ∧ (∀ q ∈ f', q ∈ f) ∧ Owns K Y H (vs.take j ++ vs.drop (j + 1)) (ds.take j ++ ds.drop (j + 1)) f' := by
  obtain ⟨g1, g2, e1, t1, t2⟩ := os.take_drop j
  obtain ⟨g3, g4, e2, t3, t4⟩ := t2.take_drop 1
  subst e2 e1
  rw [List.drop_drop, List.drop_drop] at t4
  have n1 := List.nodup_append.mp nd
  have n2 := List.nodup_append.mp n1.2.1
  refine ⟨g1 ++ g4, List.nodup_append.mpr ⟨n1.1, n2.2.1, fun a ha b hb e => ?_⟩, fun q hq => ?_, Owns.append t1 t4⟩
  · subst e; exact n1.2.2 a ha a (by simp [hb]) rfl
  · rcases List.mem_append.mp hq with hq | hq <;> simp [hq]
/-- remove(k): whole numbers -/
def intsOf : List D → Option (List Int)
  | [] => some []
  | .int i :: r => (intsOf r).map (i :: ·)
  | _ :: _ => none
theorem intsOf_map : ∀ {ds : List D} {ns : List Int}, intsOf ds = some ns → ds = ns.map D.int
  | [], ns, h => by cases h; rfl
  | d :: ds, ns, h => by
    unfold intsOf at h
    split at h
    · rename_i e; cases e
    · rename_i e
      cases e
      obtain ⟨ms, a, rfl⟩ := Option.map_eq_some_iff.mp h
      rw [intsOf_map a]
      rfl
    · cases h
@[simp] theorem intsOf_ints : ∀ (ns : List Int), intsOf (ns.map D.int) = some ns
  | [] => rfl
  | n :: ns => by simp [intsOf, intsOf_ints ns]
def opRem : MOp := fun d es => match d, es with
  | .lst ds, [.int k] => match intsOf ds with
    | some ns => if k ∈ ns then some (.lst ((ns.erase k).map D.int), false) else none
    | none => none
  | _, _ => none
theorem erase_idx (k : Int) : ∀ {ns : List Int}, k ∈ ns → ∃ j, ns[j]? = some k ∧ (∀ m : Nat, m < j → ns[m]? ≠ some k) ∧ ns.erase k = ns.eraseIdx j
  | n :: ns, h => by
    by_cases e : n = k
    · subst e
      exact ⟨0, rfl, fun m hm => by omega, by simp⟩
    · rcases List.mem_cons.mp h with z | z
      · exact absurd z.symm e
      · obtain ⟨j, a, b, c⟩ := erase_idx k z
        refine ⟨j + 1, a, fun m hm => ?_, ?_⟩
        · cases m with
          | zero => simpa using e
          | succ m => exact b m (by omega)
        · rw [List.erase_cons_tail (by simpa using e), c]
          rfl
theorem mk_rem : MethOk K Y rRemI opRem := by
  intro H v d fl us es g d' keep Q o nd ow ndg dis he hQ
  unfold opRem at he
  split at he
  · rename_i ds k
    split at he
    · rename_i ns hns
      split at he
      · rename_i hm
        cases he
        have e0 := intsOf_map hns
        subst e0
        obtain ⟨p, vs, f, rfl, hp, os, rfl⟩ := o.lst_inv (p := 0)
        have ev := os.reps.ints
        subst ev
        obtain ⟨j, h1, h2, h3⟩ := erase_idx k hm
        cases ow with
        | cons o1 r1 =>
          cases r1
          cases o1 with
          | pur _ r =>
            cases r
            refine ⟨p, ns, k, j, rfl, rfl, hp, h1, h2, ?_⟩
            rw [h3] at hQ
            exact mk_any (fp' := []) hp nd (Owns.pur (.of_ints _) (pureDs_iff.mpr fun d hd => by obtain ⟨i, _, rfl⟩ := List.mem_map.mp hd; exact pureD_int i)) .nil (fun q z => nomatch z) hQ
      · cases he
    · cases he
  · cases he
end
end Ow
end
section
set_option linter.all false
set_option maxRecDepth 100000
set_option maxHeartbeats 2000000
/-! Ow15: in, index, count, sorted, sum, min, max; dicts; items set; names that share. -/
namespace Ow
open PySem L2 PySem.Spec
def ilD (d : D) : Option (List Int) := match d with
  | .lst ds => intsOf ds
  | .scr ns => some ns
  | _ => none
section
variable {K : PySem.W.Frag} {Y : Cl} {H : Hp}
theorem ilD_rep {v : V} {d : D} {ns : List Int} (r : Rep K Y H v d) (e : ilD d = some ns) : ∃ p, v = .ref p ∧ SqL K H p (ns.map V.int) := by
  cases r with
  | lst h r =>
    have := intsOf_map e
    subst this
    rw [r.ints] at h
    exact ⟨_, rfl, SqL.of h⟩
  | scr h => cases e; exact ⟨_, rfl, h⟩
  | _ => cases e
theorem own_ints {p : Addr} {ns : List Int} (h : H p = none) : Own K Y (upd H p (.lst (ns.map V.int))) (.ref p) (.lst (ns.map D.int)) [p] :=
  .lst (fp := []) upd_same (Owns.pur (.of_ints _) (pureDs_iff.mpr fun d hd => by obtain ⟨i, _, rfl⟩ := List.mem_map.mp hd; exact pureD_int i))
end
def lsP : D → List PyData
  | .lst ds => toPs ds
  | .scr ns => ns.map .int
  | _ => []
def isL : D → Bool
  | .lst _ => true
  | .scr _ => true
  | _ => false
theorem toP_list {d : D} (h : isL d = true) : toP d = .list (lsP d) := by
  cases d <;> first | (cases h; done) | (simp only [toP, lsP])
def oIn : D → D → Res D := fun d e => if (shp d && (isL e && shp e)) = true then .ok (.bl ((lsP e).any fun z => PyData.eqv z (toP d))) else .stuck
def oNin : D → D → Res D := fun d e => if (shp d && (isL e && shp e)) = true then .ok (.bl (!(lsP e).any fun z => PyData.eqv z (toP d))) else .stuck
/-- the first place of an equal one -/
def idxOf (ps : List PyData) (x : PyData) : Option Nat := ps.findIdx? fun z => PyData.eqv z x
def oIndex : D → D → Res D := fun e d => if (shp d && (isL e && shp e)) = true then (match idxOf (lsP e) (toP d) with
  | some j => .ok (.int (j : Nat))
  | none => .stuck) else .stuck
def oCount : D → D → Res D := fun e d => match ilD e, d with
  | some ns, .int k => .ok (.int (ns.count k : Nat))
  | _, _ => .stuck
def oSort : D → Res D := fun d => match ilD d with
  | some ns => .ok (.lst ((ns.mergeSort fun a b => decide (a ≤ b)).map D.int))
  | none => .stuck
def oSum : D → Res D := fun d => match ilD d with
  | some ns => .ok (.int ns.sum)
  | none => .stuck
def minI : List Int → Int
  | [] => 0
  | [x] => x
  | x :: xs => if x ≤ minI xs then x else minI xs
def maxI : List Int → Int
  | [] => 0
  | [x] => x
  | x :: xs => if maxI xs ≤ x then x else maxI xs
def oMinL : D → Res D := fun d => match ilD d with
  | some (n :: ns) => .ok (.int (minI (n :: ns)))
  | _ => .stuck
def oMaxL : D → Res D := fun d => match ilD d with
  | some (n :: ns) => .ok (.int (maxI (n :: ns)))
  | _ => .stuck
theorem minI_ok : ∀ (ns : List Int), ns ≠ [] → minI ns ∈ ns ∧ ∀ y ∈ ns, minI ns ≤ y
  | [x], _ => ⟨List.mem_singleton.mpr rfl, fun y hy => by cases List.mem_singleton.mp hy; exact Int.le_refl _⟩
  | x :: y :: r, _ => by
    obtain ⟨a, b⟩ := minI_ok (y :: r) (by simp)
    show (if x ≤ minI (y :: r) then x else minI (y :: r)) ∈ _ ∧ _
    split
    · rename_i h
      refine ⟨List.mem_cons_self, fun z hz => ?_⟩
      show (if x ≤ minI (y :: r) then x else minI (y :: r)) ≤ z
      rw [if_pos h]
      rcases List.mem_cons.mp hz with rfl | hz
      · exact Int.le_refl _
      · exact Int.le_trans h (b z hz)
    · rename_i h
      refine ⟨List.mem_cons_of_mem _ a, fun z hz => ?_⟩
      show (if x ≤ minI (y :: r) then x else minI (y :: r)) ≤ z
      rw [if_neg h]
      rcases List.mem_cons.mp hz with rfl | hz
      · omega
      · exact b z hz
theorem maxI_ok : ∀ (ns : List Int), ns ≠ [] → maxI ns ∈ ns ∧ ∀ y ∈ ns, y ≤ maxI ns
  | [x], _ => ⟨List.mem_singleton.mpr rfl, fun y hy => by cases List.mem_singleton.mp hy; exact Int.le_refl _⟩
  | x :: y :: r, _ => by
    obtain ⟨a, b⟩ := maxI_ok (y :: r) (by simp)
    show (if maxI (y :: r) ≤ x then x else maxI (y :: r)) ∈ _ ∧ _
    split
    · rename_i h
      refine ⟨List.mem_cons_self, fun z hz => ?_⟩
      show z ≤ (if maxI (y :: r) ≤ x then x else maxI (y :: r))
      rw [if_pos h]
      rcases List.mem_cons.mp hz with rfl | hz
      · exact Int.le_refl _
      · exact Int.le_trans (b z hz) h
    · rename_i h
      refine ⟨List.mem_cons_of_mem _ a, fun z hz => ?_⟩
      show z ≤ (if maxI (y :: r) ≤ x then x else maxI (y :: r))
      rw [if_neg h]
      rcases List.mem_cons.mp hz with rfl | hz
      · omega
      · exact b z hz
section
variable {X : Cx} {Y : Cl} {W : Wh} {k : Kd} {a b o e : Expr} {fa fb : En → Res D} {pos p : Pos}
theorem calm2_ite {f : D → D → Res D} (h : ∀ d e, (∃ z, f d e = .ok z) ∨ f d e = .stuck) : Calm2 f := fun d e x q => by
  rcases h d e with ⟨z, hz⟩ | hz <;> rw [hz] at q <;> cases q
theorem calm1_ite {f : D → Res D} (h : ∀ d, (∃ z, f d = .ok z) ∨ f d = .stuck) : Calm1 f := fun d x q => by
  rcases h d with ⟨z, hz⟩ | hz <;> rw [hz] at q <;> cases q
theorem oIn_calm : Calm2 oIn := calm2_ite fun d e => by unfold oIn; split <;> simp
theorem oNin_calm : Calm2 oNin := calm2_ite fun d e => by unfold oNin; split <;> simp
theorem Room.units65 {n : Nat} {A : Around} (r : Room n A) : A.units + 65 < cLine := by have := r.un; omega
theorem dp_l {K : PySem.W.Frag} {H : Hp} {v : V} {d : D} (r : Rep K Y H v d) (h : isL d = true) (hs : shp d = true) : Dp K H v (.list (lsP d)) ∧ SeqAt.shaped (.list (lsP d)) = true := by
  have := r.dp (shp_lay hs)
  rw [toP_list h] at this
  refine ⟨this, ?_⟩
  unfold shp at hs
  rw [toP_list h] at hs
  exact hs
theorem op2_in : Op2 X.K Y k (rInD X.K) oIn := by
  intro H x y d e Q rx ry ⟨z, hz, po⟩
  unfold oIn at hz
  split at hz
  · rename_i h
    cases hz
    simp only [Bool.and_eq_true] at h
    obtain ⟨p1, p2⟩ := dp_l ry h.2.1 h.2.2
    exact ⟨_, _, rx.dp (shp_lay h.1), p1, h.1, p2, po.pure (Same.refl H) .bl (pureD_bl _)⟩
  · cases hz
theorem op2_nin : Op2 X.K Y k (rNotInD X.K) oNin := by
  intro H x y d e Q rx ry ⟨z, hz, po⟩
  unfold oNin at hz
  split at hz
  · rename_i h
    cases hz
    simp only [Bool.and_eq_true] at h
    obtain ⟨p1, p2⟩ := dp_l ry h.2.1 h.2.2
    exact ⟨_, _, rx.dp (shp_lay h.1), p1, h.1, p2, po.pure (Same.refl H) .bl (pureD_bl _)⟩
  · cases hz
theorem j_in {n : Nat} (hr : Room n X.A) (ha : J X Y W .r a fa) (hb : J X Y W .r b fb) (hm : behindInMarks .In b = false := by rfl) : J X Y W k (.Compare a [.In] [b] pos) (x2 oIn fa fb) := j_cmp (op_inD (Room.units65 hr)) op2_in oIn_calm ha hb hm
theorem t_in {n : Nat} (hr : Room n X.A) (ha : J X Y W .r a fa) (hb : J X Y W .r b fb) (hm : behindInMarks .In b = false := by rfl) : T X Y W (.Compare a [.In] [b] pos) (tBl (x2 oIn fa fb)) := t_cmp (op_inD (Room.units65 hr)) op2_in oIn_calm ha hb hm
theorem j_nin {n : Nat} (hr : Room n X.A) (ha : J X Y W .r a fa) (hb : J X Y W .r b fb) (hm : behindInMarks .NotIn b = false := by rfl) : J X Y W k (.Compare a [.NotIn] [b] pos) (x2 oNin fa fb) := j_cmp (op_notInD (Room.units65 hr)) op2_nin oNin_calm ha hb hm
theorem t_nin {n : Nat} (hr : Room n X.A) (ha : J X Y W .r a fa) (hb : J X Y W .r b fb) (hm : behindInMarks .NotIn b = false := by rfl) : T X Y W (.Compare a [.NotIn] [b] pos) (tBl (x2 oNin fa fb)) := t_cmp (op_notInD (Room.units65 hr)) op2_nin oNin_calm ha hb hm
/-! methods that read -/
def xL (f : En → Res D) : En → Res D := fun en => f en >>= fun d => if isL d = true then .ok d else .stuck
theorem j_m1 {name : Str} {id : String} {r : V → List V → Hp → VK → Prop} {f : D → D → Res D} {apos cpos : Pos} (slot : PySem.Slot "list" name id) (hty : typeOf (.builtin id) = pure (.type "method_descriptor")) (hm : MtR X id r) (hcm : Calm2 f)
    (hr : ∀ H x y d e Q, Rep X.K Y H x d → Rep X.K Y H y e → (∃ z, f d e = .ok z ∧ Po X.K Y k z H Q) → r x [y] H Q) (ho : J X Y W .r o fa) (ha : J X Y W .r e fb)
    (hbase : attributeBase o name X.env (eval o X.env) = eval o X.env := by rfl)
    (hfew : ((backTo cpos (starEach (e :: []) X.env)).all (fun x => !x.1) && (backToKw cpos (keywordEach [] X.env)).all (fun x => x.1.isSome)
      && decide ((e :: []).length + ([] : List Keyword).length + (if ([] : List Keyword).isEmpty then 0 else 1) < 30)) = true := by rfl)
    (hline : (apos.endLine == cpos.line) = true := by rfl) (hs : starEach (e :: []) X.env = (false, eval e X.env) :: starEach [] X.env := by rfl) (hplain : (backTo cpos (starEach [] X.env)).any (·.1) = false := by rfl) :
    J X Y W k (.Call (.Attribute o name apos) [e] [] cpos) (x2 f (xL fa) fb) :=
  PE.imp (pe_bm F.plainAttrs_list slot hty hm ho (pa_cons ha pa_nil hs) hbase hfew hline hs hplain) fun σ H Q ⟨en, he, h⟩ => ⟨en, he, by
    have h' : WPr X.K Y W σ H (fa en >>= fun d => (if isL d = true then Res.ok d else .stuck) >>= fun d => fb en >>= fun e => f d e) fun z => Po X.K Y k z H Q := by
      unfold x2 xL at h
      cases q : fa en with
      | ok d => rw [q] at h; exact h
      | exc x => rw [q] at h; exact h
      | stuck => rw [q] at h; exact h
    refine (WPr.bind h').imp (Same.refl H) fun d q v H1 s1 r1 => ?_
    by_cases hd : isL d = true
    · rw [if_pos hd] at q
      have tv : tyV X.K "list" v H1 := by
        cases r1 with
        | lst h _ => exact .inl ⟨rfl, _, SqL.of h⟩
        | scr h => exact .inl ⟨rfl, _, h⟩
        | _ => cases hd
      refine ⟨tv, en, he.mono s1, (WPr.bind (g := fun e => f d e) q).imp s1 fun e2 q2 u H2 s2 r2 => ?_⟩
      obtain ⟨z, ez, pz⟩ := WPr.calm (hcm d e2) q2
      exact hr H2 v u d e2 Q (r1.mono s2) r2 ⟨z, ez, pz.mono (s1.trans s2)⟩
    · rw [if_neg hd] at q
      exact q.elim⟩
theorem j_index {n : Nat} {apos cpos : Pos} (hrm : Room n X.A) (ho : J X Y W .r o fa) (ha : J X Y W .r e fb)
    (hbase : attributeBase o "index" X.env (eval o X.env) = eval o X.env := by rfl)
    (hfew : ((backTo cpos (starEach (e :: []) X.env)).all (fun x => !x.1) && (backToKw cpos (keywordEach [] X.env)).all (fun x => x.1.isSome)
      && decide ((e :: []).length + ([] : List Keyword).length + (if ([] : List Keyword).isEmpty then 0 else 1) < 30)) = true := by rfl)
    (hline : (apos.endLine == cpos.line) = true := by rfl) (hs : starEach (e :: []) X.env = (false, eval e X.env) :: starEach [] X.env := by rfl) (hplain : (backTo cpos (starEach [] X.env)).any (·.1) = false := by rfl) :
    J X Y W k (.Call (.Attribute o "index" apos) [e] [] cpos) (x2 oIndex (xL fa) fb) :=
  j_m1 F.slot_list_index (by with_unfolding_all rfl) (mt_indexD (Room.units65 hrm)) (calm2_ite fun d e => by unfold oIndex; split <;> (try split) <;> simp) (fun H x y d e Q rx ry ⟨z, hz, po⟩ => by
    unfold oIndex at hz
    split at hz
    · rename_i h
      simp only [Bool.and_eq_true] at h
      split at hz
      · rename_i j hj
        cases hz
        obtain ⟨p1, p2⟩ := dp_l rx h.2.1 h.2.2
        have hj' := List.findIdx?_eq_some_iff_getElem.mp hj
        obtain ⟨hlt, ht, hno⟩ := hj'
        cases rx with
        | lst hl rr => exact ⟨_, _, _, _, j, _, rfl, rfl, p1, ry.dp (shp_lay h.1), p2, h.1, List.getElem?_eq_getElem hlt, ht, fun m z hm hz => by
            have := hno m hm
            rw [(List.getElem?_eq_some_iff.mp hz).2] at this
            simpa using this, po.pure (Same.refl H) .int (pureD_int _)⟩
        | scr hl => exact ⟨_, _, _, _, j, _, rfl, rfl, p1, ry.dp (shp_lay h.1), p2, h.1, List.getElem?_eq_getElem hlt, ht, fun m z hm hz => by
            have := hno m hm
            rw [(List.getElem?_eq_some_iff.mp hz).2] at this
            simpa using this, po.pure (Same.refl H) .int (pureD_int _)⟩
        | _ => cases h.2.1
      · cases hz
    · cases hz) ho ha hbase hfew hline hs hplain
theorem j_count {apos cpos : Pos} (ho : J X Y W .r o fa) (ha : J X Y W .r e fb)
    (hbase : attributeBase o "count" X.env (eval o X.env) = eval o X.env := by rfl)
    (hfew : ((backTo cpos (starEach (e :: []) X.env)).all (fun x => !x.1) && (backToKw cpos (keywordEach [] X.env)).all (fun x => x.1.isSome)
      && decide ((e :: []).length + ([] : List Keyword).length + (if ([] : List Keyword).isEmpty then 0 else 1) < 30)) = true := by rfl)
    (hline : (apos.endLine == cpos.line) = true := by rfl) (hs : starEach (e :: []) X.env = (false, eval e X.env) :: starEach [] X.env := by rfl) (hplain : (backTo cpos (starEach [] X.env)).any (·.1) = false := by rfl) :
    J X Y W k (.Call (.Attribute o "count" apos) [e] [] cpos) (x2 oCount (xL fa) fb) :=
  j_m1 F.slot_list_count (by with_unfolding_all rfl) mt_lcount (calm2_ite fun d e => by unfold oCount; split <;> simp) (fun H x y d e Q rx ry ⟨z, hz, po⟩ => by
    unfold oCount at hz
    split at hz
    · rename_i ns kk hn _
      cases hz
      obtain ⟨p, rfl, hs⟩ := ilD_rep rx hn
      cases ry
      exact ⟨p, ns, kk, rfl, rfl, hs, po.pure (Same.refl H) .int (pureD_int _)⟩
    · cases hz) ho ha hbase hfew hline hs hplain
/-! builtins of a list -/
theorem jn_sort (hg : Gl X "sorted") (hm : X.mg "sorted" = none) (ha : J X Y W .r a fa) (hs : starEach (a :: []) X.env = (false, eval a X.env) :: starEach [] X.env := by rfl) (hpl : (backTo pos (starEach [] X.env)).any (·.1) = false := by rfl) : J X Y W .n (.Call (.Name "sorted" p) [a] [] pos) (x1 oSort fa) :=
  j_cb1 cr_sortedI (fun H v d Q r ⟨z, hz, po⟩ => by
    unfold oSort at hz
    split at hz
    · rename_i ns hn
      cases hz
      obtain ⟨q, rfl, hq⟩ := ilD_rep r hn
      refine ⟨q, ns, rfl, hq, fun ns' l h1 h2 h3 => ?_⟩
      have e : ns' = ns.mergeSort fun a b => decide (a ≤ b) := by
        refine List.Perm.eq_of_pairwise (le := fun a b => a ≤ b) (fun a b _ _ x y => Int.le_antisymm x y) h2 ?_ (h1.trans (List.mergeSort_perm ns _).symm)
        have := List.pairwise_mergeSort (le := fun a b : Int => decide (a ≤ b)) (fun a b c h1 h2 => by simp at *; omega) (fun a b => by simp; omega) ns
        exact this.imp (by simp)
      subst e
      exact po _ _ [l] (same_new h3) (own_ints h3) (List.nodup_cons.mpr ⟨List.not_mem_nil, .nil⟩) (fun p hp => by cases List.mem_singleton.mp hp; exact h3)
    · cases hz) (calm1_ite fun d => by unfold oSort; split <;> simp) hg hm (by decide +kernel) ha (by decide) (by decide) hs hpl
theorem j_sum (hc : X.calm = true) (hg : Gl X "sum") (hm : X.mg "sum" = none) (ha : J X Y W .r a fa) (hs : starEach (a :: []) X.env = (false, eval a X.env) :: starEach [] X.env := by rfl) (hpl : (backTo pos (starEach [] X.env)).any (·.1) = false := by rfl) : J X Y W k (.Call (.Name "sum" p) [a] [] pos) (x1 oSum fa) :=
  j_cb1 (cr_sum hc) (fun H v d Q r ⟨z, hz, po⟩ => by
    unfold oSum at hz
    split at hz
    · rename_i ns hn
      cases hz
      obtain ⟨q, rfl, hq⟩ := ilD_rep r hn
      exact ⟨q, ns, rfl, hq, po.pure (Same.refl H) .int (pureD_int _)⟩
    · cases hz) (calm1_ite fun d => by unfold oSum; split <;> simp) hg hm (by decide +kernel) ha (by decide) (by decide) hs hpl
theorem j_minL (hc : X.calm = true) (hg : Gl X "min") (hm : X.mg "min" = none) (ha : J X Y W .r a fa) (hs : starEach (a :: []) X.env = (false, eval a X.env) :: starEach [] X.env := by rfl) (hpl : (backTo pos (starEach [] X.env)).any (·.1) = false := by rfl) : J X Y W k (.Call (.Name "min" p) [a] [] pos) (x1 oMinL fa) :=
  j_cb1 (cr_min hc) (fun H v d Q r ⟨z, hz, po⟩ => by
    unfold oMinL at hz
    split at hz
    · rename_i n ns hn
      cases hz
      obtain ⟨q, rfl, hq⟩ := ilD_rep r hn
      refine ⟨q, _, rfl, hq, by simp, fun m h1 h2 => ?_⟩
      obtain ⟨h3, h4⟩ := minI_ok (n :: ns) (by simp)
      rw [Int.le_antisymm (h2 _ h3) (h4 _ h1)]
      exact po.pure (Same.refl H) .int (pureD_int _)
    · cases hz) (calm1_ite fun d => by unfold oMinL; split <;> simp) hg hm (by decide +kernel) ha (by decide) (by decide) hs hpl
theorem j_maxL (hc : X.calm = true) (hg : Gl X "max") (hm : X.mg "max" = none) (ha : J X Y W .r a fa) (hs : starEach (a :: []) X.env = (false, eval a X.env) :: starEach [] X.env := by rfl) (hpl : (backTo pos (starEach [] X.env)).any (·.1) = false := by rfl) : J X Y W k (.Call (.Name "max" p) [a] [] pos) (x1 oMaxL fa) :=
  j_cb1 (cr_max hc) (fun H v d Q r ⟨z, hz, po⟩ => by
    unfold oMaxL at hz
    split at hz
    · rename_i n ns hn
      cases hz
      obtain ⟨q, rfl, hq⟩ := ilD_rep r hn
      refine ⟨q, _, rfl, hq, by simp, fun m h1 h2 => ?_⟩
      obtain ⟨h3, h4⟩ := maxI_ok (n :: ns) (by simp)
      rw [Int.le_antisymm (h4 _ h1) (h2 _ h3)]
      exact po.pure (Same.refl H) .int (pureD_int _)
    · cases hz) (calm1_ite fun d => by unfold oMaxL; split <;> simp) hg hm (by decide +kernel) ha (by decide) (by decide) hs hpl
end
end Ow
end
section
set_option linter.all false
set_option maxRecDepth 100000
set_option maxHeartbeats 2000000
/-! Ow16: dicts. -/
namespace Ow
open PySem L2 PySem.Spec
section
variable {κ : Type} [DecidableEq κ]
def getK (kvs : List (κ × D)) (k : κ) : Option D := (kvs.find? fun kv => decide (kv.1 = k)).map (·.2)
def putD (kvs : List (κ × D)) (k : κ) (d : D) : List (κ × D) :=
  if (kvs.any fun kv => decide (kv.1 = k)) = true then kvs.map (fun kv => if kv.1 = k then (kv.1, d) else kv) else kvs ++ [(k, d)]
end
section
variable {K : PySem.W.Frag} {Y : Cl} {H : Hp}
theorem inl_inj : ∀ {a b : List Int}, (a.map Sum.inl : List Key) = b.map Sum.inl → a = b
  | [], [], _ => rfl
  | [], _ :: _, h => by cases h
  | _ :: _, [], h => by cases h
  | x :: a, y :: b, h => by
    rw [List.map_cons, List.map_cons] at h
    have h1 := (List.cons.inj h).1
    have h2 := inl_inj (List.cons.inj h).2
    rw [Sum.inl.inj h1, h2]
theorem RepI.get {k : Int} : ∀ {vs : List (Key × V)} {ds : List (Int × D)}, RepI K Y H vs ds → (getK ds k = none ∧ valV vs (.inl k) = none) ∨ ∃ v d, getK ds k = some d ∧ valV vs (.inl k) = some v ∧ Rep K Y H v d ∧ pureD d = true
  | _, _, .nil => .inl ⟨rfl, rfl⟩
  | _, _, .cons (i := i) (v := v) (d := d) (ds := ds) r p t => by
    by_cases e : i = k
    · subst e
      refine .inr ⟨v, d, by simp [getK], valV_pos rfl, r, p⟩
    · have e' : ¬ ((Sum.inl i : Key), v).1 = .inl k := fun z => e (Sum.inl.inj z)
      rw [valV_neg e']
      have : getK ((i, d) :: ds) k = getK ds k := by
        unfold getK
        rw [List.find?_cons_of_neg (by simpa using e)]
      rw [this]
      exact RepI.get t
theorem RepT.get {k : List Int} : ∀ {vs : List (List Key × V)} {ds : List (List Int × D)}, RepT K Y H vs ds → (getK ds k = none ∧ valV vs (k.map .inl) = none) ∨ ∃ v d, getK ds k = some d ∧ valV vs (k.map .inl) = some v ∧ Rep K Y H v d ∧ pureD d = true
  | _, _, .nil => .inl ⟨rfl, rfl⟩
  | _, _, .cons (is := i) (v := v) (d := d) (ds := ds) r p t => by
    by_cases e : i = k
    · subst e
      refine .inr ⟨v, d, by simp [getK], valV_pos rfl, r, p⟩
    · have e' : ¬ ((i.map .inl : List Key), v).1 = k.map .inl := fun z => e (inl_inj z)
      rw [valV_neg e']
      have : getK ((i, d) :: ds) k = getK ds k := by
        unfold getK
        rw [List.find?_cons_of_neg (by simpa using e)]
      rw [this]
      exact RepT.get t
theorem RepI.any {k : Int} : ∀ {vs : List (Key × V)} {ds : List (Int × D)}, RepI K Y H vs ds → (vs.any fun kv => decide (kv.1 = .inl k)) = ds.any fun kv => decide (kv.1 = k)
  | _, _, .nil => rfl
  | _, _, .cons (i := i) r p t => by
    rw [List.any_cons, List.any_cons, RepI.any t]
    congr 1
    exact decide_eq_decide.mpr ⟨fun z => Sum.inl.inj z, fun z => congrArg Sum.inl z⟩
theorem RepT.any {k : List Int} : ∀ {vs : List (List Key × V)} {ds : List (List Int × D)}, RepT K Y H vs ds → (vs.any fun kv => decide (kv.1 = k.map .inl)) = ds.any fun kv => decide (kv.1 = k)
  | _, _, .nil => rfl
  | _, _, .cons (is := i) r p t => by
    rw [List.any_cons, List.any_cons, RepT.any t]
    congr 1
    exact decide_eq_decide.mpr ⟨fun z => inl_inj z, fun z => congrArg (List.map Sum.inl) z⟩
theorem RepI.map {k : Int} {v : V} {d : D} (r0 : Rep K Y H v d) (p0 : pureD d = true) : ∀ {vs : List (Key × V)} {ds : List (Int × D)}, RepI K Y H vs ds → RepI K Y H (vs.map fun kv => if kv.1 = .inl k then (kv.1, v) else kv) (ds.map fun kv => if kv.1 = k then (kv.1, d) else kv)
  | _, _, .nil => .nil
  | _, _, .cons (i := i) r p t => by
    rw [List.map_cons, List.map_cons]
    by_cases e : i = k
    · subst e
      rw [if_pos rfl, if_pos rfl]
      exact .cons r0 p0 (RepI.map r0 p0 t)
    · rw [if_neg (fun z => e (Sum.inl.inj z)), if_neg e]
      exact .cons r p (RepI.map r0 p0 t)
theorem RepT.map {k : List Int} {v : V} {d : D} (r0 : Rep K Y H v d) (p0 : pureD d = true) : ∀ {vs : List (List Key × V)} {ds : List (List Int × D)}, RepT K Y H vs ds → RepT K Y H (vs.map fun kv => if kv.1 = k.map .inl then (kv.1, v) else kv) (ds.map fun kv => if kv.1 = k then (kv.1, d) else kv)
  | _, _, .nil => .nil
  | _, _, .cons (is := i) r p t => by
    rw [List.map_cons, List.map_cons]
    by_cases e : i = k
    · subst e
      rw [if_pos rfl, if_pos rfl]
      exact .cons r0 p0 (RepT.map r0 p0 t)
    · rw [if_neg (fun z => e (inl_inj z)), if_neg e]
      exact .cons r p (RepT.map r0 p0 t)
theorem RepI.app {k : Int} {v : V} {d : D} (r0 : Rep K Y H v d) (p0 : pureD d = true) : ∀ {vs : List (Key × V)} {ds : List (Int × D)}, RepI K Y H vs ds → RepI K Y H (vs ++ [(.inl k, v)]) (ds ++ [(k, d)])
  | _, _, .nil => .cons r0 p0 .nil
  | _, _, .cons r p t => .cons r p (RepI.app r0 p0 t)
theorem RepT.app {k : List Int} {v : V} {d : D} (r0 : Rep K Y H v d) (p0 : pureD d = true) : ∀ {vs : List (List Key × V)} {ds : List (List Int × D)}, RepT K Y H vs ds → RepT K Y H (vs ++ [(k.map .inl, v)]) (ds ++ [(k, d)])
  | _, _, .nil => .cons r0 p0 .nil
  | _, _, .cons r p t => .cons r p (RepT.app r0 p0 t)
theorem RepI.put {k : Int} {v : V} {d : D} (r0 : Rep K Y H v d) (p0 : pureD d = true) {vs : List (Key × V)} {ds : List (Int × D)} (h : RepI K Y H vs ds) : RepI K Y H (putK vs (.inl k) v) (putD ds k d) := by
  unfold putK putD
  rw [h.any]
  split
  · exact h.map r0 p0
  · exact h.app r0 p0
theorem RepT.put {k : List Int} {v : V} {d : D} (r0 : Rep K Y H v d) (p0 : pureD d = true) {vs : List (List Key × V)} {ds : List (List Int × D)} (h : RepT K Y H vs ds) : RepT K Y H (putK vs (k.map .inl) v) (putD ds k d) := by
  unfold putK putD
  rw [h.any]
  split
  · exact h.map r0 p0
  · exact h.app r0 p0
theorem RepI.length : ∀ {vs : List (Key × V)} {ds : List (Int × D)}, RepI K Y H vs ds → vs.length = ds.length
  | _, _, .nil => rfl
  | _, _, .cons _ _ t => congrArg (· + 1) (RepI.length t)
theorem RepT.length : ∀ {vs : List (List Key × V)} {ds : List (List Int × D)}, RepT K Y H vs ds → vs.length = ds.length
  | _, _, .nil => rfl
  | _, _, .cons _ _ t => congrArg (· + 1) (RepT.length t)
end
/-! words -/
def oGetI : D → D → Res D := fun d k => match d, k with
  | .dI kvs, .int k => match getK kvs k with
    | some d => .ok d
    | none => .stuck
  | _, _ => .stuck
def oInDI : D → D → Res D := fun k d => match k, d with
  | .int k, .dI kvs => .ok (.bl (getK kvs k).isSome)
  | _, _ => .stuck
def oNinDI : D → D → Res D := fun k d => match k, d with
  | .int k, .dI kvs => .ok (.bl (!(getK kvs k).isSome))
  | _, _ => .stuck
def oLenD : D → Res D := fun d => match d with
  | .dI kvs => .ok (.int kvs.length)
  | _ => .stuck
/-- a tuple of whole numbers as a key -/
def tupK : D → Option (List Int)
  | .tup ds => intsOf ds
  | _ => none
def oGetT : D → D → Res D := fun d k => match d, tupK k with
  | .dT kvs, some k => match getK kvs k with
    | some d => .ok d
    | none => .stuck
  | _, _ => .stuck
def oInDT : D → D → Res D := fun k d => match tupK k, d with
  | some k, .dT kvs => .ok (.bl (getK kvs k).isSome)
  | _, _ => .stuck
def oNinDT : D → D → Res D := fun k d => match tupK k, d with
  | some k, .dT kvs => .ok (.bl (!(getK kvs k).isSome))
  | _, _ => .stuck
section
variable {X : Cx} {Y : Cl} {W : Wh} {k : Kd} {a b o e : Expr} {es : List Expr} {fa fb fo fe : En → Res D} {fs : En → Res (List D)} {pos p : Pos}
theorem jn_dI : J X Y W .n (.Dict [] [] pos) (xC (.dI [])) := PE.imp pe_dnewK fun σ H Q ⟨en, he, h⟩ => fun p hp => h (.ref p) _ [p] (same_new hp) (.dI upd_same .nil) (List.nodup_cons.mpr ⟨List.not_mem_nil, .nil⟩) (fun q hq => by cases List.mem_singleton.mp hq; exact hp)
theorem jn_dT : J X Y W .n (.Dict [] [] pos) (xC (.dT [])) := PE.imp pe_dnewT fun σ H Q ⟨en, he, h⟩ => fun p hp => h (.ref p) _ [p] (same_new hp) (.dT upd_same .nil) (List.nodup_cons.mpr ⟨List.not_mem_nil, .nil⟩) (fun q hq => by cases List.mem_singleton.mp hq; exact hp)
theorem j_getI {n : Nat} (hr : Room n X.A) (ho : J X Y W .r o fo) (ha : J X Y W .r a fa) (hs : NoSl a := by trivial) : J X Y W .r (.Subscript o a pos) (x2 oGetI fo fa) :=
  PE.imp (pe_dget (by have := hr.units; omega) ho ha hs) fun σ H Q ⟨en, he, h⟩ => ⟨en, he, (WPr.bind h).imp (Same.refl H) fun d q v H1 s1 r1 => by
    refine ⟨en, he.mono s1, (WPr.bind (g := fun e => oGetI d e) q).imp s1 fun e2 q2 u H2 s2 r2 => ?_⟩
    unfold oGetI at q2
    split at q2
    · rename_i kvs kk
      split at q2
      · rename_i z hz
        have r1' := r1.mono s2
        cases r2
        cases r1' with
        | dI hd rr =>
          rcases rr.get (k := kk) with ⟨z1, _⟩ | ⟨v3, d3, g1, g2, g3, _⟩
          · rw [hz] at z1; cases z1
          · rw [hz] at g1
            cases g1
            have q2 : Po X.K Y .r z H Q := q2
            refine ⟨_, v3, rfl, ?_, q2 v3 H2 (s1.trans s2) g3⟩
            rw [← g2]
            exact DGet.k (k := .inl kk) hd
      · exact q2.elim
    · exact q2.elim⟩
theorem tIn_core {K : PySem.W.Frag} {σ : St} {H : Hp} {Q : VK} {neg : Bool} {op : D → D → Res D} (hop : ∀ k d, op k d = (match k, d with
      | .int k, .dI kvs => .ok (.bl (if neg = true then !(getK kvs k).isSome else (getK kvs k).isSome))
      | _, _ => .stuck)) (h : tJ K Y W k (x2 op fa fo) σ H Q) :
    tJ K Y W .r fa σ H fun y H1 => tJ K Y W .r fo σ H1 fun x H2 => ∃ a o, x = .ref a ∧ DGet H2 a y o ∧ Q (.bl (if neg = true then !o.isSome else o.isSome)) H2 := by
  obtain ⟨en, he, h⟩ := h
  refine ⟨en, he, (WPr.bind h).imp (Same.refl H) fun d q v H1 s1 r1 => ?_⟩
  refine ⟨en, he.mono s1, (WPr.bind (g := fun e => op d e) q).imp s1 fun e2 q2 u H2 s2 r2 => ?_⟩
  rw [hop] at q2
  split at q2
  · rename_i kk kvs
    cases r1
    cases r2 with
    | @dI _ kvs0 _ hd rr =>
      have q2 : Po K Y k (.bl (if neg = true then !(getK kvs kk).isSome else (getK kvs kk).isSome)) H Q := q2
      refine ⟨_, valV kvs0 (.inl kk), rfl, DGet.k (k := .inl kk) hd, ?_⟩
      have e : (valV kvs0 (.inl kk)).isSome = (getK kvs kk).isSome := by
        rcases rr.get (k := kk) with ⟨z1, z2⟩ | ⟨v3, d3, g1, g2, g3, _⟩
        · rw [z1, z2]; rfl
        · rw [g1, g2]; rfl
      rw [e]
      exact q2.pure (s1.trans s2) .bl (pureD_bl _)
  · exact q2.elim
theorem j_inDI {n : Nat} (hr : Room n X.A) (ha : J X Y W .r a fa) (ho : J X Y W .r o fo) (hm : behindInMarks .In o = false := by rfl) : J X Y W k (.Compare a [.In] [o] pos) (x2 oInDI fa fo) :=
  PE.imp (pe_cmp (pc_din (by have := hr.units; omega) ha ho) hm) fun σ H Q h => tIn_core (neg := false) (fun k d => by cases k <;> cases d <;> rfl) h
theorem j_ninDI {n : Nat} (hr : Room n X.A) (ha : J X Y W .r a fa) (ho : J X Y W .r o fo) (hm : behindInMarks .NotIn o = false := by rfl) : J X Y W k (.Compare a [.NotIn] [o] pos) (x2 oNinDI fa fo) :=
  PE.imp (pe_cmp (pc_dnotin (by have := hr.units; omega) ha ho) hm) fun σ H Q h => tIn_core (neg := true) (fun k d => by cases k <;> cases d <;> rfl) h
theorem tb_core {K : PySem.W.Frag} {σ : St} {H : Hp} {Q : Bool → Hp → Prop} {f : En → Res D} (h : tT K Y W (tBl f) σ H Q) : tJ K Y W .r f σ H fun v H' => ∃ b, v = .bl b ∧ Q b H' := by
  obtain ⟨en, he, h⟩ := h
  refine ⟨en, he, (WPr.bind h).imp (Same.refl H) fun d q v H1 s1 r1 => ?_⟩
  cases r1 with
  | @bl b => exact ⟨b, rfl, q H1 s1⟩
  | _ => exact q.elim
theorem t_inDI {n : Nat} (hr : Room n X.A) (ha : J X Y W .r a fa) (ho : J X Y W .r o fo) (hm : behindInMarks .In o = false := by rfl) : T X Y W (.Compare a [.In] [o] pos) (tBl (x2 oInDI fa fo)) :=
  PT.imp (pt_cmp (pc_din (by have := hr.units; omega) ha ho) hm) fun σ H Q h => tIn_core (neg := false) (fun k d => by cases k <;> cases d <;> rfl) (tb_core h)
theorem t_ninDI {n : Nat} (hr : Room n X.A) (ha : J X Y W .r a fa) (ho : J X Y W .r o fo) (hm : behindInMarks .NotIn o = false := by rfl) : T X Y W (.Compare a [.NotIn] [o] pos) (tBl (x2 oNinDI fa fo)) :=
  PT.imp (pt_cmp (pc_dnotin (by have := hr.units; omega) ha ho) hm) fun σ H Q h => tIn_core (neg := true) (fun k d => by cases k <;> cases d <;> rfl) (tb_core h)
theorem oLenD_calm : Calm1 oLenD := calm1_ite fun d => by unfold oLenD; split <;> simp
theorem j_lenD (hg : Gl X "len") (hm : X.mg "len" = none) (ha : J X Y W .r a fa) (hs : starEach (a :: []) X.env = (false, eval a X.env) :: starEach [] X.env := by rfl) (hpl : (backTo pos (starEach [] X.env)).any (·.1) = false := by rfl) : J X Y W k (.Call (.Name "len" p) [a] [] pos) (x1 oLenD fa) :=
  j_cb1 call_lenD (fun H v d Q r ⟨z, hz, po⟩ => by
    unfold oLenD at hz
    split at hz
    · cases hz
      cases r with
      | dI h q => exact ⟨_, _, rfl, h, by rw [q.length]; exact po.pure (Same.refl H) .int (pureD_int _)⟩
    · cases hz) oLenD_calm hg hm (by decide +kernel) ha (by decide) (by decide) hs hpl
/-! keys that are tuples, written where they are used -/
def JK (X : Cx) (Y : Cl) (W : Wh) (e : Expr) (f : En → Res D) : Prop := PE X e fun σ H Q => ∃ en, EnOk X.K Y H σ en ∧ WPr X.K Y W σ H (f en) fun d => ∀ b is H', Same H H' → tupK d = some is → H' b = some (.tup (is.map V.int)) → Q (.ref b) H'
def xKey (f : En → Res (List D)) : En → Res D := fun en => f en >>= fun ds => match intsOf ds with
  | some (i :: is) => if szOk ds.length = true then .ok (.tup ds) else .stuck
  | _ => .stuck
theorem jk_tup {x1 : Nat} (h : A X Y W es fs) : JK X Y W (.Tuple es x1 pos) (xKey fs) :=
  PE.imp (pe_tup h) fun σ H Q ⟨en, he, h⟩ => ⟨en, he, (WPr.bind h).imp (Same.refl H) fun ds p => by
    intro vs H' s r _
    split at p
    · rename_i i is hi
      split at p
      · rename_i hz
        have e0 := intsOf_map hi
        subst e0
        have ev := r.ints
        refine ⟨by rw [r.length]; exact szOk_le hz, fun q hq => ?_⟩
        have s2 : Same H' (upd H' q (.tup vs)) := fun b o e => by rw [upd_ne (ne_of_none e hq)]; exact e
        have p : ∀ b is' H', Same H H' → tupK (.tup ((i :: is).map D.int)) = some is' → H' b = some (.tup (is'.map V.int)) → Q (.ref b) H' := p
        refine p q (i :: is) _ (s.trans s2) (intsOf_ints _) ?_
        rw [ev]
        exact upd_same
      · exact p.elim
    · exact p.elim⟩
theorem tInT_core {K : PySem.W.Frag} {σ : St} {H : Hp} {Q : VK} {neg : Bool} {op : D → D → Res D} (hop : ∀ k d, op k d = (match tupK k, d with
      | some k, .dT kvs => .ok (.bl (if neg = true then !(getK kvs k).isSome else (getK kvs k).isSome))
      | _, _ => .stuck)) (h : tJ K Y W k (x2 op fa fo) σ H Q) :
    (∃ en, EnOk K Y H σ en ∧ WPr K Y W σ H (fa en) fun d => ∀ b is H', Same H H' → tupK d = some is → H' b = some (.tup (is.map V.int)) → (fun y H1 => tJ K Y W .r fo σ H1 fun x H2 => ∃ a o, x = .ref a ∧ DGet H2 a y o ∧ Q (.bl (if neg = true then !o.isSome else o.isSome)) H2) (.ref b) H') := by
  obtain ⟨en, he, h⟩ := h
  refine ⟨en, he, (WPr.bind h).imp (Same.refl H) fun d q b is H1 s1 e1 hb => ?_⟩
  refine ⟨en, he.mono s1, (WPr.bind (g := fun e => op d e) q).imp s1 fun e2 q2 u H2 s2 r2 => ?_⟩
  rw [hop, e1] at q2
  split at q2
  · rename_i kk kvs hk
    cases hk
    cases r2 with
    | @dT _ kvs0 _ hd rr =>
      have q2 : Po K Y k (.bl (if neg = true then !(getK kvs is).isSome else (getK kvs is).isSome)) H Q := q2
      have hb2 : H2 b = some (.tup ((is.map Sum.inl).map kV)) := by
        have := s2 _ _ hb
        rw [this]
        simp [kV, Function.comp_def]
      refine ⟨_, valV kvs0 (is.map .inl), rfl, DGet.t hd hb2, ?_⟩
      have e : (valV kvs0 (is.map .inl)).isSome = (getK kvs is).isSome := by
        rcases rr.get (k := is) with ⟨z1, z2⟩ | ⟨v3, d3, g1, g2, g3, _⟩
        · rw [z1, z2]; rfl
        · rw [g1, g2]; rfl
      rw [e]
      exact q2.pure (s1.trans s2) .bl (pureD_bl _)
  · exact q2.elim
theorem j_inDT {n : Nat} (hr : Room n X.A) (ha : JK X Y W a fa) (ho : J X Y W .r o fo) (hm : behindInMarks .In o = false := by rfl) : J X Y W k (.Compare a [.In] [o] pos) (x2 oInDT fa fo) :=
  PE.imp (pe_cmp (pc_din (by have := hr.units; omega) ha ho) hm) fun σ H Q h => tInT_core (neg := false) (fun k d => by unfold oInDT; split <;> simp_all) h
theorem j_ninDT {n : Nat} (hr : Room n X.A) (ha : JK X Y W a fa) (ho : J X Y W .r o fo) (hm : behindInMarks .NotIn o = false := by rfl) : J X Y W k (.Compare a [.NotIn] [o] pos) (x2 oNinDT fa fo) :=
  PE.imp (pe_cmp (pc_dnotin (by have := hr.units; omega) ha ho) hm) fun σ H Q h => tInT_core (neg := true) (fun k d => by unfold oNinDT; split <;> simp_all) h
theorem t_inDT {n : Nat} (hr : Room n X.A) (ha : JK X Y W a fa) (ho : J X Y W .r o fo) (hm : behindInMarks .In o = false := by rfl) : T X Y W (.Compare a [.In] [o] pos) (tBl (x2 oInDT fa fo)) :=
  PT.imp (pt_cmp (pc_din (by have := hr.units; omega) ha ho) hm) fun σ H Q h => tInT_core (neg := false) (fun k d => by unfold oInDT; split <;> simp_all) (tb_core h)
theorem t_ninDT {n : Nat} (hr : Room n X.A) (ha : JK X Y W a fa) (ho : J X Y W .r o fo) (hm : behindInMarks .NotIn o = false := by rfl) : T X Y W (.Compare a [.NotIn] [o] pos) (tBl (x2 oNinDT fa fo)) :=
  PT.imp (pt_cmp (pc_dnotin (by have := hr.units; omega) ha ho) hm) fun σ H Q h => tInT_core (neg := true) (fun k d => by unfold oNinDT; split <;> simp_all) (tb_core h)
theorem j_getT {n : Nat} (hr : Room n X.A) (ho : J X Y W .r o fo) (ha : JK X Y W a fa) (hs : NoSl a := by trivial) : J X Y W .r (.Subscript o a pos) (x2 oGetT fo fa) :=
  PE.imp (pe_dget (by have := hr.units; omega) ho ha hs) fun σ H Q ⟨en, he, h⟩ => ⟨en, he, (WPr.bind h).imp (Same.refl H) fun d q v H1 s1 r1 => by
    refine ⟨en, he.mono s1, (WPr.bind (g := fun e => oGetT d e) q).imp s1 fun e2 q2 b is H2 s2 e1 hb => ?_⟩
    unfold oGetT at q2
    rw [e1] at q2
    split at q2
    · rename_i kvs kk hk
      cases hk
      split at q2
      · rename_i z hz
        have r1' := r1.mono s2
        cases r1' with
        | @dT _ kvs0 _ hd rr =>
          rcases rr.get (k := is) with ⟨z1, _⟩ | ⟨v3, d3, g1, g2, g3, _⟩
          · rw [hz] at z1; cases z1
          · rw [hz] at g1
            cases g1
            have q2 : Po X.K Y .r z H Q := q2
            have hb2 : H2 b = some (.tup ((is.map Sum.inl).map kV)) := by
              rw [hb]
              simp [kV, Function.comp_def]
            refine ⟨_, v3, rfl, ?_, q2 v3 H2 (s1.trans s2) g3⟩
            rw [← g2]
            exact DGet.t hd hb2
      · exact q2.elim
    · exact q2.elim⟩
end
/-! ### d[k] = v -/
def sPutI (v : Nat) (f g : En → Res D) : List Slot → Res Fl := fun S => f (en S) >>= fun d => match S[v]? with
  | some (.own (.dI kvs)) => g (en S) >>= fun k => match k with
    | .int k => if (pureD d && szOk (kvs.length + 1)) = true then .ok (.nx (setS S v (.own (.dI (putD kvs k d))))) else .stuck
    | _ => .stuck
  | _ => .stuck
def sPutT (v : Nat) (f g : En → Res D) : List Slot → Res Fl := fun S => f (en S) >>= fun d => match S[v]? with
  | some (.own (.dT kvs)) => g (en S) >>= fun k => match tupK k with
    | some k => if (pureD d && szOk (kvs.length + 1)) = true then .ok (.nx (setS S v (.own (.dT (putD kvs k d))))) else .stuck
    | _ => .stuck
  | _ => .stuck
section
variable {X : Cx} {Y : Cl} {W : Wh} {M : Md} {a e : Expr} {fa fe : En → Res D} {pos p p' : Pos}
theorem s_putI (v : Nat) {x : Str} {n : Nat} (hr : Room n X.A) (he : J X Y W .r e fe) (ha : J X Y W .r a fa) (hN : X.N[v]? = some x := by rfl) (hv : Vis X.env.scope x := by first | exact Or.inl rfl | exact Or.inr (Or.inl rfl) | exact Or.inr (Or.inr rfl)) (hd : (x == ("__debug__" : Str)) = false := by decide) (hcd : (x == ("__classdict__" : Str)) = false := by decide)
    (hs : swapsWith e (some (.Subscript (.Name x p) a p')) pos.line X.env = pure false := by rfl) : JS X Y W M (.Assign [.Subscript (.Name x p) a p'] e pos) (sPutI v fe fa) :=
  PS.imp (ps_dput (by have := hr.units; omega) (pe_var hN hv hd hcd) ha he hs) fun D' σ H ⟨F, S, s, h⟩ => by
    refine ⟨en S, s.en, (WPs.bindG (σ := σ) h s.same).imp (Same.refl H) fun d q u H1 s1 r1 => ?_⟩
    split at q
    · rename_i kvs qs
      obtain ⟨w, fl, hw, o, nd, _, cl⟩ := (s.ext s1).mut qs
      refine ⟨w, hw, en S, (s.ext s1).en, (WPs.bindG (σ := σ) q (s.same.trans s1)).imp (Same.refl H1) fun d2 q2 v2 H2 s2 r2 => ?_⟩
      cases r2 with
      | @int k =>
        have q2 : WPs X.K Y W M F D' σ (if (pureD d && szOk (kvs.length + 1)) = true then .ok (.nx (setS S v (.own (.dI (putD kvs k d))))) else .stuck) := q2
        split at q2
        · rename_i hz
          have hz := Bool.and_eq_true_iff.mp hz
          cases o with
          | pur hp _ => rw [pureD] at hp; cases hp
          | @dI p0 ks _ hk rr =>
            have hk2 := s2 _ _ hk
            have rr2 : RepI X.K Y H2 ks kvs := rr.mono s2
            have hl := rr2.length
            refine ⟨p0, _, rfl, DPut.k (k := .inl k) (v := u) hk2 ?_, q2 σ _ (cl _ (.dI (putD kvs k d)) [p0] (fun q o hq ho => (out_upd (fl := [p0]) (List.mem_singleton.mpr rfl)) q o hq (s2 _ _ ho)) (.dI upd_same ?_) (List.nodup_cons.mpr ⟨List.not_mem_nil, .nil⟩) (fun q hq => .inl hq)).1 (Stay.refl M σ)⟩
            · have := szOk_lt (n := kvs.length) (by have := hz.2; unfold szOk at this ⊢; simp at this ⊢; omega)
              omega
            · have fx : Fix H2 (upd H2 p0 (.dK (putK ks (.inl k) u))) := fix_upd hk2 rfl
              exact ((rr2.fix fx).put ((r1.mono s2).fix fx hz.1) hz.1)
        · exact q2.elim
      | _ => exact q2.elim
    · exact q.elim
theorem s_putT (v : Nat) {x : Str} {n : Nat} (hr : Room n X.A) (he : J X Y W .r e fe) (ha : JK X Y W a fa) (hN : X.N[v]? = some x := by rfl) (hv : Vis X.env.scope x := by first | exact Or.inl rfl | exact Or.inr (Or.inl rfl) | exact Or.inr (Or.inr rfl)) (hd : (x == ("__debug__" : Str)) = false := by decide) (hcd : (x == ("__classdict__" : Str)) = false := by decide)
    (hs : swapsWith e (some (.Subscript (.Name x p) a p')) pos.line X.env = pure false := by rfl) : JS X Y W M (.Assign [.Subscript (.Name x p) a p'] e pos) (sPutT v fe fa) :=
  PS.imp (ps_dput (by have := hr.units; omega) (pe_var hN hv hd hcd) ha he hs) fun D' σ H ⟨F, S, s, h⟩ => by
    refine ⟨en S, s.en, (WPs.bindG (σ := σ) h s.same).imp (Same.refl H) fun d q u H1 s1 r1 => ?_⟩
    split at q
    · rename_i kvs qs
      obtain ⟨w, fl, hw, o, nd, _, cl⟩ := (s.ext s1).mut qs
      refine ⟨w, hw, en S, (s.ext s1).en, (WPs.bindG (σ := σ) q (s.same.trans s1)).imp (Same.refl H1) fun d2 q2 b is H2 s2 e2 hb => ?_⟩
      rw [e2] at q2
      have q2 : WPs X.K Y W M F D' σ (if (pureD d && szOk (kvs.length + 1)) = true then .ok (.nx (setS S v (.own (.dT (putD kvs is d))))) else .stuck) := q2
      split at q2
      · rename_i hz
        have hz := Bool.and_eq_true_iff.mp hz
        cases o with
        | pur hp _ => rw [pureD] at hp; cases hp
        | @dT p0 ks _ hk rr =>
          have hk2 := s2 _ _ hk
          have rr2 : RepT X.K Y H2 ks kvs := rr.mono s2
          have hl := rr2.length
          have hb2 : H2 b = some (.tup ((is.map Sum.inl).map kV)) := by
            rw [hb]
            simp [kV, Function.comp_def]
          refine ⟨p0, _, rfl, DPut.t (v := u) hk2 hb2 ?_, q2 σ _ (cl _ (.dT (putD kvs is d)) [p0] (fun q o hq ho => (out_upd (fl := [p0]) (List.mem_singleton.mpr rfl)) q o hq (s2 _ _ ho)) (.dT upd_same ?_) (List.nodup_cons.mpr ⟨List.not_mem_nil, .nil⟩) (fun q hq => .inl hq)).1 (Stay.refl M σ)⟩
          · have := szOk_lt (n := kvs.length) (by have := hz.2; unfold szOk at this ⊢; simp at this ⊢; omega)
            omega
          · have fx : Fix H2 (upd H2 p0 (.dT (putK ks (is.map .inl) u))) := fix_upd hk2 rfl
            exact ((rr2.fix fx).put ((r1.mono s2).fix fx hz.1) hz.1)
      · exact q2.elim
    · exact q.elim
end
end Ow
end
section
set_option linter.all false
set_option maxRecDepth 100000
set_option maxHeartbeats 2000000
/-! Ow17: an item set; names that share; pops; all frozen. -/
namespace Ow
open PySem L2 PySem.Spec
/-! ### x[i] = e -/
def sSetAt (loc : List Slot → Res Lc) (f g : En → Res D) : List Slot → Res Fl := fun S => f (en S) >>= fun d => loc S >>= fun lc => match getL S lc with
  | some (.lst ds) => g (en S) >>= fun k => match k with
    | .int k => match ixN ds.length k with
      | some j => .ok (.nx (putL false S (.lst (ds.set j d)) lc))
      | none => .stuck
    | _ => .stuck
  | _ => .stuck
section
variable {X : Cx} {Y : Cl} {W : Wh} {M : Md} {a e o : Expr} {fa fe : En → Res D} {loc : List Slot → Res Lc} {pos p p' : Pos}
theorem s_setAt (he : J X Y W .n e fe) (ho : JLc X Y W o loc) (ha : J X Y W .r a fa) (hs : swapsWithSole [.Subscript o a p'] e pos.line X.env = pure false := by rfl) (hw : swappedStores [.Subscript o a p'] e X.env = pure none := by rfl)
    (h1 : (assignEach [.Subscript o a p'] X.env).map (·.2) = [assign (.Subscript o a p') X.env] := by rfl) 
    (has : ∀ v, assign (.Subscript o a p') X.env v = (do
      let ov ← holding [v] (eval o X.env)
      let iv ← holding [v, ov] (eval a X.env)
      standAt p'
      holding [v, ov, iv] (setItem ov iv v)
      release [v, ov, iv] []) := by intro _; rfl) : JS X Y W M (.Assign [.Subscript o a p'] e pos) (sSetAt loc fe fa) :=
  PS.imp (ps_asg he (pg_sub ho ha set_list has) hs hw h1) fun D' σ H ⟨F, S, s, h⟩ => by
    refine ⟨en S, s.en, (WPs.bindG (σ := σ) h s.same).imp (Same.refl H) fun d q u H1 f s1 ou ndf fr => ?_⟩
    have S1 := s.ext s1
    refine ⟨F, S, S1, (WPs.bindG (σ := σ) q S1.same).imp (Same.refl H1) fun lc q2 v H2 s2 at_ => ?_⟩
    split at q2
    · rename_i ds qg
      have S2 := S1.ext s2
      refine ⟨en S, S2.en, (WPs.bindG (σ := σ) q2 S2.same).imp (Same.refl H2) fun k q3 w H3 s3 r3 => ?_⟩
      cases r3 with
      | @int k =>
        have q3 : WPs X.K Y W M F D' σ (match ixN ds.length k with
          | some j => .ok (.nx (putL false S (.lst (ds.set j d)) lc))
          | none => .stuck) := q3
        cases hj : ixN ds.length k with
        | none => rw [hj] at q3; exact q3.elim
        | some j =>
          rw [hj] at q3
          obtain ⟨v0, fl, av, ov, nd, _, cl⟩ := s.openL qg
          have ev : v0 = v := (av.same (s1.trans s2)).one at_
          subst ev
          obtain ⟨p0, vs, g, rfl, hp, ow, rfl⟩ := ov.lst_inv (p := 0)
          have hl := ow.length
          obtain ⟨_, hjl, _, _⟩ := ixN_seq hj
          have s03 := s1.trans (s2.trans s3)
          have s13 := s2.trans s3
          have hp3 := s03 _ _ hp
          have ow3 := ow.mono s03
          have ou3 := ou.mono s13
          obtain ⟨u', f1, f', f2, g1, g2, g3, g4⟩ := ow3.at_ (List.getElem?_eq_getElem hjl)
          subst g3
          have ndg := List.nodup_cons.mp nd
          have nd1 := List.nodup_append.mp ndg.2
          have nd2 := List.nodup_append.mp nd1.2.1
          have hpf : p0 ∉ f := fun z => by
            have := fr p0 z
            rw [hp] at this; cases this
          have fx : Fix H3 (upd H3 p0 (.lst (vs.set j u))) := fix_upd hp3 rfl
          have ou4 : Own X.K Y (upd H3 p0 (.lst (vs.set j u))) u d f := ou3.frame fx fun q hq => upd_ne fun z => hpf (z ▸ hq)
          have ow4 := g4 _ u d f ou4 fx fun q hq => upd_ne fun z => ndg.1 (by rw [← z]; rcases List.mem_append.mp hq with hq | hq <;> simp [hq])
          refine ⟨p0, vs, k, j, rfl, rfl, hp3, by rw [hl]; exact hj, q3 σ _ (cl false _ _ (p0 :: (f1 ++ (f ++ f2))) (fun q o hq ho => (out_upd (fl := p0 :: (f1 ++ (f' ++ f2))) List.mem_cons_self) q o hq (s03 _ _ ho)) (.lst upd_same ow4) ?_ ?_ (fun z => nomatch z)) (Stay.refl M σ)⟩
          · have old : ∀ q, q ∈ f1 ∨ q ∈ f2 → q ∉ f := fun q hq z => by
              obtain ⟨o, ho, _⟩ := ow.there q (by rcases hq with hq | hq <;> simp [hq])
              have := fr q z
              rw [ho] at this; cases this
            refine List.nodup_cons.mpr ⟨fun z => ?_, List.nodup_append.mpr ⟨nd1.1, List.nodup_append.mpr ⟨ndf, nd2.2.1, fun x hx y hy e => ?_⟩, fun x hx y hy e => ?_⟩⟩
            · rcases List.mem_append.mp z with z | z
              · exact ndg.1 (by simp [z])
              · rcases List.mem_append.mp z with z | z
                · exact hpf z
                · exact ndg.1 (by simp [z])
            · subst e; exact old x (.inr hy) hx
            · subst e
              rcases List.mem_append.mp hy with hy | hy
              · exact old x (.inl hx) hy
              · exact nd1.2.2 x hx x (by simp [hy]) rfl
          · intro q hq
            rcases List.mem_cons.mp hq with rfl | hq
            · exact .inl List.mem_cons_self
            · rcases List.mem_append.mp hq with hq | hq
              · exact .inl (by simp [hq])
              · rcases List.mem_append.mp hq with hq | hq
                · exact .inr (fr q hq)
                · exact .inl (by simp [hq])
      | _ => exact q3.elim
    · exact q2.elim
end
/-! ### names that share -/
def sAlV (i v : Nat) : List Slot → Res Fl := fun S => match S[v]? with
  | some (.fz d) => .ok (.nx (setS S i (.fz d)))
  | some (.own d) => if i = v then .stuck else .ok (.nx (setS (setS S v .un) i (.own d)))
  | some (.ali s j) => if s = i then .stuck else .ok (.nx (setS S i (.ali s j)))
  | _ => .stuck
def sAlP (i v : Nat) (f : En → Res D) : List Slot → Res Fl := fun S => match S[v]? with
  | some (.fz (.lst ds)) => f (en S) >>= fun k => match k with
    | .int k => match atI ds k with
      | some d => .ok (.nx (setS S i (.fz d)))
      | none => .stuck
    | _ => .stuck
  | some (.own (.lst ds)) => f (en S) >>= fun k => match k with
    | .int k => match ixN ds.length k with
      | some j => match ds[j]? with
        | some d => if pureD d = true then .ok (.nx (setS S i (.fz d))) else if v = i then .stuck else .ok (.nx (setS S i (.ali v j)))
        | none => .stuck
      | none => .stuck
    | _ => .stuck
  | _ => .stuck
/-- all frozen, then stored -/
def sSetZ (i : Nat) (f : En → Res D) : List Slot → Res Fl := fun S => f (en S) >>= fun d => .ok (.nx (setS (frzAll S) i (.fz d)))
section
variable {X : Cx} {Y : Cl} {W : Wh} {M : Md} {a e o : Expr} {fa fe : En → Res D} {pos p px py p2 : Pos} {x y : Str}
theorem Sat.ali_at {K : PySem.W.Frag} {F H : Hp} {S : List Slot} {σ : St} (h : Sat K Y F S σ H) {v s j : Nat} (q : S[v]? = some (.ali s j)) : ∃ ds p vs u, S[s]? = some (.own (.lst ds)) ∧ j < ds.length ∧ σ[s]? = some (some (.ref p)) ∧ H p = some (.lst vs) ∧ vs[j]? = some u ∧ σ[v]? = some (some u) := by
  obtain ⟨G, w, fp, sw⟩ := h
  exact sw.ok v _ q
theorem Sat.own_at {K : PySem.W.Frag} {F H : Hp} {S : List Slot} {σ : St} (h : Sat K Y F S σ H) {v : Nat} {d : D} (q : S[v]? = some (.own d)) : ∃ u fl, σ[v]? = some (some u) ∧ Own K Y H u d fl := by
  obtain ⟨G, w, fp, sw⟩ := h
  obtain ⟨u, a, b, _⟩ := sw.ok v _ q
  exact ⟨u, _, a, b⟩
theorem s_alV (i v : Nat) (hN : X.N.Nodup) (hi : X.N[i]? = some x := by rfl) (hx : Loc X.env.scope x := by first | exact Or.inl rfl | exact Or.inr rfl) (hMi : M i = true := by rfl)
    (hv : X.N[v]? = some y := by rfl) (hvy : Vis X.env.scope y := by first | exact Or.inl rfl | exact Or.inr (Or.inl rfl) | exact Or.inr (Or.inr rfl)) (hd : (y == ("__debug__" : Str)) = false := by decide) (hcd : (y == ("__classdict__" : Str)) = false := by decide)
    (hs : swapsWith (.Name y py) (some (.Name x px)) pos.line X.env = pure false := by rfl) (hf : X.fn x = true ∨ X.env.scope.names.lookup x = some .local := by first | exact .inl rfl | exact .inr rfl) : JS X Y W M (.Assign [.Name x px] (.Name y py) pos) (sAlV i v) :=
  PS.imp (ps_set hN hi hx (pe_var hv hvy hd hcd) hs hf) fun D' σ H ⟨F, S, s, h⟩ => by
    obtain ⟨G, f1, f2, s', hz⟩ := s.deep
    unfold sAlV at h
    split at h
    · rename_i d q
      obtain ⟨u, hu, ru⟩ := hz v d q
      exact ⟨u, hu, h _ _ ((s'.setFz ru).shallow f1) (Stay.set hMi)⟩
    · rename_i d q
      split at h
      · exact h.elim
      · rename_i hne
        obtain ⟨u, fl, hu, _⟩ := s.own_at q
        exact ⟨u, hu, h _ _ (s.move q hu hne) (Stay.set hMi)⟩
    · rename_i t j q
      split at h
      · exact h.elim
      · rename_i hne
        obtain ⟨ds, p0, vs, u, h1, h2, h3, h4, h5, h6⟩ := s.ali_at q
        exact ⟨u, h6, h _ _ (s.setAli h1 h2 h3 h4 h5 hne) (Stay.set hMi)⟩
    · exact h.elim
theorem s_alP (i v : Nat) (hN : X.N.Nodup) (ha : J X Y W .r a fa) (hpl : PlainIx a := by exact fun _ _ => rfl) (hi : X.N[i]? = some x := by rfl) (hx : Loc X.env.scope x := by first | exact Or.inl rfl | exact Or.inr rfl) (hMi : M i = true := by rfl)
    (hv : X.N[v]? = some y := by rfl) (hvy : Vis X.env.scope y := by first | exact Or.inl rfl | exact Or.inr (Or.inl rfl) | exact Or.inr (Or.inr rfl)) (hd : (y == ("__debug__" : Str)) = false := by decide) (hcd : (y == ("__classdict__" : Str)) = false := by decide)
    (hs : swapsWith (.Subscript (.Name y py) a p2) (some (.Name x px)) pos.line X.env = pure false := by rfl) (hf : X.fn x = true ∨ X.env.scope.names.lookup x = some .local := by first | exact .inl rfl | exact .inr rfl) : JS X Y W M (.Assign [.Name x px] (.Subscript (.Name y py) a p2) pos) (sAlP i v fa) :=
  PS.imp (ps_set hN hi hx (pe_ix ix_list (pe_var hv hvy hd hcd) ha hpl) hs hf) fun D' σ H ⟨F, S, s, h⟩ => by
    obtain ⟨G, f1, f2, s', hz⟩ := s.deep
    unfold sAlP at h
    split at h
    · rename_i ds q
      obtain ⟨u, hu, ru⟩ := hz v _ q
      refine ⟨u, hu, en S, s.en, (WPs.bindG (σ := σ) h s.same).imp (Same.refl H) fun k q2 w H2 s2 r2 => ?_⟩
      cases r2 with
      | @int k =>
        have q2 : WPs X.K Y W M F D' σ (match atI ds k with
          | some d => .ok (.nx (setS S i (.fz d)))
          | none => .stuck) := q2
        split at q2
        · rename_i d hk
          cases ru with
          | @lst p0 vs _ hp rr =>
            obtain ⟨u3, hu3, ru3⟩ := rr.at hk
            exact ⟨p0, vs, k, u3, rfl, rfl, SqL.of (s2 _ _ (f2 _ _ hp)), hu3, q2 _ _ (((s'.ext s2).setFz ru3).shallow f1) (Stay.set hMi)⟩
        · exact q2.elim
      | _ => exact q2.elim
    · rename_i ds q
      obtain ⟨u, fl, hu, o⟩ := s.own_at q
      obtain ⟨p0, vs, g, rfl, hp, ow, _⟩ := o.lst_inv (p := 0)
      refine ⟨.ref p0, hu, en S, s.en, (WPs.bindG (σ := σ) h s.same).imp (Same.refl H) fun k q2 w H2 s2 r2 => ?_⟩
      cases r2 with
      | @int k =>
        have q2 : WPs X.K Y W M F D' σ (match ixN ds.length k with
          | some j => match ds[j]? with
            | some d => if pureD d = true then .ok (.nx (setS S i (.fz d))) else if v = i then .stuck else .ok (.nx (setS S i (.ali v j)))
            | none => .stuck
          | none => .stuck) := q2
        split at q2
        · rename_i j hj
          have hl := ow.length
          split at q2
          · rename_i d hd
            obtain ⟨u3, hu3, ru3⟩ := ow.reps.get hd
            have hat : atI vs k = some u3 := by
              have : ixN vs.length k = some j := by rw [hl]; exact hj
              show (ixN vs.length k).bind (fun j => vs[j]?) = some u3
              rw [this]
              exact hu3
            refine ⟨p0, vs, k, u3, rfl, rfl, SqL.of (s2 _ _ hp), hat, ?_⟩
            split at q2
            · rename_i hpd
              exact q2 _ _ (s.setPure s2 (ru3.mono s2) hpd) (Stay.set hMi)
            · split at q2
              · exact q2.elim
              · rename_i hne
                exact q2 _ _ ((s.ext s2).setAli q (List.getElem?_eq_some_iff.mp hd).1 hu (s2 _ _ hp) hu3 hne) (Stay.set hMi)
          · exact q2.elim
        · exact q2.elim
      | _ => exact q2.elim
    · exact h.elim
theorem s_setZ (i : Nat) (hN : X.N.Nodup) (he : J X Y W .r e fe) (hi : X.N[i]? = some x := by rfl) (hx : Loc X.env.scope x := by first | exact Or.inl rfl | exact Or.inr rfl) (hM : M i = true := by rfl) (hs : swapsWith e (some (.Name x px)) pos.line X.env = pure false := by rfl)
    (hf : X.fn x = true ∨ X.env.scope.names.lookup x = some .local := by first | exact .inl rfl | exact .inr rfl) : JS X Y W M (.Assign [.Name x px] e pos) (sSetZ i fe) :=
  PS.imp (ps_set hN hi hx he hs hf) fun D σ H ⟨F, S, s, h⟩ => ⟨en S, s.en, (WPs.bindG (σ := σ) h s.same).imp (Same.refl H) fun d p u H1 s1 r1 => p _ _ (((s.ext s1).frzAll.setFz r1).shallow (s.same.trans s1)) (Stay.set hM)⟩
end
/-! ### expressions that change a slot: pop -/
def JE (X : Cx) (Y : Cl) (W : Wh) (e : Expr) (f : List Slot → Res (D × List Slot)) : Prop := PE X e fun σ H Q => ∃ F S, Sat X.K Y F S σ H ∧ WPr X.K Y W σ H (f S) fun r => ∀ v H', Sat X.K Y F r.2 σ H' → Rep X.K Y H' v r.1 → pureD r.1 = true → Q v H'
/-- y.pop() -/
def xPop (loc : List Slot → Res Lc) (S : List Slot) : Res (D × List Slot) := loc S >>= fun lc => match getL S lc with
  | some (.lst ds) => match ds[ds.length - 1]? with
    | some d => if pureD d = true then .ok (d, putL false S (.lst ds.dropLast) lc) else .stuck
    | none => .stuck
  | _ => .stuck
/-- y.pop(k) -/
def xPopAt (loc : List Slot → Res Lc) (f : En → Res D) (S : List Slot) : Res (D × List Slot) := loc S >>= fun lc => match getL S lc with
  | some (.lst ds) => f (en S) >>= fun k => match k with
    | .int k => match ixN ds.length k with
      | some j => match ds[j]? with
        | some d => if (pureD d && szOk ds.length) = true then .ok (d, putL false S (.lst (ds.take j ++ ds.drop (j + 1))) lc) else .stuck
        | none => .stuck
      | none => .stuck
    | _ => .stuck
  | _ => .stuck
section
variable {X : Cx} {Y : Cl} {W : Wh} {M : Md} {a e o : Expr} {fa fe : En → Res D} {pos p : Pos} {loc : List Slot → Res Lc}
theorem pop_core {K : PySem.W.Frag} {F H H2 : Hp} {S : List Slot} {σ : St} {lc : Lc} {ds : List D} {d : D} {j : Nat} {v : V} {Q : VK} (s : Sat K Y F S σ H) (s2 : Same H H2) (at_ : AtL σ H lc v) (qg : getL S lc = some (.lst ds)) (hd : ds[j]? = some d) (hp : pureD d = true)
    (h : ∀ u H', Sat K Y F (putL false S (.lst (ds.take j ++ ds.drop (j + 1))) lc) σ H' → Rep K Y H' u d → pureD d = true → Q u H') : ∃ p vs u, v = .ref p ∧ H2 p = some (.lst vs) ∧ vs.length = ds.length ∧ vs[j]? = some u ∧ Q u (upd H2 p (.lst (vs.take j ++ vs.drop (j + 1)))) := by
  obtain ⟨v0, fl, av, ov, nd, _, cl⟩ := s.openL qg
  have ev : v0 = v := av.one at_
  subst ev
  obtain ⟨p0, vs, g, rfl, hpp, ow, rfl⟩ := ov.lst_inv (p := 0)
  have hp2 := s2 _ _ hpp
  obtain ⟨u, hu, ru⟩ := ow.reps.get hd
  have ndg := List.nodup_cons.mp nd
  obtain ⟨f', n1, n2, n3⟩ := (ow.mono s2).erase ndg.2 j
  have hn : p0 ∉ f' := fun z => ndg.1 (n2 p0 z)
  refine ⟨p0, vs, u, rfl, hp2, ow.length, hu, h u _ (cl false _ _ (p0 :: f') (fun q o hq ho => (out_upd (fl := p0 :: g) List.mem_cons_self) q o hq (s2 _ _ ho)) (.lst upd_same (n3.upd hp2 rfl hn)) (List.nodup_cons.mpr ⟨hn, n1⟩) (fun q hq => .inl ?_) (fun z => nomatch z)) ((ru.mono s2).fix (fix_upd hp2 rfl) hp) hp⟩
  rcases List.mem_cons.mp hq with rfl | hq
  · exact List.mem_cons_self
  · exact List.mem_cons_of_mem _ (n2 q hq)
theorem dropLast_td {α : Type} (l : List α) : l.take (l.length - 1) ++ l.drop (l.length - 1 + 1) = l.dropLast := by
  rw [List.dropLast_eq_take]
  by_cases h : l.length = 0
  · have : l = [] := List.length_eq_zero_iff.mp h
    subst this
    rfl
  · rw [List.drop_of_length_le (by omega), List.append_nil]
theorem je_pop {apos cpos : Pos} (ho : JLc X Y W o loc) (hbase : attributeBase o "pop" X.env (eval o X.env) = eval o X.env := by rfl) (hline : (apos.endLine == cpos.line) = true := by rfl) : JE X Y W (.Call (.Attribute o "pop" apos) [] [] cpos) (xPop loc) :=
  PE.imp (pe_bm0 F.plainAttrs_list F.slot_list_pop (by with_unfolding_all rfl) mt_pop ho hbase hline) fun σ H Q ⟨F, S, s, h⟩ => by
    refine ⟨F, S, s, (WPr.bind h).imp (Same.refl H) fun lc q v H1 s1 at_ => ?_⟩
    split at q
    · rename_i ds qg
      split at q
      · rename_i d hd
        split at q
        · rename_i hp
          have q : ∀ v H', Sat X.K Y F (putL false S (.lst ds.dropLast) lc) σ H' → Rep X.K Y H' v d → pureD d = true → Q v H' := q
          rw [← dropLast_td] at q
          obtain ⟨p0, vs, u, rfl, hp2, hl, hu, hq⟩ := pop_core (s.ext s1) (Same.refl H1) at_ qg hd hp q
          rw [← hl, dropLast_td] at hq
          exact ⟨.inl ⟨rfl, vs, SqL.of hp2⟩, p0, vs, u, rfl, rfl, hp2, by rw [hl]; exact hu, hq⟩
        · exact q.elim
      · exact q.elim
    · exact q.elim
theorem je_popAt {apos cpos : Pos} (ho : JLc X Y W o loc) (ha : J X Y W .r a fa) (hbase : attributeBase o "pop" X.env (eval o X.env) = eval o X.env := by rfl)
    (hfew : ((backTo cpos (starEach (a :: []) X.env)).all (fun x => !x.1) && (backToKw cpos (keywordEach [] X.env)).all (fun x => x.1.isSome)
      && decide ((a :: []).length + ([] : List Keyword).length + (if ([] : List Keyword).isEmpty then 0 else 1) < 30)) = true := by rfl)
    (hline : (apos.endLine == cpos.line) = true := by rfl) (hs : starEach (a :: []) X.env = (false, eval a X.env) :: starEach [] X.env := by rfl) (hplain : (backTo cpos (starEach [] X.env)).any (·.1) = false := by rfl) :
    JE X Y W (.Call (.Attribute o "pop" apos) [a] [] cpos) (xPopAt loc fa) :=
  PE.imp (pe_bm F.plainAttrs_list F.slot_list_pop (by with_unfolding_all rfl) mt_popAt ho (pa_cons ha pa_nil hs) hbase hfew hline hs hplain) fun σ H Q ⟨F, S, s, h⟩ => by
    refine ⟨F, S, s, (WPr.bind h).imp (Same.refl H) fun lc q v H1 s1 at_ => ?_⟩
    split at q
    · rename_i ds qg
      obtain ⟨v0, fl, av, ov, nd, _, cl⟩ := (s.ext s1).openL qg
      have ev : v0 = v := av.one at_
      subst ev
      refine ⟨tyV_own ov, en S, (s.ext s1).en, (WPr.bind q).imp s1 fun k q2 w H2 s2 r2 => ?_⟩
      cases r2 with
      | @int k =>
        have q2 : WPr X.K Y W σ H (match ixN ds.length k with
          | some j => match ds[j]? with
            | some d => if (pureD d && szOk ds.length) = true then .ok (d, putL false S (.lst (ds.take j ++ ds.drop (j + 1))) lc) else .stuck
            | none => .stuck
          | none => .stuck) fun r => ∀ v H', Sat X.K Y F r.2 σ H' → Rep X.K Y H' v r.1 → pureD r.1 = true → Q v H' := q2
        split at q2
        · rename_i j hj
          split at q2
          · rename_i d hd
            split at q2
            · rename_i hpz
              have hpz := Bool.and_eq_true_iff.mp hpz
              have q2 : ∀ v H', Sat X.K Y F (putL false S (.lst (ds.take j ++ ds.drop (j + 1))) lc) σ H' → Rep X.K Y H' v d → pureD d = true → Q v H' := q2
              obtain ⟨p0, vs, u, rfl, hp2, hl, hu, hq⟩ := pop_core (s.ext s1) s2 at_ qg hd hpz.1 q2
              obtain ⟨e1, e2, e3, e4⟩ := ixN_seq hj
              have hz := szOk_le hpz.2
              rw [sizeLine_eq] at hz
              refine ⟨p0, vs, k, j, u, rfl, rfl, hp2, by omega, by omega, by rw [hl]; exact e1, hu, ?_⟩
              rw [List.eraseIdx_eq_take_drop_succ]
              exact hq
            · exact q2.elim
          · exact q2.elim
        · exact q2.elim
      | _ => exact q2.elim
    · exact q.elim
end
end Ow
end
section
set_option linter.all false
set_option maxRecDepth 100000
set_option maxHeartbeats 2000000
/-! Ow18: defs that change what they are handed. -/
namespace Ow
open PySem L2 PySem.Spec
/-- a def that changes its m-th parameter: what it comes to, and that parameter's data behind it -/
def runM (k m : Nat) (g : List Slot → Res Fl) (ds : List D) : Res (D × D) := match ds[m]? with
  | some d => g ((ds.map Slot.fz).set m (.own d) ++ List.replicate k Slot.un) >>= fun r => match r with
    | .rt d S' => (match S'[m]? with
      | some (.own dm) => if pureD d = true then .ok (d, dm) else .stuck
      | _ => .stuck)
    | .nx S' => (match S'[m]? with
      | some (.own dm) => .ok (.non, dm)
      | _ => .stuck)
    | _ => .stuck
  | none => .stuck
def spFnM (K : PySem.W.Frag) (Y : Cl) (n m : Nat) (sem : List D → Res (D × D)) : Sp := fun vs H Q E => ∃ ds d0 fl vm, vs.length = n ∧ ds.length = n ∧ m < n ∧ vs[m]? = some vm ∧ ds[m]? = some d0 ∧ Own K Y H vm d0 fl ∧ fl.Nodup ∧ (∀ i v d, i ≠ m → vs[i]? = some v → ds[i]? = some d → Rep K Y (lessH fl H) v d) ∧
  match sem ds with
  | .ok (r, dm) => ∀ v H' fl', Out fl H H' → Own K Y H' vm dm fl' → fl'.Nodup → (∀ p ∈ fl', p ∈ fl ∨ H p = none) → Rep K Y H' v r → pureD r = true → Q v H'
  | _ => False
section
variable {K : PySem.W.Frag} {Y : Cl} {H : Hp}
theorem sat_startM {N : List Str} {vs : List V} {ds : List D} {n m k : Nat} {vm : V} {d0 : D} {fl : List Addr} (hv : vs.length = n) (hd : ds.length = n) (hmn : m < n) (hvm : vs[m]? = some vm) (hdm : ds[m]? = some d0) (o : Own K Y H vm d0 fl) (nd : fl.Nodup)
    (r : ∀ i v d, i ≠ m → vs[i]? = some v → ds[i]? = some d → Rep K Y (lessH fl H) v d) (hN : N.length = n + k) : Sat K Y (lessH fl H) ((ds.map Slot.fz).set m (.own d0) ++ List.replicate k Slot.un) (L2.start N vs) H := by
  have nfx : ∀ p ∈ fl, ∀ u, H p = some u → fixO u = false := fun p hp u e => by
    obtain ⟨u', a, b⟩ := o.there p hp
    rw [e] at a
    cases a
    exact b
  have hst : ∀ i, i < n → ∀ v, vs[i]? = some v → (L2.start N vs)[i]? = some (some v) := fun i hi v e => by
    unfold L2.start
    rw [List.getElem?_append_left (by simp; omega), List.getElem?_map, e]
    rfl
  refine ⟨lessH fl H, fun _ => m, fun i => if i = m then fl else [], Same.refl _, lessH_to, fun p u e hf => ?_, ?_, fun i x hx => ?_⟩
  · rw [lessH_out fun hm => by rw [nfx p hm u e] at hf; cases hf]
    exact e
  · unfold L2.start
    simp
    omega
  · by_cases hi : i < n
    · rw [List.getElem?_append_left (by simp; omega)] at hx
      by_cases him : i = m
      · subst him
        rw [List.getElem?_set_self (by simp; omega)] at hx
        cases hx
        refine ⟨vm, hst i hi vm hvm, ?_, ?_, ?_⟩
        · simpa using o
        · simpa using nd
        · intro p hp
          have hp : p ∈ fl := by simpa using hp
          exact ⟨rfl, if_pos hp⟩
      · rw [List.getElem?_set_ne (Ne.symm him), List.getElem?_map] at hx
        have h1 : vs[i]? = some vs[i] := List.getElem?_eq_getElem (by omega)
        have h2 : ds[i]? = some ds[i] := List.getElem?_eq_getElem (by omega)
        rw [h2] at hx
        cases hx
        exact ⟨_, hst i hi _ h1, r i _ _ him h1 h2⟩
    · rw [List.getElem?_append_right (by simp; omega)] at hx
      rw [List.eq_of_mem_replicate (List.mem_of_getElem? hx)]
      trivial
end
section
variable {P : Program} {w : World} {K : PySem.W.Frag} {mg : Str → Option Value} {base : Heap} {Y : Cl} {m : Nat}
theorem fnM {x qual : Str} {st : Stmt} {f : Addr} {fd : FuncData} {N ps : List Str} {k n e : Nat} {g : List Slot → Res Fl} (F : Fun K x qual st f fd) (S : FnScope N ps (defScope st)) (hn : ps.length = n) (hm : N.length = n + e)
    (hb : ∀ (cdv : Value) (A : Around) (outer : List Env) (s : Shared) (H : Hp) (E : XK), Room k (A.deeper (PyProof.Rows.envOfC qual (defScope st) s.heap.objs.size f cdv)) →
      JB (cxOf CX0 P w K mg base N qual (defScope st) f cdv A outer s H E).nox Y none (fun i => i != m) (defBody st) g) : FnOk P w K mg base CX0 (k + 1) f fd ps (spFnM K Y n m (runM e m g)) := by
  refine F.ok S (fun vs H Q E ⟨ds, d0, fl, vm, h, _⟩ => by rw [h, hn]) fun cdv A outer s H vs Q E hr ⟨ds, d0, fl, vm, hv, hd, hmn, hvm, hdm, o, nd, r, h⟩ => ⟨_, hb cdv A outer s H E hr, lessH fl H, _, sat_startM hv hd hmn hvm hdm o nd r hm, ?_⟩
  unfold runM at h
  rw [hdm] at h
  show WPs K Y none (fun i => i != m) (lessH fl H) _ _ (g ((ds.map Slot.fz).set m (.own d0) ++ List.replicate e Slot.un))
  have hst : (L2.start N vs)[m]? = some (some vm) := by
    unfold L2.start
    rw [List.getElem?_append_left (by simp; omega), List.getElem?_map, hvm]
    rfl
  have hMm : (fun i => i != m) m = false := by simp
  have fin : ∀ {S' : List Slot} {σ' : L2.St} {H' : Hp} {dm : D}, Sat K Y (lessH fl H) S' σ' H' → σ'[m]? = some (some vm) → S'[m]? = some (.own dm) → ∃ fl', Out fl H H' ∧ Own K Y H' vm dm fl' ∧ fl'.Nodup ∧ ∀ p ∈ fl', p ∈ fl ∨ H p = none := by
    intro S' σ' H' dm s' hσ hS
    obtain ⟨v, fl', a, b, c, d, _⟩ := s'.mut hS
    rw [hσ] at a
    cases a
    refine ⟨fl', fun p u hp hu => s'.same p u (by rw [lessH_out hp]; exact hu), b, c, fun p hp => ?_⟩
    by_cases hpf : p ∈ fl
    · exact .inl hpf
    · have := d p hp
      rw [lessH_out hpf] at this
      exact .inr this
  cases q : g ((ds.map Slot.fz).set m (.own d0) ++ List.replicate e Slot.un) with
  | stuck => simp only [q, stuck_bind] at h
  | exc e => simp only [q, exc_bind] at h
  | ok r =>
    simp only [q, ok_bind] at h
    cases r with
    | bk S' => exact h.elim
    | ct S' => exact h.elim
    | nx S' =>
      intro σ' H' s' st'
      dsimp only at h
      cases q2 : S'[m]? with
      | none => rw [q2] at h; exact h.elim
      | some z =>
        rw [q2] at h
        cases z with
        | own dm =>
          obtain ⟨fl', h1, h2, h3, h4⟩ := fin s' ((st' m hMm).trans hst) q2
          exact h .non H' fl' h1 h2 h3 h4 .non pureD_non
        | _ => exact h.elim
    | rt d S' =>
      intro v H' hr
      obtain ⟨σ', st', s'⟩ := hr
      dsimp only at h
      cases q2 : S'[m]? with
      | none => rw [q2] at h; exact h.elim
      | some z =>
        rw [q2] at h
        cases z with
        | own dm =>
          dsimp only at h
          by_cases hp : pureD d = true
          · rw [if_pos hp] at h
            have hml : m < S'.length := (List.getElem?_eq_some_iff.mp q2).1
            have e1 : (more S' (mk d))[m]? = some (.own dm) := by
              unfold more
              exact setS_ne (by rw [List.getElem?_append_left hml]; exact q2) (fun j z => nomatch z) (by omega)
            have hl := s'.len
            have hl' : S'.length = σ'.length := by
              simp [more, moreV, setS] at hl
              omega
            have e2 : (moreV σ' S'.length v)[m]? = some (some vm) := by
              unfold moreV
              rw [List.getElem?_set_ne (by omega), List.getElem?_append_left (by omega)]
              exact (st' m hMm).trans hst
            obtain ⟨fl', h1, h2, h3, h4⟩ := fin s' e2 e1
            have ro : RetS K Y (fun i => i != m) (lessH fl H) σ' S' H' v d := ⟨σ', Stay.refl _ _, s'⟩
            obtain ⟨_, fp, oo, _⟩ := ro.ok
            exact h v H' fl' h1 h2 h3 h4 oo.rep hp
          · rw [if_neg hp] at h
            exact h.elim
        | _ => exact h.elim
end
/-! ### arguments that do not touch what is changed -/
def FlOk (fl : List Addr) (H : Hp) : Prop := ∀ p ∈ fl, ∃ o, H p = some o ∧ fixO o = false
def JX (X : Cx) (Y : Cl) (W : Wh) (e : Expr) (f : En → Res D) : Prop := PE X e fun σ H Q => ∃ fl en, FlOk fl H ∧ EnOk X.K Y (lessH fl H) σ en ∧ WPr X.K Y W σ H (f en) fun d => ∀ v H1, Same H H1 → Rep X.K Y (lessH fl H1) v d → Q v H1
def AX (X : Cx) (Y : Cl) (W : Wh) (es : List Expr) (f : En → Res (List D)) : Prop := PA X es fun σ H Q => ∃ fl en, FlOk fl H ∧ EnOk X.K Y (lessH fl H) σ en ∧ WPr X.K Y W σ H (f en) fun ds => ∀ vs H1, Same H H1 → Reps X.K Y (lessH fl H1) vs ds → vs.length = es.length → Q vs H1
theorem FlOk.mono {fl : List Addr} {H H' : Hp} (h : FlOk fl H) (s : Same H H') : FlOk fl H' := fun p hp => by
  obtain ⟨o, a, b⟩ := h p hp
  exact ⟨o, s _ _ a, b⟩
theorem FlOk.fix {fl : List Addr} {H : Hp} (h : FlOk fl H) : Fix H (lessH fl H) := fun p u e hf => by
  rw [lessH_out fun hm => by
    obtain ⟨o, a, b⟩ := h p hm
    rw [e] at a
    cases a
    rw [b] at hf
    cases hf]
  exact e
section
variable {X : Cx} {Y : Cl} {W : Wh} {M : Md} {a e o : Expr} {es : List Expr} {fa fe : En → Res D} {fs : En → Res (List D)} {pos p : Pos} {loc : List Slot → Res Lc}
theorem jx_var (i : Nat) {x : Str} (hN : X.N[i]? = some x := by rfl) (hv : Vis X.env.scope x := by first | exact Or.inl rfl | exact Or.inr (Or.inl rfl) | exact Or.inr (Or.inr rfl)) (hd : (x == ("__debug__" : Str)) = false := by decide) (hcd : (x == ("__classdict__" : Str)) = false := by decide) : JX X Y W (.Name x p) (xVar i) :=
  PE.imp (pe_var hN hv hd hcd) fun σ H Q ⟨fl, en, hf, he, h⟩ => by
    unfold xVar at h
    split at h
    · rename_i d q
      obtain ⟨v, hv, r⟩ := he.2 i d q
      exact ⟨v, hv, h v H (Same.refl H) r⟩
    · exact h.elim
theorem jx_p (ha : J X Y W .r a fa) : JX X Y W a (xP fa) :=
  PE.imp ha fun σ H Q ⟨fl, en, hf, he, h⟩ => ⟨en, he.mono lessH_to, (WPr.bind h).imp (Same.refl H) fun d q v H1 s1 r1 => by
    split at q
    · rename_i hp
      exact q v H1 s1 (r1.fix (hf.mono s1).fix hp)
    · exact q.elim⟩
theorem jx_at (i : Nat) {x : Str} {p2 : Pos} (ha : J X Y W .r a fa) (hs : PlainIx a := by exact fun _ _ => rfl) (hN : X.N[i]? = some x := by rfl) (hv : Vis X.env.scope x := by first | exact Or.inl rfl | exact Or.inr (Or.inl rfl) | exact Or.inr (Or.inr rfl)) (hd : (x == ("__debug__" : Str)) = false := by decide) (hcd : (x == ("__classdict__" : Str)) = false := by decide) :
    JX X Y W (.Subscript (.Name x p) a p2) (x2 (fun d k => match d, k with
      | .lst ds, .int k => (match atI ds k with
        | some d => .ok d
        | none => .stuck)
      | _, _ => .stuck) (xL (xVar i)) fa) :=
  PE.imp (pe_ix ix_list (pe_var hN hv hd hcd) ha hs) fun σ H Q ⟨fl, en, hf, he, h⟩ => by
    unfold x2 xL xVar at h
    cases q : en[i]? with
    | none => rw [q] at h; exact h.elim
    | some z =>
      cases z with
      | none => rw [q] at h; exact h.elim
      | some d =>
        rw [q] at h
        obtain ⟨v, hv, r⟩ := he.2 i d q
        have h : WPr X.K Y W σ H ((if isL d = true then Res.ok d else .stuck) >>= fun x => fa en >>= fun y => (match x, y with
          | .lst ds, .int k => (match atI ds k with
            | some d => .ok d
            | none => .stuck)
          | _, _ => .stuck)) fun d => ∀ v H1, Same H H1 → Rep X.K Y (lessH fl H1) v d → Q v H1 := h
        by_cases hl : isL d = true
        · rw [if_pos hl] at h
          refine ⟨v, hv, en, he.mono lessH_to, (WPr.bind (g := fun y => (match d, y with
            | .lst ds, .int k => (match atI ds k with
              | some d => .ok d
              | none => .stuck)
            | _, _ => .stuck)) h).imp (Same.refl H) fun k q2 w H1 s1 r1 => ?_⟩
          cases r with
          | @lst p0 vs ds hp rr =>
            cases r1 with
            | @int kk =>
              have q2 : WPr X.K Y W σ H (match atI ds kk with
                | some d => .ok d
                | none => .stuck) fun d => ∀ v H1, Same H H1 → Rep X.K Y (lessH fl H1) v d → Q v H1 := q2
              split at q2
              · rename_i z hz
                obtain ⟨u, hu, ru⟩ := rr.at hz
                exact ⟨p0, vs, kk, u, rfl, rfl, SqL.of (s1 _ _ (lessH_to _ _ hp)), hu, q2 u H1 s1 (ru.mono (lessH_same s1))⟩
              · exact q2.elim
            | _ => exact q2.elim
          | _ => cases k <;> exact q2.elim
        · rw [if_neg hl] at h
          exact h.elim
theorem ax_nil : AX X Y W [] aNil := PA.imp pa_nil fun σ H Q ⟨fl, en, hf, he, h⟩ => h [] H (Same.refl H) .nil rfl
theorem ax_cons (ha : JX X Y W a fa) (hr : AX X Y W es fs) (hs : starEach (a :: es) X.env = (false, eval a X.env) :: starEach es X.env := by rfl) : AX X Y W (a :: es) (aCons fa fs) :=
  PA.imp (pa_cons ha hr hs) fun σ H Q ⟨fl, en, hf, he, h⟩ => ⟨fl, en, hf, he, (WPr.bind h).imp (Same.refl H) fun d q v H1 s1 r1 => ⟨fl, en, hf.mono s1, he.mono (lessH_same s1), (WPr.bind q).imp s1 fun ds q2 vs H2 s2 r2 l2 => q2 (v :: vs) H2 (s1.trans s2) (.cons (r1.mono (lessH_same s2)) r2) (by simp [l2])⟩⟩
/-- the arguments, the m-th one the changed one -/
def AM (X : Cx) (Y : Cl) (W : Wh) (m : Nat) (es : List Expr) (loc : List Slot → Res Lc) (fs : En → Res (List D)) : Prop := PA X es fun σ H Q => ∃ F S lc d v fl, Sat X.K Y F S σ H ∧ getL S lc = some d ∧ loc S = .ok lc ∧ AtL σ H lc v ∧ FlOk fl H ∧ EnOk X.K Y (lessH fl H) σ (en (unL S lc)) ∧
  WPr X.K Y W σ H (fs (en (unL S lc))) fun ds => ∀ vs H1, Same H H1 → vs[m]? = some v → m < es.length → Reps X.K Y (lessH fl H1) (vs.eraseIdx m) ds → vs.length = es.length → Q vs H1
theorem am_0 (ho : JLc X Y W a loc) (hr : AX X Y W es fs) (hs : starEach (a :: es) X.env = (false, eval a X.env) :: starEach es X.env := by rfl) : AM X Y W 0 (a :: es) loc fs :=
  PA.imp (pa_cons ho hr hs) fun σ H Q ⟨F, S, lc, d, v, fl, s, hg, hl, at_, hf, he, h⟩ => ⟨F, S, s, by
    rw [hl]
    intro v' H1 s1 at1
    have ev : v = v' := (at_.same s1).one at1
    subst ev
    exact ⟨fl, _, hf.mono s1, he.mono (lessH_same s1), h.imp s1 fun ds q vs H2 s2 r2 l2 => q (v :: vs) H2 (s1.trans s2) rfl (by simp) r2 (by simp [l2])⟩⟩
theorem am_s {m : Nat} (ha : JX X Y W a fa) (hr : AM X Y W m es loc fs) (hs : starEach (a :: es) X.env = (false, eval a X.env) :: starEach es X.env := by rfl) : AM X Y W (m + 1) (a :: es) loc (aCons fa fs) :=
  PA.imp (pa_cons ha hr hs) fun σ H Q ⟨F, S, lc, d, v, fl, s, hg, hl, at_, hf, he, h⟩ => ⟨fl, _, hf, he, (WPr.bind h).imp (Same.refl H) fun x q u H1 s1 r1 =>
    ⟨F, S, lc, d, v, fl, s.ext s1, hg, hl, at_.same s1, hf.mono s1, he.mono (lessH_same s1), (WPr.bind q).imp s1 fun ds q2 vs H2 s2 hm hlm r2 l2 => q2 (u :: vs) H2 (s1.trans s2) hm (by simp; omega) (.cons (r1.mono (lessH_same s2)) r2) (by simp [l2])⟩⟩
/-- the call -/
def xCallM (m : Nat) (sem : List D → Res (D × D)) (loc : List Slot → Res Lc) (fs : En → Res (List D)) (S : List Slot) : Res (D × List Slot) := noX (loc S) >>= fun lc => match getL S lc with
  | some d => fs (en (unL S lc)) >>= fun ds => noX (sem (ds.insertIdx m d)) >>= fun r => .ok (r.1, putL false S r.2 lc)
  | none => .stuck
theorem je_callM {CX : CXT} {k n m : Nat} {f : Addr} {fd : FuncData} {ps : List Str} {sem : List D → Res (D × D)} {x : Str} (F : FnOk X.prog X.w X.K X.mg X.base CX0 k f fd ps (spFnM X.K Y n m sem)) (hr : Room k X.A) (hm : X.mg x = some (.ref f)) (hk : PySem.W.keepIn X.K (.ref f) = true) (hb : Binds X.K fd ps []) (ha : AM X Y W m (e :: es) loc fs) (hl : (e :: es).length = n := by rfl) (hg : Gl X x := by rfl)
    (hdb : (x == ("__debug__" : Str)) = false := by decide) (he : starEach (e :: es) X.env = (false, eval e X.env) :: starEach es X.env := by rfl) (hpl : (backTo pos (starEach es X.env)).any (·.1) = false := by rfl) :
    JE X Y W (.Call (.Name x p) (e :: es) [] pos) (xCallM m sem loc fs) :=
  PE.imp (pe_call F hr hg hm hk hb .nil pass0 ha hdb he hpl) fun σ H Q ⟨F, S, s, h⟩ => by
    unfold xCallM at h
    cases ql : loc S with
    | stuck => rw [ql] at h; exact h.elim
    | exc x => rw [ql] at h; exact h.elim
    | ok lc =>
      rw [ql] at h
      have h : WPr X.K Y W σ H (match getL S lc with
        | some d => fs (en (unL S lc)) >>= fun ds => noX (sem (ds.insertIdx m d)) >>= fun r => .ok (r.1, putL false S r.2 lc)
        | none => .stuck) fun r => ∀ v H', Sat X.K Y F r.2 σ H' → Rep X.K Y H' v r.1 → pureD r.1 = true → Q v H' := h
      cases qg : getL S lc with
      | none => rw [qg] at h; exact h.elim
      | some d =>
        rw [qg] at h
        obtain ⟨v, fl, at_, o, nd, _, ls, cl⟩ := s.openL2 qg
        refine ⟨F, S, lc, d, v, fl, s, qg, ql, at_, o.there, ls.en, (WPr.bind h).imp (Same.refl H) fun ds q vs H1 s1 hvm hml r1 l1 => ?_⟩
        show spFnM X.K Y n m sem (vs ++ []) H1 Q _
        rw [List.append_nil]
        have hl2 := r1.length
        have hdl : ds.length + 1 = n := by
          rw [List.length_eraseIdx, if_pos (by omega)] at hl2
          omega
        have hins : (ds.insertIdx m d).length = n := by
          rw [List.length_insertIdx, if_pos (by omega)]
          exact hdl
        refine ⟨ds.insertIdx m d, d, fl, v, l1.trans hl, hins, by omega, hvm, ?_, o.mono s1, nd, fun i v' d' him hv' hd' => ?_, ?_⟩
        · rw [List.getElem?_insertIdx_self, if_pos (by omega)]
        · by_cases hlt : i < m
          · rw [List.getElem?_insertIdx_of_lt hlt] at hd'
            obtain ⟨u, hu, ru⟩ := r1.get hd'
            rw [List.getElem?_eraseIdx_of_lt hlt, hv'] at hu
            cases hu
            exact ru
          · have hgt : m < i := by omega
            rw [List.getElem?_insertIdx_of_gt hgt] at hd'
            obtain ⟨u, hu, ru⟩ := r1.get hd'
            rw [List.getElem?_eraseIdx_of_ge (by omega)] at hu
            rw [show i - 1 + 1 = i by omega, hv'] at hu
            cases hu
            exact ru
        · cases qs : sem (ds.insertIdx m d) with
          | stuck => rw [qs] at q; exact q.elim
          | exc x => rw [qs] at q; exact q.elim
          | ok rd =>
            rw [qs] at q
            obtain ⟨r, dm⟩ := rd
            have q : ∀ v H', Sat X.K Y F (putL false S dm lc) σ H' → Rep X.K Y H' v r → pureD r = true → Q v H' := q
            intro v' H' fl' h1 h2 h3 h4 h5 h6
            refine q v' H' (cl false H' dm fl' (fun p u hp hu => h1 p u hp (s1 _ _ hu)) h2 h3 (fun p hp => (h4 p hp).imp id fun z => s1.free z) (fun z => nomatch z)) h5 h6
theorem locV_calm (i : Nat) : ∀ S err, locV i S ≠ .exc err := fun S err => by unfold locV; split <;> exact fun h => nomatch h
/-! ### statements out of these -/
def sDoE (f : List Slot → Res (D × List Slot)) : List Slot → Res Fl := fun S => f S >>= fun r => .ok (.nx r.2)
def sSetE (i : Nat) (f : List Slot → Res (D × List Slot)) : List Slot → Res Fl := fun S => f S >>= fun r => .ok (.nx (setS r.2 i (.fz r.1)))
theorem s_doE {fe : List Slot → Res (D × List Slot)} (he : JE X Y W e fe) (hs : swapsWith e none pos.line X.env = pure false := by rfl) : JS X Y W M (.Expr e pos) (sDoE fe) :=
  PS.imp (ps_expr he hs) fun D σ H ⟨F, S, s, h⟩ => ⟨F, S, s, (WPs.bindG (σ := σ) h s.same).imp (Same.refl H) fun r q v H1 s1 _ _ => q σ H1 s1 (Stay.refl M σ)⟩
theorem s_setE (i : Nat) {x : Str} {px : Pos} {fe : List Slot → Res (D × List Slot)} (hN : X.N.Nodup) (he : JE X Y W e fe) (hi : X.N[i]? = some x := by rfl) (hx : Loc X.env.scope x := by first | exact Or.inl rfl | exact Or.inr rfl) (hM : M i = true := by rfl) (hs : swapsWith e (some (.Name x px)) pos.line X.env = pure false := by rfl)
    (hf : X.fn x = true ∨ X.env.scope.names.lookup x = some .local := by first | exact .inl rfl | exact .inr rfl) : JS X Y W M (.Assign [.Name x px] e pos) (sSetE i fe) :=
  PS.imp (ps_set hN hi hx he hs hf) fun D σ H ⟨F, S, s, h⟩ => ⟨F, S, s, (WPs.bindG (σ := σ) h s.same).imp (Same.refl H) fun r q v H1 s1 r1 hp => q _ _ (s1.setPure (Same.refl H1) r1 hp) (Stay.set hM)⟩
/-- tests that change a slot -/
def TE' (X : Cx) (Y : Cl) (W : Wh) (e : Expr) (f : List Slot → Res (Bool × List Slot)) : Prop := PT X e fun σ H Q => ∃ F S, Sat X.K Y F S σ H ∧ WPr X.K Y W σ H (f S) fun r => ∀ H', Sat X.K Y F r.2 σ H' → Q r.1 H'
def uBl (f : List Slot → Res (D × List Slot)) : List Slot → Res (Bool × List Slot) := fun S => f S >>= fun r => match r.1 with
  | .bl b => .ok (b, r.2)
  | _ => .stuck
def uNo (f : List Slot → Res (Bool × List Slot)) : List Slot → Res (Bool × List Slot) := fun S => f S >>= fun r => .ok (!r.1, r.2)
def uOr (f : List Slot → Res (Bool × List Slot)) (g : En → Res Bool) : List Slot → Res (Bool × List Slot) := fun S => f S >>= fun r => if r.1 = true then .ok (true, r.2) else g (en r.2) >>= fun b => .ok (b, r.2)
def sIfE (c : List Slot → Res (Bool × List Slot)) (f g : List Slot → Res Fl) : List Slot → Res Fl := fun S => c S >>= fun r => if r.1 = true then f r.2 else g r.2
theorem tb_val {fe : List Slot → Res (D × List Slot)} (h : JE X Y W e fe) (he : ∀ whole, isTrue e X.env whole = (do let v ← whole; standAt e.pos; holding [v] (truthy v)) := by intro _; rfl) : TE' X Y W e (uBl fe) :=
  PT.imp (pt_val h he) fun σ H Q ⟨F, S, s, h⟩ => ⟨F, S, s, (WPr.bind h).imp (Same.refl H) fun r q v H1 s1 r1 hp => by
    obtain ⟨d, S'⟩ := r
    cases d with
    | bl b =>
      cases r1
      exact ⟨b, rfl, q H1 s1⟩
    | _ => exact q.elim⟩
theorem tb_not {g : List Slot → Res (Bool × List Slot)} (h : TE' X Y W e g) : TE' X Y W (.UnaryOp .Not e pos) (uNo g) :=
  PT.imp (pt_not h) fun σ H Q ⟨F, S, s, h⟩ => ⟨F, S, s, (WPr.bind h).imp (Same.refl H) fun r q H1 s1 => q H1 s1⟩
theorem s_ifE {c : Expr} {ga : List Slot → Res (Bool × List Slot)} {sa sb : List Stmt} {f g : List Slot → Res Fl} (hc : TE' X Y W c ga) (ha : JB X Y W M sa f) (hb : JB X Y W M sb g) : JS X Y W M (.If c sa sb pos) (sIfE ga f g) :=
  PS.imp (ps_if hc ha hb) fun D σ H ⟨F, S, s, h⟩ => ⟨F, S, s, (WPs.bindG (σ := σ) h s.same).imp (Same.refl H) fun r p H1 s1 => by
    obtain ⟨b, S'⟩ := r
    cases b with
    | true => exact ⟨F, S', s1, p⟩
    | false => exact ⟨F, S', s1, p⟩⟩
end
end Ow
end
section
set_option linter.all false
set_option maxRecDepth 100000
set_option maxHeartbeats 2000000
/-! Ow19: targets; lists put together that share their items; loops out of pops; four names at once. -/
namespace Ow
open PySem L2 PySem.Spec
section
variable {X : Cx} {Y : Cl} {W : Wh} {M : Md} {a b e : Expr} {fa fb fe : En → Res D} {pos p p2 : Pos}
theorem pgn (i : Nat) {x : Str} {px : Pos} (hN : X.N.Nodup) (hi : X.N[i]? = some x := by rfl) (hx : Loc X.env.scope x := by first | exact Or.inl rfl | exact Or.inr rfl) (hf : X.fn x = true ∨ X.env.scope.names.lookup x = some .local := by first | exact .inl rfl | exact .inr rfl) : PG X (.Name x px) (gName i) := pg_name hN hi hx hf
theorem pgn2 (i j : Nat) {x y : Str} {px py pt : Pos} {kt : Nat} (hc : X.calm = true) (hN : X.N.Nodup) (hi : X.N[i]? = some x := by rfl) (hj : X.N[j]? = some y := by rfl) (hx : Loc X.env.scope x := by first | exact Or.inl rfl | exact Or.inr rfl) (hy : Loc X.env.scope y := by first | exact Or.inl rfl | exact Or.inr rfl)
    (hfx : X.fn x = true ∨ X.env.scope.names.lookup x = some .local := by first | exact .inl rfl | exact .inr rfl) (hfy : X.fn y = true ∨ X.env.scope.names.lookup y = some .local := by first | exact .inl rfl | exact .inr rfl)
    (hn : (assignEach [.Name x px, .Name y py] X.env).length = 2 := by rfl) (hst : (assignEach [.Name x px, .Name y py] X.env).findIdx? (·.1) = none := by rfl) (h1 : (assignEach (.Name x px :: [.Name y py]) X.env).map (·.2) = assign (.Name x px) X.env :: (assignEach [.Name y py] X.env).map (·.2) := by rfl)
    (h2 : (assignEach (.Name y py :: []) X.env).map (·.2) = assign (.Name y py) X.env :: (assignEach [] X.env).map (·.2) := by rfl) : PG X (.Tuple [.Name x px, .Name y py] kt pt) (g2 X.K i j) := pg_pair hc hN hi hj hx hy hfx hfy hn hst h1 h2
/-- list + list, read -/
def oCatR : D → D → Res D
  | .lst as, .lst bs => if szOk (as.length + bs.length) = true then .ok (.lst (as ++ bs)) else .stuck
  | _, _ => .stuck
theorem oCatR_calm : Calm2 oCatR := calm2_ite fun d e => by unfold oCatR; split <;> (try split) <;> simp
theorem j_catR (ha : J X Y W .r a fa) (hb : J X Y W .r b fb) : J X Y W .r (.BinOp a .Add b pos) (x2 oCatR fa fb) :=
  j_op op_cat (fun H x y d e Q rx ry ⟨z, hz, po⟩ => by
    unfold oCatR at hz
    split at hz
    · split at hz
      · rename_i hc
        cases hz
        cases rx with
        | lst h1 r1 =>
          cases ry with
          | lst h2 r2 =>
            refine ⟨_, _, _, _, rfl, rfl, h1, h2, by rw [r1.length, r2.length]; exact szOk_le hc, fun p hp => ?_⟩
            exact po _ _ (same_new hp) (.lst upd_same ((r1.append r2).mono (same_new hp)))
      · cases hz
    · cases hz) oCatR_calm ha hb
variable {lo hi : Option Expr} {fl fh : En → Res (Option Int)}
def xSlR (f : En → Res D) (l h : En → Res (Option Int)) : En → Res D := fun en => f en >>= fun d => l en >>= fun lo => h en >>= fun hi => match d with
  | .lst ds => .ok (.lst (cutG ds lo hi))
  | _ => .stuck
theorem j_sliceR (ha : J X Y W .r a fa) (hl : O X Y W lo fl) (hh : O X Y W hi fh) : J X Y W .r (.Subscript a (.Slice lo hi none p2) pos) (xSlR fa fl fh) :=
  PE.imp (pe_slice sl_list ha hl hh) fun σ H Q ⟨en, he, h⟩ => by
    refine ⟨en, he, (WPr.bind h).imp (Same.refl H) fun d p => ?_⟩
    intro v H1 s1 r1
    refine ⟨en, he.mono s1, (WPr.bindO p).imp s1 fun l q => ?_⟩
    intro H2 s2
    refine ⟨en, he.mono (s1.trans s2), (WPr.bindO q).imp (s1.trans s2) fun h q2 => ?_⟩
    intro H3 s3
    have r3 := r1.mono (s2.trans s3)
    have s13 := s1.trans (s2.trans s3)
    cases r3 with
    | @lst p0 vs ds hp rr =>
      refine ⟨p0, vs, rfl, SqL.of hp, fun l hl => ?_⟩
      have q2 : Po X.K Y .r (.lst (cutG ds _ _)) H Q := q2
      exact q2 _ _ (s13.trans (same_new hl)) (.lst upd_same ((rr.cut _ _).mono (same_new hl)))
    | _ => exact q2.elim
end
/-! a loop over y[pop] -/
def srcE (v : Nat) (f : List Slot → Res (D × List Slot)) (S : List Slot) : Res (List D × List Slot) := match (frzV v S)[v]? with
  | some (.fz (.lst ds)) => f (frzV v S) >>= fun r => match r.1 with
    | .int j => match atI ds j with
      | some d => itD d >>= fun l => .ok (l, r.2)
      | _ => .stuck
    | _ => .stuck
  | _ => .stuck
section
variable {X : Cx} {Y : Cl} {W : Wh} {M : Md} {e tg : Expr} {fe : List Slot → Res (D × List Slot)} {p : Pos} {i : Nat}
theorem is_atE (v : Nat) {y : Str} {py : Pos} (he : JE X Y W e fe) (hs : PlainIx e := by exact fun _ _ => rfl) (hv : X.N[v]? = some y := by rfl) (hvy : Vis X.env.scope y := by first | exact Or.inl rfl | exact Or.inr (Or.inl rfl) | exact Or.inr (Or.inr rfl)) (hd : (y == ("__debug__" : Str)) = false := by decide) (hcd : (y == ("__classdict__" : Str)) = false := by decide) :
    IS X Y W tg (.Subscript (.Name y py) e p) (gName i) (srcE v fe) (b1 i) := ⟨_, pi_list (pe_ix ix_list (pe_var hv hvy hd hcd) he hs), fun σ H R ⟨F, S, s, h⟩ => by
  obtain ⟨F', f1, f2, s', hz⟩ := s.frzV v
  unfold srcE at h
  split at h
  · rename_i ds q
    obtain ⟨u, hu, ru⟩ := hz v _ q
    refine ⟨u, hu, F', _, s', (WPr.bind h).imp (Same.refl H) fun r q v2 H2 s2 r2 hp => ?_⟩
    obtain ⟨d, S'⟩ := r
    cases r2 with
    | @int j =>
      have q : WPr X.K Y W σ H (match atI ds j with
        | some d => itD d >>= fun l => .ok (l, S')
        | _ => .stuck) fun r => ∀ (J : It) (H1 F1 : Hp), Same F F1 → Sat X.K Y F1 r.2 σ H1 → ItOk X.K Y J (gName i) r.1 (b1 i) F1 → R J H1 := q
      cases q3 : atI ds j with
      | none => rw [q3] at q; exact q.elim
      | some d3 =>
        rw [q3] at q
        cases ru with
        | @lst a vs _ ha r =>
          obtain ⟨u3, hu3, ru3⟩ := r.at q3
          have q : WPr X.K Y W σ H (itD d3 >>= fun l => .ok (l, S')) fun r => ∀ (J : It) (H1 F1 : Hp), Same F F1 → Sat X.K Y F1 r.2 σ H1 → ItOk X.K Y J (gName i) r.1 (b1 i) F1 → R J H1 := q
          cases z : itD d3 with
          | stuck => rw [z] at q; exact q.elim
          | exc x => cases d3 <;> cases z
          | ok l =>
            rw [z] at q
            obtain ⟨a3, vs3, rfl, hs3, rs3⟩ := itD_rep ru3 z
            have s2' : Sat X.K Y F' S' σ H2 := s2
            exact ⟨a, vs, j, .ref a3, rfl, rfl, SqL.of (s2'.same _ _ ha), hu3, a3, rfl, ⟨vs3, s2'.same.seq hs3⟩, q _ H2 F' f1 s2' (itok_l hs3 rs3)⟩
    | _ => exact q.elim
  · exact h.elim⟩
end
end Ow
end
section
set_option linter.all false
set_option maxRecDepth 100000
set_option maxHeartbeats 2000000
/-! Ow20: a name's list handed to another list; a popped thing appended. -/
namespace Ow
open PySem L2 PySem.Spec
def sAppV (loc : List Slot → Res Lc) (y : Nat) : List Slot → Res Fl := fun S => loc S >>= fun lc => match getL (setS S y .un) lc, S[y]? with
  | some (.lst ds), some (.own d) => if szOk (ds.length + 1) = true then .ok (.nx (putL true (setS S y .un) (.lst (ds ++ [d])) lc)) else .stuck
  | some (.lst ds), some (.fz d) => if (pureD d && szOk (ds.length + 1)) = true then .ok (.nx (putL true S (.lst (ds ++ [d])) lc)) else .stuck
  | _, _ => .stuck
def sAppE (s : Nat) (f : List Slot → Res (D × List Slot)) : List Slot → Res Fl := fun S => match S[s]? with
  | some (.own (.lst _)) => f S >>= fun r => match r.2[s]? with
    | some (.own (.lst ds)) => if szOk (ds.length + 1) = true then .ok (.nx (r.2.set s (.own (.lst (ds ++ [r.1]))))) else .stuck
    | _ => .stuck
  | _ => .stuck
section
variable {X : Cx} {Y : Cl} {W : Wh} {M : Md} {e o : Expr} {pos p : Pos} {loc : List Slot → Res Lc}
theorem getL_un {S : List Slot} {lc : Lc} {y : Nat} {d : D} (h : getL (setS S y .un) lc = some d) : getL S lc = some d := by
  have key : ∀ (s : Nat) (e : D), (setS S y .un)[s]? = some (Slot.own e) → S[s]? = some (Slot.own e) := fun s e he => by
    rcases setS_get he with ⟨_, z, _⟩ | ⟨_, x, hx, hxy⟩
    · cases z
    · rcases kill_ne hxy with ⟨z, _⟩ | ⟨rfl, _⟩
      · cases z
      · exact hx
  cases lc with
  | top s =>
    have h' : (match (setS S y .un)[s]? with
      | some (.own d) => some d
      | _ => none) = some d := h
    show (match S[s]? with
      | some (.own d) => some d
      | _ => none) = some d
    split at h'
    · rename_i q
      rw [key s _ q]
      exact h'
    · cases h'
  | it s j =>
    have h' : (match (setS S y .un)[s]? with
      | some (.own (.lst ds)) => ds[j]?
      | _ => none) = some d := h
    show (match S[s]? with
      | some (.own (.lst ds)) => ds[j]?
      | _ => none) = some d
    split at h'
    · rename_i q
      rw [key s _ q]
      exact h'
    · cases h'
theorem s_appV (y : Nat) {x : Str} {apos cpos px : Pos} (ho : JLc X Y W o loc) (hN : X.N[y]? = some x := by rfl) (hv : Vis X.env.scope x := by first | exact Or.inl rfl | exact Or.inr (Or.inl rfl) | exact Or.inr (Or.inr rfl)) (hd : (x == ("__debug__" : Str)) = false := by decide) (hcd : (x == ("__classdict__" : Str)) = false := by decide)
    (hbase : attributeBase o "append" X.env (eval o X.env) = eval o X.env := by rfl)
    (hfew : ((backTo cpos (starEach ((.Name x px) :: []) X.env)).all (fun x => !x.1) && (backToKw cpos (keywordEach [] X.env)).all (fun x => x.1.isSome)
      && decide (((.Name x px : Expr) :: []).length + ([] : List Keyword).length + (if ([] : List Keyword).isEmpty then 0 else 1) < 30)) = true := by rfl)
    (hline : (apos.endLine == cpos.line) = true := by rfl) (hs : starEach ((.Name x px) :: []) X.env = (false, eval (.Name x px) X.env) :: starEach [] X.env := by rfl) (hplain : (backTo cpos (starEach [] X.env)).any (·.1) = false := by rfl)
    (hsw : swapsWith (.Call (.Attribute o "append" apos) [.Name x px] [] cpos) none pos.line X.env = pure false := by rfl) :
    JS X Y W M (.Expr (.Call (.Attribute o "append" apos) [.Name x px] [] cpos) pos) (sAppV loc y) :=
  PS.imp (ps_expr (pe_bm F.plainAttrs_list F.slot_list_append (by with_unfolding_all rfl) mt_append ho (pa_cons (pe_var hN hv hd hcd) pa_nil hs) hbase hfew hline hs hplain) hsw) fun D' σ H ⟨F, S, s, h⟩ => by
    refine ⟨F, S, s, (WPs.bindG h s.same).imp (Same.refl H) fun lc q v H1 s1 at_ => ?_⟩
    have S1 := s.ext s1
    split at q
    · rename_i ds d hg hy
      split at q
      · rename_i hz
        obtain ⟨u, fy, hu, oy, ndy, _, less, _⟩ := S1.mut2 hy
        have S2 := less fy (fun _ h => h)
        obtain ⟨v0, fl, a, b, c, _, cl⟩ := S2.openL hg
        have ev : v0 = v := (a.same lessH_to).one at_
        subst ev
        obtain ⟨p0, vs, g, rfl, hp, ow, rfl⟩ := b.lst_inv (p := 0)
        have hp1 : H1 p0 = some (.lst vs) := lessH_to _ _ hp
        have ow1 := ow.mono (lessH_to (fl := fy))
        have hl := ow.length
        have nd' := List.nodup_cons.mp c
        have dis : ∀ q ∈ p0 :: g, q ∉ fy := fun q hq hm => by
          obtain ⟨o, ho, _⟩ := b.there q hq
          unfold lessH at ho
          rw [if_pos hm] at ho
          cases ho
        have hz' := szOk_lt (n := ds.length) (by unfold szOk at hz ⊢; simp at hz ⊢; omega)
        refine ⟨.inl ⟨rfl, vs, SqL.of hp1⟩, u, hu, p0, vs, u, rfl, rfl, hp1, by omega, q σ _ (cl true _ _ (p0 :: (g ++ fy)) (fun q o hq ho => ?_) (.lst upd_same ?_) ?_ ?_ ?_) (Stay.refl M σ)⟩
        · rw [upd_ne (show q ≠ p0 from fun z => hq (by rw [z]; exact List.mem_cons_self))]
          exact lessH_to _ _ ho
        · exact Owns.append (ow1.upd hp1 rfl nd'.1) ((Owns.one oy).upd hp1 rfl (dis p0 List.mem_cons_self))
        · refine List.nodup_cons.mpr ⟨fun hm => (List.mem_append.mp hm).elim nd'.1 (dis p0 List.mem_cons_self), List.nodup_append.mpr ⟨nd'.2, ndy, fun x hx y hy e => ?_⟩⟩
          subst e
          exact dis x (List.mem_cons_of_mem _ hx) hy
        · intro q hq
          rcases List.mem_cons.mp hq with rfl | hq
          · exact .inl List.mem_cons_self
          · rcases List.mem_append.mp hq with hq | hq
            · exact .inl (List.mem_cons_of_mem _ hq)
            · exact .inr (if_pos hq)
        · intro _ ds0 p1 vs0 e1 e2 e3
          cases e1
          cases e2
          rw [hp] at e3
          cases e3
          refine ⟨_, _, rfl, upd_same, fun j x hj hx => ⟨by simp; omega, ?_⟩⟩
          rw [List.getElem?_append_left (List.getElem?_eq_some_iff.mp hx).1]
          exact hx
      · exact q.elim
    · rename_i ds d hg hy
      split at q
      · rename_i hz
        have hz := Bool.and_eq_true_iff.mp hz
        have hg' := getL_un hg
        obtain ⟨u, hu, ru⟩ := S1.en.2 y d (by unfold en; rw [List.getElem?_map, hy]; rfl)
        obtain ⟨v0, fl, a, b, c, _, cl⟩ := S1.openL hg'
        have ev : v0 = v := a.one at_
        subst ev
        refine ⟨tyV_own b, u, hu, mk_app H1 v0 _ fl [u] [d] [] _ true (fun _ H3 => D'.nx σ H3) b c (Owns.pur (.cons ru .nil) (by rw [pureDs_cons, hz.1, pureDs_nil]; rfl)) .nil (fun _ _ z => nomatch z) (by show (if szOk (ds.length + 1) = true then some (D.lst (ds ++ [d]), true) else none) = _; rw [if_pos hz.2]) fun H' fl' o1 o2 o3 o4 o5 => q σ H' (cl true H' _ fl' o1 o2 o3 (fun p hp => (o4 p hp).elim .inl (fun z => nomatch z)) o5) (Stay.refl M σ)⟩
      · exact q.elim
    · exact q.elim
theorem s_appE (s : Nat) {x : Str} {apos cpos px : Pos} {fe : List Slot → Res (D × List Slot)} (he : JE X Y W e fe) (hN : X.N[s]? = some x := by rfl) (hv : Vis X.env.scope x := by first | exact Or.inl rfl | exact Or.inr (Or.inl rfl) | exact Or.inr (Or.inr rfl)) (hd : (x == ("__debug__" : Str)) = false := by decide) (hcd : (x == ("__classdict__" : Str)) = false := by decide)
    (hbase : attributeBase (.Name x px) "append" X.env (eval (.Name x px) X.env) = eval (.Name x px) X.env := by rfl)
    (hfew : ((backTo cpos (starEach (e :: []) X.env)).all (fun x => !x.1) && (backToKw cpos (keywordEach [] X.env)).all (fun x => x.1.isSome)
      && decide ((e :: []).length + ([] : List Keyword).length + (if ([] : List Keyword).isEmpty then 0 else 1) < 30)) = true := by rfl)
    (hline : (apos.endLine == cpos.line) = true := by rfl) (hs : starEach (e :: []) X.env = (false, eval e X.env) :: starEach [] X.env := by rfl) (hplain : (backTo cpos (starEach [] X.env)).any (·.1) = false := by rfl)
    (hsw : swapsWith (.Call (.Attribute (.Name x px) "append" apos) [e] [] cpos) none pos.line X.env = pure false := by rfl) :
    JS X Y W M (.Expr (.Call (.Attribute (.Name x px) "append" apos) [e] [] cpos) pos) (sAppE s fe) :=
  PS.imp (ps_expr (pe_bm F.plainAttrs_list F.slot_list_append (by with_unfolding_all rfl) mt_append (pe_var hN hv hd hcd) (pa_cons he pa_nil hs) hbase hfew hline hs hplain) hsw) fun D' σ H ⟨F, S, st, h⟩ => by
    unfold sAppE at h
    split at h
    · rename_i ds0 q0
      obtain ⟨v, fl0, hv, o0⟩ := st.own_at q0
      refine ⟨v, hv, tyV_own o0, F, S, st, (WPs.bindG (σ := σ) h st.same).imp (Same.refl H) fun r q u H1 s1 ru hp => ?_⟩
      obtain ⟨d, S'⟩ := r
      have q : WPs X.K Y W M F D' σ (match S'[s]? with
        | some (.own (.lst ds)) => if szOk (ds.length + 1) = true then .ok (.nx (S'.set s (.own (.lst (ds ++ [d]))))) else .stuck
        | _ => .stuck) := q
      split at q
      · rename_i ds q1
        split at q
        · rename_i hz
          have hg : getL S' (.top s) = some (.lst ds) := by
            show (match S'[s]? with
              | some (.own d) => some d
              | _ => none) = _
            rw [q1]
          obtain ⟨v0, fl, a, b, c, _, cl⟩ := s1.openL hg
          have ev : v0 = v := by
            have a' : σ[s]? = some (some v0) := a
            rw [hv] at a'
            cases a'
            rfl
          subst ev
          exact mk_app H1 v0 _ fl [u] [d] [] _ true (fun _ H3 => D'.nx σ H3) b c (Owns.pur (.cons ru .nil) (by rw [pureDs_cons, hp, pureDs_nil]; rfl)) .nil (fun _ _ z => nomatch z) (by show (if szOk (ds.length + 1) = true then some (D.lst (ds ++ [d]), true) else none) = _; rw [if_pos hz]) fun H' fl' o1 o2 o3 o4 o5 => q σ H' (cl true H' _ fl' o1 o2 o3 (fun p hp => (o4 p hp).elim .inl (fun z => nomatch z)) o5) (Stay.refl M σ)
        · exact q.elim
      · exact q.elim
    · exact h.elim
end
end Ow
end
section
set_option linter.all false
set_option maxRecDepth 100000
set_option maxHeartbeats 4000000
/-! LibSem: the plain functions that many laws share. -/
namespace Ow.Lib
open PySem L2 PySem.Spec
noncomputable def sem_divisor : List D → Res D := runB 0 (bSeq (sSet 0 (x1 oAbs (xVar 0)))
 (bSeq (sSet 1 (x1 oAbs (xVar 1)))
 (bSeq (sWhile (tBl (x2 oGt (xVar 1) (xC (.int 0)))) (sPar 0 1 (xVar 1) (x2 oMod (xVar 0) (xVar 1))))
 (sRetV 0))))
noncomputable def sem_ratio : List D → Res D := runB 1 (bSeq (sIf (tBl (x2 oEq (xVar 1) (xC (.int 0)))) (sRaise 1) bN)
 (bSeq (sSet 2 (xCall sem_divisor (aCons (xVar 0) (aCons (xVar 1) aNil))))
 (bSeq (sIf (tBl (x2 oLt (xVar 1) (xC (.int 0)))) (sSet 2 (x2 oSub (xC (.int 0)) (xVar 2))) bN)
 (sRet (xTup (aCons (x2 oDiv (xVar 0) (xVar 2)) (aCons (x2 oDiv (xVar 1) (xVar 2)) aNil)))))))
noncomputable def semX_ratio : List D → Res D := runB 1 (bSeq (sIf (tBl (x2 oEq (xVar 1) (xC (.int 0)))) (sRaise 1) bN)
 (bSeq (sSet 2 (xCall sem_divisor (aCons (xVar 0) (aCons (xVar 1) aNil))))
 (bSeq (sIf (tBl (x2 oLt (xVar 1) (xC (.int 0)))) (sSet 2 (x2 oSub (xC (.int 0)) (xVar 2))) bN)
 (sRet (xTup (aCons (x2 oDiv (xVar 0) (xVar 2)) (aCons (x2 oDiv (xVar 1) (xVar 2)) aNil)))))))
noncomputable def sem_over : List D → Res D := runB 0 (sRet (xCall sem_ratio (aCons (x2 oMul (x2 oIx (xVar 0) (xC (.int 0))) (x2 oIx (xVar 1) (xC (.int 1)))) (aCons (x2 oMul (x2 oIx (xVar 0) (xC (.int 1))) (x2 oIx (xVar 1) (xC (.int 0)))) aNil))))
noncomputable def semX_over : List D → Res D := runB 0 (sRet (xCallX semX_ratio (aCons (x2 oMul (x2 oIx (xVar 0) (xC (.int 0))) (x2 oIx (xVar 1) (xC (.int 1)))) (aCons (x2 oMul (x2 oIx (xVar 0) (xC (.int 1))) (x2 oIx (xVar 1) (xC (.int 0)))) aNil))))
noncomputable def sem__law_cell_at : List D → Res D := runB 0 (bSeq (sIf (tBl (x2 oLt (xVar 1) (x1 oLen (xVar 0)))) (sRet (xP (x2 oIx (xVar 0) (xVar 1)))) bN)
 (sRet (xC (.int 0))))
noncomputable def sem__law_whole : List D → Res D := runB 0 (sRet (xP (xAn (x1 (isBI "int") (xVar 0)) (xNo (x1 (isBI "bool") (xVar 0))))))
noncomputable def sem__law_divisor : List D → Res D := runB 0 (bSeq (sSet 0 (x1 oAbs (xVar 0)))
 (bSeq (sSet 1 (x1 oAbs (xVar 1)))
 (bSeq (sWhile (tBl (x2 oGt (xVar 1) (xC (.int 0)))) (sPar 0 1 (xVar 1) (x2 oMod (xVar 0) (xVar 1))))
 (sRetV 0))))
noncomputable def sem__law_lowest : List D → Res D := runB 1 (bSeq (sSet 2 (xCall sem__law_divisor (aCons (xVar 0) (aCons (xVar 1) aNil))))
 (bSeq (sIf (tBl (x2 oLt (xVar 1) (xC (.int 0)))) (sSet 2 (x2 oSub (xC (.int 0)) (xVar 2))) bN)
 (sRet (xTup (aCons (x2 oDiv (xVar 0) (xVar 2)) (aCons (x2 oDiv (xVar 1) (xVar 2)) aNil))))))
noncomputable def sem__law_is_fraction : List D → Res D := runB 0 (bSeq (sIf (tOr' (tNo (tBl (x1 (isBI "tuple") (xVar 0)))) (tOr' (tBl (x2 oNe (x1 oLen (xVar 0)) (xC (.int 2)))) (tOr' (tNo (tBl (xCall sem__law_whole (aCons (x2 oIx (xVar 0) (xC (.int 0))) aNil)))) (tNo (tBl (xCall sem__law_whole (aCons (x2 oIx (xVar 0) (xC (.int 1))) aNil))))))) (sRet (xC (.bl false))) bN)
 (sRet (xP (xAn (x2 oGt (x2 oIx (xVar 0) (xC (.int 1))) (xC (.int 0))) (x2 oEq (xCall sem__law_divisor (aCons (x2 oIx (xVar 0) (xC (.int 0))) (aCons (x2 oIx (xVar 0) (xC (.int 1))) aNil))) (xC (.int 1)))))))
noncomputable def sem__law_fraction_by : List D → Res D := runB 2 (bSeq (sSet 2 (x2 oAdd (x2 oMod (xVar 0) (x2 oPow (xC (.int 10)) (xC (.int 18)))) (x2 oMul (xC (.int 48271)) (x2 oAdd (xVar 1) (xC (.int 1))))))
 (bSeq (sSet 2 (x2 oMod (x2 oMul (xVar 2) (xVar 2)) (xC (.int 2147483647))))
 (bSeq (sSet 3 (xP (x2 oIx (xLst (aCons (x2 oSub (x2 oMod (x2 oDiv (xVar 2) (xC (.int 6))) (xC (.int 13))) (xC (.int 6))) (aCons (x2 oSub (x2 oMod (x2 oDiv (xVar 2) (xC (.int 6))) (xC (.int 200001))) (x2 oPow (xC (.int 10)) (xC (.int 5)))) (aCons (x2 oSub (x2 oMod (xVar 0) (x2 oMul (xC (.int 2)) (x2 oPow (xC (.int 10)) (xC (.int 9))))) (x2 oPow (xC (.int 10)) (xC (.int 9)))) aNil)))) (x2 oMod (x2 oDiv (xVar 2) (xC (.int 6))) (xC (.int 3))))))
 (sRet (xCall sem__law_lowest (aCons (xVar 3) (aCons (x2 oAdd (xC (.int 1)) (x2 oMod (xVar 2) (xC (.int 6)))) aNil)))))))
noncomputable def sem__law_great : List D → Res D := runB 1 (bSeq (sSet 2 (x2 oSub (x2 oMod (xVar 0) (x2 oSub (x2 oMul (xC (.int 2)) (x2 oPow (xC (.int 10)) (xC (.int 60)))) (xC (.int 1)))) (x2 oSub (x2 oPow (xC (.int 10)) (xC (.int 60))) (xC (.int 1)))))
 (sRet (xCall sem__law_lowest (aCons (xVar 2) (aCons (x2 oAdd (xC (.int 1)) (x2 oMod (xVar 1) (x2 oSub (x2 oPow (xC (.int 10)) (xC (.int 60))) (xC (.int 1))))) aNil)))))
noncomputable def sem__law_worth : List D → Res D := runB 0 (sRet (xP (xAn (xCall sem__law_is_fraction (aCons (xVar 0) aNil)) (x2 oEq (x2 oMul (x2 oIx (xVar 0) (xC (.int 0))) (xVar 2)) (x2 oMul (xVar 1) (x2 oIx (xVar 0) (xC (.int 1))))))))
noncomputable def sem_plus : List D → Res D := runB 0 (sRet (xCall sem_ratio (aCons (x2 oAdd (x2 oMul (x2 oIx (xVar 0) (xC (.int 0))) (x2 oIx (xVar 1) (xC (.int 1)))) (x2 oMul (x2 oIx (xVar 1) (xC (.int 0))) (x2 oIx (xVar 0) (xC (.int 1))))) (aCons (x2 oMul (x2 oIx (xVar 0) (xC (.int 1))) (x2 oIx (xVar 1) (xC (.int 1)))) aNil))))
noncomputable def sem_minus : List D → Res D := runB 0 (sRet (xCall sem_ratio (aCons (x2 oSub (x2 oMul (x2 oIx (xVar 0) (xC (.int 0))) (x2 oIx (xVar 1) (xC (.int 1)))) (x2 oMul (x2 oIx (xVar 1) (xC (.int 0))) (x2 oIx (xVar 0) (xC (.int 1))))) (aCons (x2 oMul (x2 oIx (xVar 0) (xC (.int 1))) (x2 oIx (xVar 1) (xC (.int 1)))) aNil))))
noncomputable def sem_times : List D → Res D := runB 0 (sRet (xCall sem_ratio (aCons (x2 oMul (x2 oIx (xVar 0) (xC (.int 0))) (x2 oIx (xVar 1) (xC (.int 0)))) (aCons (x2 oMul (x2 oIx (xVar 0) (xC (.int 1))) (x2 oIx (xVar 1) (xC (.int 1)))) aNil))))
noncomputable def sem__law_block : List D → Res D := runB 2 (bSeq (sSet 2 (xC (.int 0)))
 (bSeq (sIf (tBl (x2 oLt (x2 oAdd (xC (.int 1)) (x2 oMod (x2 oDiv (xVar 1) (xC (.int 8))) (xC (.int 62)))) (x1 oLen (xVar 0)))) (sSet 2 (x2 oDiv (x2 oIx (xVar 0) (x2 oAdd (xC (.int 1)) (x2 oMod (x2 oDiv (xVar 1) (xC (.int 8))) (xC (.int 62))))) (x2 oPow (xC (.int 10)) (xC (.int 64))))) bN)
 (bSeq (sForG (srcK (iR1 (x2 oMod (xVar 1) (xC (.int 8))))) (b1 3) (sSet 2 (x2 oDiv (xVar 2) (xC (.int 2147483587)))))
 (sRet (x2 oMod (xVar 2) (xC (.int 2147483587)))))))
noncomputable def sem__law_mixed : List D → Res D := runB 2 (bSeq (sSet 2 (xC (.int 0)))
 (bSeq (sIf (tBl (x2 oGt (x1 oLen (xVar 0)) (xC (.int 0)))) (sSet 2 (xP (x2 oIx (xVar 0) (xC (.int 0))))) bN)
 (bSeq (sIf (tBl (x2 oEq (x2 oMod (x2 oDiv (xVar 2) (x2 oPow (xC (.int 10)) (xC (.int 6)))) (xC (.int 2))) (xC (.int 1)))) (sRet (xCall sem__law_block (aCons (xVar 0) (aCons (xVar 1) aNil)))) bN)
 (bSeq (sIf (tBl (x2 oGt (x1 oLen (xVar 0)) (xC (.int 0)))) (sSet 2 (xP (x2 oIx (xVar 0) (x2 oMod (xVar 1) (x2 oMin (xC (.int 63)) (x1 oLen (xVar 0))))))) bN)
 (bSeq (sSet 3 (x2 oAdd (x2 oMod (xVar 2) (x2 oPow (xC (.int 10)) (xC (.int 18)))) (x2 oMul (xC (.int 48271)) (x2 oAdd (xVar 1) (xC (.int 1))))))
 (bSeq (sSet 3 (x2 oAdd (x2 oMod (x2 oMul (xVar 3) (xVar 3)) (xC (.int 2147483629))) (x2 oMul (xC (.int 69621)) (xVar 1))))
 (sRet (x2 oMod (x2 oMul (xVar 3) (xVar 3)) (xC (.int 2147483587))))))))))
noncomputable def sem__law_any : List D → Res D := runB 6 (bSeq (sSet 3 (xLc (iR1 (xVar 2)) (b1 7) [7] tYs (xLst aNil)))
 (bSeq (sSet 4 (x2 oAdd (xC (.int 2)) (x2 oMod (xCall sem__law_mixed (aCons (xVar 0) (aCons (xVar 1) aNil))) (xC (.int 3)))))
 (bSeq (sForG (srcK (iR1 (xVar 2))) (b1 5) (sForG (srcK (iR1 (xVar 5))) (b1 6) (bSeq (sSet 8 (xCall sem__law_mixed (aCons (xVar 0) (aCons (x2 oAdd (x2 oAdd (x2 oAdd (xVar 1) (xC (.int 1))) (x2 oMul (xC (.int 8)) (xVar 5))) (xVar 6)) aNil))))
 (sIf (tBl (x2 oNe (x2 oMod (xVar 8) (xVar 4)) (xC (.int 0)))) (bSeq (sMeth (locP 3 (xVar 5)) (aCons (x2 oMod (x2 oDiv (xVar 8) (xC (.int 12))) (x2 oAdd (x1 oLen (x2 oIx (xVar 3) (xVar 5))) (xC (.int 1)))) (aCons (xP (xVar 6)) aNil)) opIns)
 (sMeth (locP 3 (xVar 6)) (aCons (x2 oMod (x2 oDiv (xVar 8) (xC (.int 128))) (x2 oAdd (x1 oLen (x2 oIx (xVar 3) (xVar 6))) (xC (.int 1)))) (aCons (xP (xVar 5)) aNil)) opIns)) bN))))
 (sRetV 3))))
noncomputable def sem_ties : List D → Res D := runB 3 (bSeq (sSet 1 (xLst aNil))
 (bSeq (sForG (srcK (iR1 (x1 oLen (xVar 0)))) (b1 2) (sSet 1 (x2 oCat (xVar 1) (xLc (iL (x1 oSort (x2 oIx (xVar 0) (xVar 2)))) (b1 3) [3] (tBl (x2 oLt (xVar 2) (xVar 3))) (xTup (aCons (xP (xVar 2)) (aCons (xP (xVar 3)) aNil)))))))
 (sRetV 1)))
noncomputable def sem_come_to : List D → Res D := runB 3 (bSeq (sSet 3 (xC (.dI [])))
 (bSeq (sPutI 3 (xC (.bl true)) (xVar 1))
 (bSeq (sSet 4 (xLst (aCons (xP (xVar 1)) aNil)))
 (bSeq (sWhile (tBl (x2 oNe (xVar 4) (xLst aNil))) (sForG (srcE 0 (xPop (locV 4))) (b1 5) (sIf (tAn (tBl (x2 oNinDI (xVar 5) (xVar 3))) (tBl (x2 oNin (xVar 5) (xVar 2)))) (bSeq (sPutI 3 (xC (.bl true)) (xVar 5))
 (sMeth (locV 4) (aCons (xP (xVar 5)) aNil) opApp)) bN)))
 (sRetV 3)))))
noncomputable def sem_hangs : List D → Res D := runB 0 (sRet (x2 oEq (x1 oLenD (xCall sem_come_to (aCons (xVar 0) (aCons (xC (.int 0)) (aCons (xLst aNil) aNil))))) (x1 oLen (xVar 0))))
end Ow.Lib
end
section
set_option linter.all false
set_option exponentiation.threshold 100000
set_option maxHeartbeats 2000000
/-! LibF: fractions. -/
namespace Ow.Lib
open PySem L2
theorem while_divisor (x y : Int) (hx : 0 ≤ x) (hy : 0 ≤ y) : sWhile (tBl (x2 oGt (xVar 1) (xC (.int 0)))) (sPar 0 1 (xVar 1) (x2 oMod (xVar 0) (xVar 1))) [.fz (.int x), .fz (.int y)] = .ok (.nx [.fz (.int (Int.gcd x y)), .fz (.int 0)]) := dv_while _ x y (Nat.le_refl _) hx hy
theorem abs_if (a : Int) : (if a < 0 then -a else a) = (a.natAbs : Int) := by split <;> omega
theorem divisor_is (a b : Int) : sem_divisor [.int a, .int b] = .ok (.int (Int.gcd a b)) := by
  simp [sem_divisor, runB, bSeq, sSet, en, x1, xVar, setS, abs_if]
  rw [while_divisor _ _ (by omega) (by omega)]
  simp [sRetV, Int.gcd]
theorem ldivisor_is (a b : Int) : sem__law_divisor [.int a, .int b] = .ok (.int (Int.gcd a b)) := by
  simp [sem__law_divisor, runB, bSeq, sSet, en, x1, xVar, setS, abs_if]
  rw [while_divisor _ _ (by omega) (by omega)]
  simp [sRetV, Int.gcd]
/-- the divisor with the bottom's sign -/
def sgd (t b : Int) : Int := if b < 0 then -(Int.gcd t b) else Int.gcd t b
theorem gcd_ne {t b : Int} (hb : b ≠ 0) : (Int.gcd t b : Int) ≠ 0 := by
  intro h
  have : Int.gcd t b = 0 := by omega
  exact hb (Int.gcd_eq_zero_iff.mp this).2
theorem gcd_le {t b : Int} (hb : b ≠ 0) : Int.gcd t b ≤ b.natAbs := Nat.le_of_dvd (by omega) (Int.gcd_dvd_natAbs_right t b)
theorem sgd_ne {t b : Int} (hb : b ≠ 0) : sgd t b ≠ 0 := by
  have := gcd_ne (t := t) hb
  unfold sgd
  split <;> omega
theorem sgd_sz {t b : Int} {n : Nat} (hb : b ≠ 0) (hz : Sz n b) : Sz n (sgd t b) := by
  have := gcd_le (t := t) hb
  show (sgd t b).natAbs < _
  have e : (sgd t b).natAbs = Int.gcd t b := by unfold sgd; split <;> simp
  rw [e]
  exact Nat.lt_of_le_of_lt this hz
theorem sgd_dvd_l (t b : Int) : sgd t b ∣ t := by
  unfold sgd
  split
  · exact Int.neg_dvd.mpr (Int.gcd_dvd_left t b)
  · exact Int.gcd_dvd_left t b
theorem sgd_dvd_r (t b : Int) : sgd t b ∣ b := by
  unfold sgd
  split
  · exact Int.neg_dvd.mpr (Int.gcd_dvd_right t b)
  · exact Int.gcd_dvd_right t b
/-- a fraction in lowest terms -/
def Low (a b : Int) : Prop := 0 < b ∧ Int.gcd a b = 1
/-- the same number: crosswise -/
structure Same2 (t b t' b' : Int) : Prop where
  low : Low t' b'
  eq : t' * b = t * b'
theorem fdiv_of_dvd {a c : Int} (h0 : c ≠ 0) (h : c ∣ a) : a.fdiv c * c = a := by
  obtain ⟨k, rfl⟩ := h
  rw [Int.mul_fdiv_cancel_left _ h0, Int.mul_comm]
theorem reduced {t b : Int} (hb : b ≠ 0) : Same2 t b (t.fdiv (sgd t b)) (b.fdiv (sgd t b)) := by
  have h0 := sgd_ne (t := t) hb
  obtain ⟨k, hk⟩ : ∃ k, k = sgd t b := ⟨_, rfl⟩
  obtain ⟨x, hx⟩ : ∃ x, x = t.fdiv k := ⟨_, rfl⟩
  obtain ⟨y, hy⟩ : ∃ y, y = b.fdiv k := ⟨_, rfl⟩
  rw [← hk] at h0 ⊢
  have e1 : x * k = t := by rw [hx]; exact fdiv_of_dvd h0 (by rw [hk]; exact sgd_dvd_l t b)
  have e2 : y * k = b := by rw [hy]; exact fdiv_of_dvd h0 (by rw [hk]; exact sgd_dvd_r t b)
  have ek : k.natAbs = Int.gcd t b := by rw [hk]; unfold sgd; split <;> simp
  rw [← hx, ← hy]
  refine ⟨⟨?_, ?_⟩, ?_⟩
  · have hgp : (0 : Int) < Int.gcd t b := by have := gcd_ne (t := t) hb; omega
    by_cases hn : b < 0
    · have hk' : k < 0 := by rw [hk]; unfold sgd; rw [if_pos hn]; omega
      by_cases hy0 : 0 < y
      · exact hy0
      · exfalso
        have : 0 ≤ y * k := Int.mul_nonneg_of_nonpos_of_nonpos (by omega) (by omega)
        omega
    · have hk' : 0 < k := by rw [hk]; unfold sgd; rw [if_neg hn]; omega
      by_cases hy0 : 0 < y
      · exact hy0
      · exfalso
        have : y * k ≤ 0 := Int.mul_nonpos_of_nonpos_of_nonneg (by omega) (by omega)
        omega
  · have hg : Int.gcd x y * k.natAbs = k.natAbs := by
      rw [← Int.gcd_mul_right, e1, e2, ek]
    have hk0 : 0 < k.natAbs := by omega
    have := Nat.eq_of_mul_eq_mul_right hk0 (hg.trans (Nat.one_mul _).symm)
    exact this
  · rw [← e1, ← e2]
    rw [Int.mul_comm y k, ← Int.mul_assoc]
theorem abs_le_of_dvd_fdiv {a c : Int} (h0 : c ≠ 0) (h : c ∣ a) : (a.fdiv c).natAbs ≤ a.natAbs := by
  have e := fdiv_of_dvd h0 h
  have : (a.fdiv c).natAbs * c.natAbs = a.natAbs := by rw [← Int.natAbs_mul, e]
  rw [← this]
  exact Nat.le_mul_of_pos_right _ (by omega)
theorem ratio_nought (t : Int) : sem_ratio [.int t, .int 0] = .exc ⟨1, []⟩ := by
  simp [sem_ratio, runB, bSeq, sIf, tBl, x2, xVar, xC, en, sRaise]
theorem ratio_raw {t b : Int} (hb : b ≠ 0) (hz : Sz 8999 b) : sem_ratio [.int t, .int b] = .ok (fr (t.fdiv (sgd t b)) (b.fdiv (sgd t b))) := by
  have g0 := gcd_ne (t := t) hb
  have gn : (-(Int.gcd t b) : Int) ≠ 0 := by omega
  have hg : Sz 8999 (Int.gcd t b : Int) := Nat.lt_of_le_of_lt (by simpa using gcd_le (t := t) hb) hz
  have hg' : Sz 8999 (-(Int.gcd t b) : Int) := by
    show (-(Int.gcd t b : Int)).natAbs < _
    rw [Int.natAbs_neg]
    exact hg
  by_cases h : b < 0
  · simp [sem_ratio, runB, bSeq, bN, sIf, tBl, x2, xVar, xC, en, hb, sSet, xCall, aCons, aNil, divisor_is, setS, h, sRet, xTup, szOk, oDiv_ok gn hg' (Nat.le_refl _), sgd]
  · simp [sem_ratio, runB, bSeq, bN, sIf, tBl, x2, xVar, xC, en, hb, sSet, xCall, aCons, aNil, divisor_is, setS, h, sRet, xTup, szOk, oDiv_ok g0 hg (Nat.le_refl _), sgd]
theorem lowest_raw {t b : Int} (hb : b ≠ 0) (hz : Sz 8999 b) : sem__law_lowest [.int t, .int b] = .ok (fr (t.fdiv (sgd t b)) (b.fdiv (sgd t b))) := by
  have g0 := gcd_ne (t := t) hb
  have gn : (-(Int.gcd t b) : Int) ≠ 0 := by omega
  have hg : Sz 8999 (Int.gcd t b : Int) := Nat.lt_of_le_of_lt (by simpa using gcd_le (t := t) hb) hz
  have hg' : Sz 8999 (-(Int.gcd t b) : Int) := by
    show (-(Int.gcd t b : Int)).natAbs < _
    rw [Int.natAbs_neg]
    exact hg
  by_cases h : b < 0
  · simp [sem__law_lowest, runB, bSeq, bN, sIf, tBl, x2, xVar, xC, en, hb, sSet, xCall, aCons, aNil, ldivisor_is, setS, h, sRet, xTup, szOk, oDiv_ok gn hg' (Nat.le_refl _), sgd]
  · simp [sem__law_lowest, runB, bSeq, bN, sIf, tBl, x2, xVar, xC, en, hb, sSet, xCall, aCons, aNil, ldivisor_is, setS, h, sRet, xTup, szOk, oDiv_ok g0 hg (Nat.le_refl _), sgd]
/-- the fraction of two numbers -/
theorem ratio_ok {t b : Int} {n : Nat} (hb : b ≠ 0) (hz : Sz n b) (hn : n ≤ 8999) : ∃ x y, sem_ratio [.int t, .int b] = .ok (fr x y) ∧ Same2 t b x y ∧ x.natAbs ≤ t.natAbs ∧ y.natAbs ≤ b.natAbs :=
  ⟨_, _, ratio_raw hb (Nat.lt_of_lt_of_le hz (Nat.pow_le_pow_right (by decide) hn)), reduced hb, abs_le_of_dvd_fdiv (sgd_ne hb) (sgd_dvd_l t b), abs_le_of_dvd_fdiv (sgd_ne hb) (sgd_dvd_r t b)⟩
theorem lowest_ok {t b : Int} {n : Nat} (hb : b ≠ 0) (hz : Sz n b) (hn : n ≤ 8999) : ∃ x y, sem__law_lowest [.int t, .int b] = .ok (fr x y) ∧ Same2 t b x y ∧ x.natAbs ≤ t.natAbs ∧ y.natAbs ≤ b.natAbs :=
  ⟨_, _, lowest_raw hb (Nat.lt_of_lt_of_le hz (Nat.pow_le_pow_right (by decide) hn)), reduced hb, abs_le_of_dvd_fdiv (sgd_ne hb) (sgd_dvd_l t b), abs_le_of_dvd_fdiv (sgd_ne hb) (sgd_dvd_r t b)⟩
/-- one number has one fraction -/
theorem low_one {a b c d : Int} (h1 : Low a b) (h2 : Low c d) (h : a * d = c * b) : a = c ∧ b = d := by
  obtain ⟨b0, g1⟩ := h1
  obtain ⟨d0, g2⟩ := h2
  have k1 : b ∣ d := by
    have : b ∣ a * d := ⟨c, by rw [h, Int.mul_comm]⟩
    have := Int.dvd_gcd_mul_iff_dvd_mul.mpr this
    rwa [Int.gcd_comm, g1, show ((1 : Nat) : Int) = 1 from rfl, Int.one_mul] at this
  have k2 : d ∣ b := by
    have : d ∣ c * b := ⟨a, by rw [← h, Int.mul_comm]⟩
    have := Int.dvd_gcd_mul_iff_dvd_mul.mpr this
    rwa [Int.gcd_comm, g2, show ((1 : Nat) : Int) = 1 from rfl, Int.one_mul] at this
  have e : b = d := Int.dvd_antisymm (by omega) (by omega) k1 k2
  subst e
  exact ⟨Int.eq_of_mul_eq_mul_right (by omega) h, rfl⟩
theorem sz_mul {a b : Int} {n m : Nat} (ha : Sz n a) (hb : Sz m b) : Sz (n + m) (a * b) := by
  show (a * b).natAbs < _
  rw [Int.natAbs_mul, Nat.pow_add]
  exact Nat.mul_lt_mul'' ha hb
theorem sz_add {a b : Int} {n : Nat} (ha : Sz n a) (hb : Sz n b) : Sz (n + 1) (a + b) := by
  have h1 : a.natAbs < 2 ^ n := ha
  have h2 : b.natAbs < 2 ^ n := hb
  show (a + b).natAbs < 2 ^ (n + 1)
  rw [Nat.pow_succ]
  omega
theorem sz_sub {a b : Int} {n : Nat} (ha : Sz n a) (hb : Sz n b) : Sz (n + 1) (a - b) := by
  have h1 : a.natAbs < 2 ^ n := ha
  have h2 : b.natAbs < 2 ^ n := hb
  show (a - b).natAbs < 2 ^ (n + 1)
  rw [Nat.pow_succ]
  omega
theorem sz_le {a : Int} {n m : Nat} (ha : Sz n a) (h : n ≤ m) : Sz m a := Nat.lt_of_lt_of_le ha (Nat.pow_le_pow_right (by decide) h)
theorem sz_abs {a b : Int} {n : Nat} (hb : Sz n b) (h : a.natAbs ≤ b.natAbs) : Sz n a := Nat.lt_of_le_of_lt h hb
section
variable {a b c d : Int} {n : Nat}
theorem plus_ok (ha : Sz n a) (hb : Sz n b) (hc : Sz n c) (hd : Sz n d) (b0 : b ≠ 0) (d0 : d ≠ 0) (hn : n ≤ 4000) :
    ∃ x y, sem_plus [fr a b, fr c d] = .ok (fr x y) ∧ Same2 (a * d + c * b) (b * d) x y ∧ Sz (n + n + 1) x ∧ Sz (n + n) y := by
  obtain ⟨x, y, h1, h2, h3, h4⟩ := ratio_ok (t := a * d + c * b) (Int.mul_ne_zero b0 d0) (sz_mul hb hd) (by omega)
  refine ⟨x, y, ?_, h2, sz_abs (sz_add (sz_mul ha hd) (sz_mul hc hb)) h3, sz_abs (sz_mul hb hd) h4⟩
  simp [sem_plus, runB, sRet, xCall, aCons, aNil, x2, xVar, xC, en, oMul_ok ha hd (show n + n ≤ 999000 by omega), oMul_ok hc hb (show n + n ≤ 999000 by omega), oMul_ok hb hd (show n + n ≤ 999000 by omega), h1]
theorem minus_ok (ha : Sz n a) (hb : Sz n b) (hc : Sz n c) (hd : Sz n d) (b0 : b ≠ 0) (d0 : d ≠ 0) (hn : n ≤ 4000) :
    ∃ x y, sem_minus [fr a b, fr c d] = .ok (fr x y) ∧ Same2 (a * d - c * b) (b * d) x y ∧ Sz (n + n + 1) x ∧ Sz (n + n) y := by
  obtain ⟨x, y, h1, h2, h3, h4⟩ := ratio_ok (t := a * d - c * b) (Int.mul_ne_zero b0 d0) (sz_mul hb hd) (by omega)
  refine ⟨x, y, ?_, h2, sz_abs (sz_sub (sz_mul ha hd) (sz_mul hc hb)) h3, sz_abs (sz_mul hb hd) h4⟩
  simp [sem_minus, runB, sRet, xCall, aCons, aNil, x2, xVar, xC, en, oMul_ok ha hd (show n + n ≤ 999000 by omega), oMul_ok hc hb (show n + n ≤ 999000 by omega), oMul_ok hb hd (show n + n ≤ 999000 by omega), h1]
theorem times_ok (ha : Sz n a) (hb : Sz n b) (hc : Sz n c) (hd : Sz n d) (b0 : b ≠ 0) (d0 : d ≠ 0) (hn : n ≤ 4000) :
    ∃ x y, sem_times [fr a b, fr c d] = .ok (fr x y) ∧ Same2 (a * c) (b * d) x y ∧ Sz (n + n) x ∧ Sz (n + n) y := by
  obtain ⟨x, y, h1, h2, h3, h4⟩ := ratio_ok (t := a * c) (Int.mul_ne_zero b0 d0) (sz_mul hb hd) (by omega)
  refine ⟨x, y, ?_, h2, sz_abs (sz_mul ha hc) h3, sz_abs (sz_mul hb hd) h4⟩
  simp [sem_times, runB, sRet, xCall, aCons, aNil, x2, xVar, xC, en, oMul_ok ha hc (show n + n ≤ 999000 by omega), oMul_ok hb hd (show n + n ≤ 999000 by omega), h1]
theorem over_ok (ha : Sz n a) (hb : Sz n b) (hc : Sz n c) (hd : Sz n d) (b0 : b ≠ 0) (c0 : c ≠ 0) (hn : n ≤ 4000) :
    ∃ x y, sem_over [fr a b, fr c d] = .ok (fr x y) ∧ Same2 (a * d) (b * c) x y ∧ Sz (n + n) x ∧ Sz (n + n) y := by
  obtain ⟨x, y, h1, h2, h3, h4⟩ := ratio_ok (t := a * d) (Int.mul_ne_zero b0 c0) (sz_mul hb hc) (by omega)
  refine ⟨x, y, ?_, h2, sz_abs (sz_mul ha hd) h3, sz_abs (sz_mul hb hc) h4⟩
  simp [sem_over, runB, sRet, xCall, aCons, aNil, x2, xVar, xC, en, oMul_ok ha hd (show n + n ≤ 999000 by omega), oMul_ok hb hc (show n + n ≤ 999000 by omega), h1]
end
theorem cell_is (ns : List Int) (k : Nat) : sem__law_cell_at [.scr ns, .int k] = .ok (.int (ns.getD k 0)) := by
  simp [sem__law_cell_at, runB, bSeq, bN, sIf, sRet, en, x2, x1, xVar, xC, tBl, xP]
  by_cases h : k < ns.length
  · simp [h, oIx_scr, atI_nat']
  · simp [h]
theorem kit_int_int : kitB "int" "int" = some true := by decide +kernel
theorem kit_int_bool : kitB "int" "bool" = some false := by decide +kernel
theorem kit_bool_bool : kitB "bool" "bool" = some true := by decide +kernel
theorem kit_tuple_tuple : kitB "tuple" "tuple" = some true := by decide +kernel
theorem kit_list_list : kitB "list" "list" = some true := by decide +kernel
@[simp] theorem isBI_int_int (i : Int) : isBI "int" (.int i) = .ok (.bl true) := by simp [isBI, tyN, kit_int_int]
@[simp] theorem isBI_bool_int (i : Int) : isBI "bool" (.int i) = .ok (.bl false) := by simp [isBI, tyN, kit_int_bool]
@[simp] theorem isBI_bool_bool (i : Bool) : isBI "bool" (.bl i) = .ok (.bl true) := by simp [isBI, tyN, kit_bool_bool]
@[simp] theorem isBI_tuple_tup (x : List D) : isBI "tuple" (.tup x) = .ok (.bl true) := by simp [isBI, tyN, kit_tuple_tuple]
@[simp] theorem isBI_list_lst (x : List D) : isBI "list" (.lst x) = .ok (.bl true) := by simp [isBI, tyN, kit_list_list]
theorem whole_is (i : Int) : sem__law_whole [.int i] = .ok (.bl true) := by
  simp [sem__law_whole, runB, sRet, xP, xAn, xNo, x1, xVar, en]
theorem isfrac_is {a b : Int} (h : Low a b) : sem__law_is_fraction [fr a b] = .ok (.bl true) := by
  simp [sem__law_is_fraction, runB, bSeq, bN, sIf, tOr', tNo, tBl, x1, x2, xVar, xC, en, xCall, aCons, aNil, whole_is, ldivisor_is, sRet, xP, xAn, h.1, h.2]
theorem worth_is {x y t b : Int} {n : Nat} (h : Same2 t b x y) (hx : Sz n x) (hy : Sz n y) (ht : Sz n t) (hb : Sz n b) (hn : n ≤ 9000) : sem__law_worth [fr x y, .int t, .int b] = .ok (.bl true) := by
  have := h.eq
  simp [sem__law_worth, runB, sRet, xP, xAn, xCall, aCons, aNil, x2, xVar, xC, en, isfrac_is h.low, oMul_ok hx hb (show n + n ≤ 999000 by omega), oMul_ok ht hy (show n + n ≤ 999000 by omega), this]
end Ow.Lib
end
section
set_option linter.all false
set_option exponentiation.threshold 100000
set_option maxHeartbeats 2000000
/-! LibF2: the law's made fractions. -/
namespace Ow.Lib
open PySem L2
theorem frby_is (cell k : Int) (hk : Sz 60 k) : ∃ x y, sem__law_fraction_by [.int cell, .int k] = .ok (fr x y) ∧ Low x y ∧ y ≤ 6 ∧ x.natAbs ≤ 10 ^ 9 := by
  obtain ⟨m, hm⟩ : ∃ m, m = cell % 1000000000000000000 + 48271 * (k + 1) := ⟨_, rfl⟩
  have m1 := Int.emod_nonneg cell (show (1000000000000000000 : Int) ≠ 0 by decide)
  have m2 := Int.emod_lt_of_pos cell (show (0 : Int) < 1000000000000000000 by decide)
  have hk' : k.natAbs < 2 ^ 60 := hk
  have mz : Sz 90 m := by show m.natAbs < 2 ^ 90; omega
  have k1 : Sz 61 (k + 1) := by show (k + 1).natAbs < 2 ^ 61; omega
  obtain ⟨u, hu⟩ : ∃ u, u = m * m % 2147483647 := ⟨_, rfl⟩
  have u1 : 0 ≤ u := by rw [hu]; exact Int.emod_nonneg _ (by decide)
  have u2 : u < 2147483647 := by rw [hu]; exact Int.emod_lt_of_pos _ (by decide)
  have c1 : ∀ x : Int, oMod (.int x) (.int 1000000000000000000) = .ok (.int (x % 1000000000000000000)) := fun x => oMod_pos (by decide)
  have c2 : ∀ x : Int, oMod (.int x) (.int 2147483647) = .ok (.int (x % 2147483647)) := fun x => oMod_pos (by decide)
  have c3 : ∀ x : Int, oDiv (.int x) (.int 6) = .ok (.int (x / 6)) := fun x => oDiv_c (by decide) (by decide)
  have c4 : ∀ x : Int, oMod (.int x) (.int 13) = .ok (.int (x % 13)) := fun x => oMod_pos (by decide)
  have c5 : ∀ x : Int, oMod (.int x) (.int 200001) = .ok (.int (x % 200001)) := fun x => oMod_pos (by decide)
  have c6 : ∀ x : Int, oMod (.int x) (.int 2000000000) = .ok (.int (x % 2000000000)) := fun x => oMod_pos (by decide)
  have c7 : ∀ x : Int, oMod (.int x) (.int 3) = .ok (.int (x % 3)) := fun x => oMod_pos (by decide)
  have c8 : ∀ x : Int, oMod (.int x) (.int 6) = .ok (.int (x % 6)) := fun x => oMod_pos (by decide)
  have p1 : oPow (.int 10) (.int 18) = .ok (.int 1000000000000000000) := rfl
  have p2 : oPow (.int 10) (.int 5) = .ok (.int 100000) := rfl
  have p3 : oPow (.int 10) (.int 9) = .ok (.int 1000000000) := rfl
  have d1 : oMul (.int 48271) (.int (k + 1)) = .ok (.int (48271 * (k + 1))) := oMul_ok (n := 61) (by decide) k1 (by decide)
  have d2 : oMul (.int m) (.int m) = .ok (.int (m * m)) := oMul_ok mz mz (by decide)
  have d3 : oMul (.int 2) (.int 1000000000) = .ok (.int 2000000000) := rfl
  obtain ⟨t, ht, t1⟩ : ∃ t : Int, oIx (.lst [.int (u / 6 % 13 - 6), .int (u / 6 % 200001 - 100000), .int (cell % 2000000000 - 1000000000)]) (.int (u / 6 % 3)) = .ok (.int t) ∧ t.natAbs ≤ 10 ^ 9 := by
    have h3 : u / 6 % 3 = 0 ∨ u / 6 % 3 = 1 ∨ u / 6 % 3 = 2 := by omega
    rcases h3 with h | h | h <;> rw [h]
    · exact ⟨_, rfl, by omega⟩
    · exact ⟨_, rfl, by omega⟩
    · exact ⟨_, rfl, by omega⟩
  have b0 : 1 + u % 6 ≠ 0 := by omega
  obtain ⟨x, y, h1, h2, h3, h4⟩ := lowest_ok (t := t) (n := 10) b0 (by show (1 + u % 6).natAbs < 2 ^ 10; omega) (by decide)
  refine ⟨x, y, ?_, h2.low, ?_, Nat.le_trans h3 t1⟩
  · simp [sem__law_fraction_by, runB, bSeq, sSet, x2, xVar, xC, en, c1, p1, setS, d1, ← hm, d2, c2, ← hu, c3, c4, c5, c6, c7, c8, p2, p3, d3, xLst, aCons, aNil, szOk, ht, xP, sRet, xCall, h1]
  · have := h2.low.1
    omega
theorem sz_nine {x : Int} (h : x.natAbs ≤ 10 ^ 9) : Sz 40 x := by show x.natAbs < 2 ^ 40; omega
theorem sz_six {x : Int} (h0 : 0 < x) (h : x ≤ 6) : Sz 40 x := by show x.natAbs < 2 ^ 40; omega
theorem great_is (c d : Int) : ∃ x y, sem__law_great [.int c, .int d] = .ok (fr x y) ∧ Low x y ∧ Sz 210 x ∧ Sz 210 y := by
  have c1 : ∀ x : Int, oMod (.int x) (.int 1999999999999999999999999999999999999999999999999999999999999) = .ok (.int (x % 1999999999999999999999999999999999999999999999999999999999999)) := fun x => oMod_pos (by decide)
  have c2 : ∀ x : Int, oMod (.int x) (.int 999999999999999999999999999999999999999999999999999999999999) = .ok (.int (x % 999999999999999999999999999999999999999999999999999999999999)) := fun x => oMod_pos (by decide)
  have p1 : oPow (.int 10) (.int 60) = .ok (.int 1000000000000000000000000000000000000000000000000000000000000) := rfl
  have d1 : oMul (.int 2) (.int 1000000000000000000000000000000000000000000000000000000000000) = .ok (.int 2000000000000000000000000000000000000000000000000000000000000) := rfl
  have m1 := Int.emod_nonneg c (show (1999999999999999999999999999999999999999999999999999999999999 : Int) ≠ 0 by decide)
  have m2 := Int.emod_lt_of_pos c (show (0 : Int) < 1999999999999999999999999999999999999999999999999999999999999 by decide)
  have m3 := Int.emod_nonneg d (show (999999999999999999999999999999999999999999999999999999999999 : Int) ≠ 0 by decide)
  have m4 := Int.emod_lt_of_pos d (show (0 : Int) < 999999999999999999999999999999999999999999999999999999999999 by decide)
  obtain ⟨t, ht⟩ : ∃ t, t = c % 1999999999999999999999999999999999999999999999999999999999999 - 999999999999999999999999999999999999999999999999999999999999 := ⟨_, rfl⟩
  obtain ⟨b, hb⟩ : ∃ b, b = 1 + d % 999999999999999999999999999999999999999999999999999999999999 := ⟨_, rfl⟩
  have b0 : b ≠ 0 := by omega
  have tz : Sz 210 t := by show t.natAbs < 2 ^ 210; omega
  have bz : Sz 210 b := by show b.natAbs < 2 ^ 210; omega
  obtain ⟨x, y, h1, h2, h3, h4⟩ := lowest_ok (t := t) b0 bz (by decide)
  refine ⟨x, y, ?_, h2.low, sz_abs tz h3, sz_abs bz h4⟩
  simp [sem__law_great, runB, bSeq, sSet, x2, xVar, xC, en, c1, c2, p1, d1, setS, ← ht, ← hb, aCons, aNil, sRet, xCall, h1]
theorem cut63 (ns : List Int) (hl : ns.length ≤ 63) : cutG ns none (some 63) = ns := by
  have := cutG_to ns 63
  rw [List.take_of_length_le hl] at this
  exact this
theorem enum_get {ns : List Int} {k : Nat} {p : Nat × D} (h : (enumD 0 (ns.map D.int))[k]? = some p) : ∃ c, p = (k, .int c) ∧ k < ns.length ∧ ns[k]? = some c := by
  rw [enumD_get, List.getElem?_map] at h
  cases q : ns[k]? with
  | none => rw [q] at h; cases h
  | some c =>
    rw [q] at h
    refine ⟨c, ?_, (List.getElem?_eq_some_iff.mp q).1, rfl⟩
    have := Option.some.inj h
    rw [← this]
    simp
theorem ints_get {ns : List Int} {k : Nat} {p : D} (h : (ns.map D.int)[k]? = some p) : ∃ c, p = .int c ∧ k < ns.length ∧ ns[k]? = some c := by
  rw [List.getElem?_map] at h
  cases q : ns[k]? with
  | none => rw [q] at h; cases h
  | some c =>
    rw [q] at h
    exact ⟨c, (Option.some.inj h).symm, (List.getElem?_eq_some_iff.mp q).1, rfl⟩
@[simp] theorem mk_frfr (a b c d : Int) : mk (.tup [fr a b, fr c d]) = .fz (.tup [fr a b, fr c d]) := rfl
@[simp] theorem mk_frfr' (a b c d : Int) : mk (.tup [.tup [.int a, .int b], .tup [.int c, .int d]]) = .fz (.tup [.tup [.int a, .int b], .tup [.int c, .int d]]) := rfl
end Ow.Lib
end
section
set_option linter.all false
set_option exponentiation.threshold 100000
set_option maxHeartbeats 2000000
/-! LibM: the laws' drawn numbers, and drawn maps. -/
namespace Ow.Lib
open PySem L2
@[simp] theorem bindB1 (i : Nat) (d : D) (S : List Slot) : bindB (b1 i) d S = .ok (setS S i (.fz d)) := rfl
@[simp] theorem bindB2 (i j : Nat) (p : D × D) (S : List Slot) : bindB (b2 i j) p S = .ok (setS (setS S i (.fz p.1)) j (.fz p.2)) := rfl
@[simp] theorem setBs_b1 (i : Nat) (d : D) (S : List Slot) : setBs S (b1 i d) = setS S i (.fz d) := rfl
@[simp] theorem setBs_b2 (i j : Nat) (p : D × D) (S : List Slot) : setBs S (b2 i j p) = setS (setS S i (.fz p.1)) j (.fz p.2) := rfl
theorem upTo_get {lo : Int} {n k : Nat} {d : D} (h : (intsUpTo lo n)[k]? = some d) : d = .int (lo + (k : Nat)) ∧ k < n := by
  have hk : k < n := by
    have := (List.getElem?_eq_some_iff.mp h).1
    simpa [intsUpTo] using this
  refine ⟨?_, hk⟩
  unfold intsUpTo at h
  rw [List.getElem?_map, List.getElem?_range hk] at h
  exact (Option.some.inj h).symm
@[simp] theorem upTo_len (lo : Int) (n : Nat) : (intsUpTo lo n).length = n := by simp [intsUpTo]
theorem bSeq_nx {f g : List Slot → Res Fl} {S S' : List Slot} {r : Res Fl} (h : f S = .ok (.nx S')) (h2 : g S' = r) : bSeq f g S = r := by
  unfold bSeq
  rw [h]
  exact h2
theorem bSeq_rt {f g : List Slot → Res Fl} {S S' : List Slot} {d : D} (h : f S = .ok (.rt d S')) : bSeq f g S = .ok (.rt d S') := by
  unfold bSeq
  rw [h]
  rfl
theorem runB_rt {m : Nat} {g : List Slot → Res Fl} {ds : List D} {d : D} {S' : List Slot} (h : g (ds.map Slot.fz ++ List.replicate m Slot.un) = .ok (.rt d S')) : runB m g ds = .ok d := by
  unfold runB
  rw [h]
  rfl
theorem forG_nx {α : Type} {src : List Slot → Res (List α × List Slot)} {bnd : α → Bd} {b : List Slot → Res Fl} {S S0 S' : List Slot} {l : List α} (h : src S = .ok (l, S0)) (h2 : forS (bindB bnd) b l S0 = .ok (.nx S')) : sForG src bnd b S = .ok (.nx S') := by
  unfold sForG
  rw [h]
  exact h2
theorem rgOk_of {n : Int} (h1 : -1000000 ≤ n) (h2 : n ≤ 1000000) : rgOk n = true := by
  unfold rgOk
  simp
  omega
theorem srcK_r1 {f : En → Res D} {S : List Slot} {n : Int} (h : f (en S) = .ok (.int n)) (h1 : -1000000 ≤ n) (h2 : n ≤ 1000000) : srcK (iR1 f) S = .ok (intsUpTo 0 n.toNat, S) := by
  unfold srcK iR1
  rw [h]
  show (if rgOk n = true then Res.ok (intsUpTo 0 n.toNat) else .stuck) >>= (fun l => Res.ok (l, S)) = _
  rw [if_pos (rgOk_of h1 h2)]
  rfl
theorem srcK_r2 {f g : En → Res D} {S : List Slot} {n m : Int} (h : f (en S) = .ok (.int n)) (hg : g (en S) = .ok (.int m)) (h1 : -1000000 ≤ n) (h2 : n ≤ 1000000) (h3 : -1000000 ≤ m) (h4 : m ≤ 1000000) : srcK (iR2 f g) S = .ok (intsUpTo n (m - n).toNat, S) := by
  unfold srcK iR2
  rw [h, hg]
  show (if (rgOk n && rgOk m) = true then Res.ok (intsUpTo n (m - n).toNat) else .stuck) >>= (fun l => Res.ok (l, S)) = _
  rw [if_pos (by rw [rgOk_of h1 h2, rgOk_of h3 h4]; rfl)]
  rfl
theorem ten64 : ∃ B : Int, oPow (.int 10) (.int 64) = .ok (.int B) ∧ ∀ x : Int, oDiv (.int x) (.int B) = .ok (.int (x / B)) :=
  ⟨10000000000000000000000000000000000000000000000000000000000000000, rfl, fun x => oDiv_c (by decide) (by decide)⟩
theorem block_is (ns : List Int) (k : Nat) : ∃ m : Int, sem__law_block [.scr ns, .int k] = .ok (.int m) ∧ 0 ≤ m ∧ m < 2147483587 := by
  have c8 : ∀ x : Int, oMod (.int x) (.int 8) = .ok (.int (x % 8)) := fun x => oMod_pos (by decide)
  have d8 : ∀ x : Int, oDiv (.int x) (.int 8) = .ok (.int (x / 8)) := fun x => oDiv_c (by decide) (by decide)
  have c62 : ∀ x : Int, oMod (.int x) (.int 62) = .ok (.int (x % 62)) := fun x => oMod_pos (by decide)
  have cp : ∀ x : Int, oMod (.int x) (.int 2147483587) = .ok (.int (x % 2147483587)) := fun x => oMod_pos (by decide)
  have dp : ∀ x : Int, oDiv (.int x) (.int 2147483587) = .ok (.int (x / 2147483587)) := fun x => oDiv_c (by decide) (by decide)
  obtain ⟨B, p1, dd⟩ := ten64
  have loop : ∀ c : Int, ∃ c', forS (bindB (b1 3)) (sSet 2 (x2 oDiv (xVar 2) (xC (.int 2147483587)))) (intsUpTo 0 ((k : Int) % 8).toNat) [.fz (.scr ns), .fz (.int k), .fz (.int c), .un] = .ok (.nx c') ∧ ∃ c2 x, c' = [.fz (.scr ns), .fz (.int k), .fz (.int c2), x] := fun c =>
    let ⟨S', h1, h2⟩ := forS_all (bind := bindB (b1 3)) (b := sSet 2 (x2 oDiv (xVar 2) (xC (.int 2147483587)))) (fun _ S => ∃ c2 x, S = [Slot.fz (.scr ns), .fz (.int k), .fz (.int c2), x] ∧ ∀ i, x.kill i = x) (intsUpTo 0 ((k : Int) % 8).toNat) [.fz (.scr ns), .fz (.int k), .fz (.int c), .un] ⟨c, .un, rfl, fun _ => rfl⟩ (by
      rintro j d S hd ⟨c2, x, rfl, hx⟩
      obtain ⟨rfl, _⟩ := upTo_get hd
      exact ⟨_, [.fz (.scr ns), .fz (.int k), .fz (.int (c2 / 2147483587)), .fz (.int (0 + (j : Nat)))], rfl, by simp [sSet, x2, xVar, xC, en, setS, dp], _, _, rfl, fun _ => rfl⟩)
    ⟨S', h1, by obtain ⟨c2, x, e, _⟩ := h2; exact ⟨c2, x, e⟩⟩
  have main : ∀ c : Int, ∃ (m : Int) (S : List Slot), (bSeq (sForG (srcK (iR1 (x2 oMod (xVar 1) (xC (.int 8))))) (b1 3) (sSet 2 (x2 oDiv (xVar 2) (xC (.int 2147483587)))))
      (sRet (x2 oMod (xVar 2) (xC (.int 2147483587))))) [.fz (.scr ns), .fz (.int k), .fz (.int c), .un] = .ok (.rt (.int m) S) ∧ 0 ≤ m ∧ m < 2147483587 := fun c => by
    obtain ⟨c', e, c2, x, rfl⟩ := loop c
    exact ⟨c2 % 2147483587, [.fz (.scr ns), .fz (.int k), .fz (.int c2), x], bSeq_nx (forG_nx (srcK_r1 (n := (k : Int) % 8) (by simp [x2, xVar, xC, en, c8]) (by omega) (by omega)) e) (by simp [sRet, x2, xVar, xC, en, cp]), by omega, by omega⟩
  unfold sem__law_block
  obtain ⟨j, h62⟩ : ∃ j : Nat, 1 + (k : Int) / 8 % 62 = (j : Int) := ⟨1 + k / 8 % 62, by omega⟩
  by_cases h : j < ns.length
  · obtain ⟨m, S, e, m0, m1⟩ := main (ns[j] / B)
    refine ⟨m, ?_, m0, m1⟩
    have ix : oIx (.scr ns) (.int (j : Int)) = .ok (.int ns[j]) := by
      rw [oIx_scr, atI_nat' (by omega)]
      simp [h]
    refine runB_rt (bSeq_nx (S' := [.fz (.scr ns), .fz (.int k), .fz (.int 0), .un]) rfl (bSeq_nx ?_ e))
    simp [sIf, tBl, x2, xVar, x1, xC, en, c62, d8, h62, h, ix, p1, dd, sSet, setS]
  · obtain ⟨m, S, e, m0, m1⟩ := main 0
    refine ⟨m, ?_, m0, m1⟩
    refine runB_rt (bSeq_nx (S' := [.fz (.scr ns), .fz (.int k), .fz (.int 0), .un]) rfl (bSeq_nx ?_ e))
    simp [sIf, tBl, x2, xVar, x1, xC, en, c62, d8, h62, h, bN]
theorem mixed_is (ns : List Int) (hl : ns.length ≤ 63) (k : Nat) (hk : k < 100000) : ∃ m : Int, sem__law_mixed [.scr ns, .int k] = .ok (.int m) ∧ 0 ≤ m ∧ m < 2147483587 := by
  have d6 : ∀ x : Int, oDiv (.int x) (.int 1000000) = .ok (.int (x / 1000000)) := fun x => oDiv_c (by decide) (by decide)
  have c2 : ∀ x : Int, oMod (.int x) (.int 2) = .ok (.int (x % 2)) := fun x => oMod_pos (by decide)
  have c18 : ∀ x : Int, oMod (.int x) (.int 1000000000000000000) = .ok (.int (x % 1000000000000000000)) := fun x => oMod_pos (by decide)
  have cq : ∀ x : Int, oMod (.int x) (.int 2147483629) = .ok (.int (x % 2147483629)) := fun x => oMod_pos (by decide)
  have cp : ∀ x : Int, oMod (.int x) (.int 2147483587) = .ok (.int (x % 2147483587)) := fun x => oMod_pos (by decide)
  have p6 : oPow (.int 10) (.int 6) = .ok (.int 1000000) := rfl
  have p18 : oPow (.int 10) (.int 18) = .ok (.int 1000000000000000000) := rfl
  obtain ⟨bm, hb, b0, b1⟩ := block_is ns k
  have kz : Sz 60 ((k : Int) + 1) := by show ((k : Int) + 1).natAbs < 2 ^ 60; omega
  have kz' : Sz 60 (k : Int) := by show (k : Int).natAbs < 2 ^ 60; omega
  have e1 : oMul (.int 48271) (.int ((k : Int) + 1)) = .ok (.int (48271 * ((k : Int) + 1))) := oMul_ok (n := 60) (by decide) kz (by decide)
  have e2 : oMul (.int 69621) (.int (k : Int)) = .ok (.int (69621 * (k : Int))) := oMul_ok (n := 60) (by decide) kz' (by decide)
  have tail : ∀ c : Int, ∃ m : Int, (bSeq (sSet 3 (x2 oAdd (x2 oMod (xVar 2) (x2 oPow (xC (.int 10)) (xC (.int 18)))) (x2 oMul (xC (.int 48271)) (x2 oAdd (xVar 1) (xC (.int 1))))))
 (bSeq (sSet 3 (x2 oAdd (x2 oMod (x2 oMul (xVar 3) (xVar 3)) (xC (.int 2147483629))) (x2 oMul (xC (.int 69621)) (xVar 1))))
 (sRet (x2 oMod (x2 oMul (xVar 3) (xVar 3)) (xC (.int 2147483587)))))) [.fz (.scr ns), .fz (.int k), .fz (.int c), .un] = .ok (.rt (.int m) [.fz (.scr ns), .fz (.int k), .fz (.int c), .fz (.int ((c % 1000000000000000000 + 48271 * ((k : Int) + 1)) * (c % 1000000000000000000 + 48271 * ((k : Int) + 1)) % 2147483629 + 69621 * (k : Int)))]) ∧ 0 ≤ m ∧ m < 2147483587 := fun c => by
    obtain ⟨u, hu⟩ : ∃ u, u = c % 1000000000000000000 + 48271 * ((k : Int) + 1) := ⟨_, rfl⟩
    have u1 := Int.emod_nonneg c (show (1000000000000000000 : Int) ≠ 0 by decide)
    have u2 := Int.emod_lt_of_pos c (show (0 : Int) < 1000000000000000000 by decide)
    have uz : Sz 90 u := by show u.natAbs < 2 ^ 90; omega
    obtain ⟨v, hv⟩ : ∃ v, v = u * u % 2147483629 + 69621 * (k : Int) := ⟨_, rfl⟩
    have v1 := Int.emod_nonneg (u * u) (show (2147483629 : Int) ≠ 0 by decide)
    have v2 := Int.emod_lt_of_pos (u * u) (show (0 : Int) < 2147483629 by decide)
    have vz : Sz 90 v := by show v.natAbs < 2 ^ 90; omega
    have f1 : oMul (.int u) (.int u) = .ok (.int (u * u)) := oMul_ok uz uz (by decide)
    have f2 : oMul (.int v) (.int v) = .ok (.int (v * v)) := oMul_ok vz vz (by decide)
    refine ⟨v * v % 2147483587, ?_, Int.emod_nonneg _ (by decide), Int.emod_lt_of_pos _ (by decide)⟩
    rw [← hu, ← hv]
    simp [bSeq, sSet, x2, xVar, xC, en, c18, p18, e1, setS, ← hu, f1, cq, e2, ← hv, f2, cp, sRet]
  unfold sem__law_mixed
  by_cases h0 : ns.length = 0
  · have hn : ns = [] := List.length_eq_zero_iff.mp h0
    subst hn
    obtain ⟨m, e, m0, m1⟩ := tail 0
    refine ⟨m, ?_, m0, m1⟩
    refine runB_rt (bSeq_nx (S' := [.fz (.scr []), .fz (.int k), .fz (.int 0), .un]) rfl (bSeq_nx (S' := [.fz (.scr []), .fz (.int k), .fz (.int 0), .un]) ?_ (bSeq_nx (S' := [.fz (.scr []), .fz (.int k), .fz (.int 0), .un]) ?_ (bSeq_nx ?_ e))))
    · simp [sIf, tBl, x2, x1, xVar, xC, en, bN]
    · simp [sIf, tBl, x2, x1, xVar, xC, en, bN, p6, d6, c2]
    · simp [sIf, tBl, x2, x1, xVar, xC, en, bN]
  · have hpos : 0 < ns.length := by omega
    have i0 : oIx (.scr ns) (.int 0) = .ok (.int ns[0]) := by
      rw [oIx_scr, atI_nat' (by omega)]
      simp [hpos]
    have hz : (0 : Int) < (ns.length : Int) := by omega
    by_cases hc : ns[0] / 1000000 % 2 = 1
    · refine ⟨bm, ?_, b0, b1⟩
      refine runB_rt (S' := [.fz (.scr ns), .fz (.int k), .fz (.int ns[0]), .un]) (bSeq_nx (S' := [.fz (.scr ns), .fz (.int k), .fz (.int 0), .un]) rfl (bSeq_nx (S' := [.fz (.scr ns), .fz (.int k), .fz (.int ns[0]), .un]) ?_ (bSeq_rt ?_)))
      · simp [sIf, tBl, x2, x1, xVar, xC, en, hpos, sSet, xP, i0, setS]
      · simp [sIf, tBl, x2, x1, xVar, xC, en, p6, d6, c2, hc, sRet, xCall, aCons, aNil, hb]
    · obtain ⟨j, hj⟩ : ∃ j : Nat, (k : Int) % (if (ns.length : Int) < 63 then (ns.length : Int) else 63) = (j : Int) := ⟨((k : Int) % (if (ns.length : Int) < 63 then (ns.length : Int) else 63)).toNat, by split <;> omega⟩
      have hjl : j < ns.length := by
        have : (k : Int) % (if (ns.length : Int) < 63 then (ns.length : Int) else 63) < (ns.length : Int) := by
          split
          · exact Int.emod_lt_of_pos _ hz
          · have := Int.emod_lt_of_pos (k : Int) (show (0 : Int) < 63 by decide)
            omega
        omega
      have hpm : (0 : Int) < (if (ns.length : Int) < 63 then (ns.length : Int) else 63) := by split <;> omega
      have cm : oMod (.int k) (.int (if (ns.length : Int) < 63 then (ns.length : Int) else 63)) = .ok (.int j) := by
        rw [oMod_pos hpm, hj]
      have ij : oIx (.scr ns) (.int (j : Int)) = .ok (.int ns[j]) := by
        rw [oIx_scr, atI_nat' (by omega)]
        simp [hjl]
      obtain ⟨m, e, m0, m1⟩ := tail ns[j]
      refine ⟨m, ?_, m0, m1⟩
      refine runB_rt (bSeq_nx (S' := [.fz (.scr ns), .fz (.int k), .fz (.int 0), .un]) rfl (bSeq_nx (S' := [.fz (.scr ns), .fz (.int k), .fz (.int ns[0]), .un]) ?_ (bSeq_nx (S' := [.fz (.scr ns), .fz (.int k), .fz (.int ns[0]), .un]) ?_ (bSeq_nx ?_ e))))
      · simp [sIf, tBl, x2, x1, xVar, xC, en, hpos, sSet, xP, i0, setS]
      · simp [sIf, tBl, x2, x1, xVar, xC, en, p6, d6, c2, hc, bN]
      · simp only [sIf, tBl, x2, x1, xVar, xC, en, sSet, xP]
        simp [hpos, cm, ij, setS]
end Ow.Lib
end
section
set_option linter.all false
set_option exponentiation.threshold 100000
set_option maxHeartbeats 2000000
/-! LibO: orders of places. -/
namespace Ow.Lib
open PySem L2
abbrev dL (o : List Int) : D := .lst (o.map D.int)
abbrev dO (O : List (List Int)) : D := .lst (O.map dL)
/-- put in at a place -/
def ins (o : List Int) (p : Nat) (x : Int) : List Int := o.take p ++ [x] ++ o.drop p
theorem mem_ins {o : List Int} {p : Nat} {x y : Int} : y ∈ ins o p x ↔ y = x ∨ y ∈ o := by
  unfold ins
  have : y ∈ o ↔ y ∈ o.take p ∨ y ∈ o.drop p := by
    rw [← List.mem_append, List.take_append_drop]
  simp only [List.mem_append, List.mem_singleton, this]
  constructor
  · rintro ((h | h) | h)
    · exact .inr (.inl h)
    · exact .inl h
    · exact .inr (.inr h)
  · rintro (h | h | h)
    · exact .inl (.inr h)
    · exact .inl (.inl h)
    · exact .inr h
theorem nodup_ins {o : List Int} {p : Nat} {x : Int} (h : o.Nodup) (hx : x ∉ o) : (ins o p x).Nodup := by
  have e : (ins o p x).Perm (x :: o) := by
    unfold ins
    have h1 : (o.take p ++ [x] ++ o.drop p).Perm ([x] ++ o.take p ++ o.drop p) := List.Perm.append_right _ List.perm_append_comm
    have h2 : [x] ++ o.take p ++ o.drop p = x :: o := by rw [List.append_assoc, List.take_append_drop]; rfl
    rw [h2] at h1
    exact h1
  exact e.nodup_iff.mpr (List.nodup_cons.mpr ⟨hx, h⟩)
@[simp] theorem len_ins (o : List Int) (p : Nat) (x : Int) : (ins o p x).length = o.length + 1 := by
  unfold ins
  simp
  omega
theorem map_ins (o : List Int) (p : Nat) (x : Int) : (o.map D.int).take p ++ [D.int x] ++ (o.map D.int).drop p = (ins o p x).map D.int := by
  unfold ins
  simp
/-- the k-th order -/
def nb (O : List (List Int)) (v : Nat) : List Int := O.getD v []
theorem nb_set {O : List (List Int)} {a v : Nat} {o : List Int} (h : a < O.length) : nb (O.set a o) v = if v = a then o else nb O v := by
  unfold nb
  by_cases e : v = a
  · subst e
    rw [if_pos rfl, List.getD_eq_getElem?_getD, List.getElem?_set_self h]
    rfl
  · rw [if_neg e, List.getD_eq_getElem?_getD, List.getElem?_set_ne (Ne.symm e), List.getD_eq_getElem?_getD]
theorem nb_get {O : List (List Int)} {v : Nat} (h : v < O.length) : O[v]? = some (nb O v) := by
  unfold nb
  rw [List.getD_eq_getElem?_getD, List.getElem?_eq_getElem h]
  rfl
theorem nb_out {O : List (List Int)} {v : Nat} (h : O.length ≤ v) : nb O v = [] := by
  unfold nb
  rw [List.getD_eq_getElem?_getD, List.getElem?_eq_none h]
  rfl
/-- whole orders -/
structure MapOk (O : List (List Int)) : Prop where
  rng : ∀ v u, u ∈ nb O v → 0 ≤ u ∧ u < (O.length : Int) ∧ u ≠ (v : Int)
  nd : ∀ v, (nb O v).Nodup
  sym : ∀ v u : Nat, (u : Int) ∈ nb O v → (v : Int) ∈ nb O u
theorem MapOk.put {O : List (List Int)} (h : MapOk O) {a b p q : Nat} (hab : a ≠ b) (ha : a < O.length) (hb : b < O.length) (n1 : (b : Int) ∉ nb O a) (n2 : (a : Int) ∉ nb O b) :
    MapOk ((O.set a (ins (nb O a) p b)).set b (ins (nb O b) q a)) := by
  have hb' : b < (O.set a (ins (nb O a) p b)).length := by simpa using hb
  have key : ∀ v, nb ((O.set a (ins (nb O a) p b)).set b (ins (nb O b) q a)) v = if v = b then ins (nb O b) q a else if v = a then ins (nb O a) p b else nb O v := fun v => by
    rw [nb_set hb', nb_set ha]
  refine ⟨fun v u hu => ?_, fun v => ?_, fun v u hu => ?_⟩
  · rw [key] at hu
    simp only [List.length_set]
    split at hu
    · rename_i e
      subst e
      rcases mem_ins.mp hu with rfl | hu
      · omega
      · exact h.rng _ _ hu
    · split at hu
      · rename_i e
        subst e
        rcases mem_ins.mp hu with rfl | hu
        · omega
        · exact h.rng _ _ hu
      · exact h.rng _ _ hu
  · rw [key]
    split
    · exact nodup_ins (h.nd b) n2
    · split
      · exact nodup_ins (h.nd a) n1
      · exact h.nd v
  · rw [key] at hu ⊢
    by_cases v1 : v = b
    · rw [if_pos v1] at hu
      rcases mem_ins.mp hu with e | hu
      · have eu : u = a := by omega
        rw [if_neg (by omega), if_pos eu]
        exact mem_ins.mpr (.inl (by omega))
      · have := h.sym b u hu
        by_cases u1 : u = b
        · have := (h.rng b u hu).2.2
          omega
        · rw [if_neg u1]
          by_cases u2 : u = a
          · rw [if_pos u2]; exact mem_ins.mpr (.inl (by omega))
          · rw [if_neg u2, v1]; exact this
    · rw [if_neg v1] at hu
      by_cases v2 : v = a
      · rw [if_pos v2] at hu
        rcases mem_ins.mp hu with e | hu
        · have eu : u = b := by omega
          rw [if_pos eu]
          exact mem_ins.mpr (.inl (by omega))
        · have := h.sym a u hu
          by_cases u1 : u = b
          · rw [if_pos u1]; exact mem_ins.mpr (.inl (by omega))
          · rw [if_neg u1]
            by_cases u2 : u = a
            · have := (h.rng a u hu).2.2
              omega
            · rw [if_neg u2, v2]; exact this
      · rw [if_neg v2] at hu
        have := h.sym v u hu
        by_cases u1 : u = b
        · rw [if_pos u1]; subst u1; exact mem_ins.mpr (.inr this)
        · rw [if_neg u1]
          by_cases u2 : u = a
          · rw [if_pos u2]; subst u2; exact mem_ins.mpr (.inr this)
          · rw [if_neg u2]; exact this
/-! ### a change at an item -/
theorem ixN_nat {n k : Nat} (h : k < n) : ixN n (k : Int) = some k := by
  unfold ixN
  rw [if_pos (by omega), if_pos (by omega)]
  simp
theorem getL_it {S : List Slot} {s k : Nat} {O : List (List Int)} (hS : S[s]? = some (.own (dO O))) (hk : k < O.length) : getL S (.it s k) = some (dL (nb O k)) := by
  show (match S[s]? with
    | some (.own (.lst ds)) => ds[k]?
    | _ => none) = _
  rw [hS]
  show (O.map dL)[k]? = _
  rw [List.getElem?_map, nb_get hk]
  rfl
theorem putL_it {S : List Slot} {s k : Nat} {O : List (List Int)} {o : List Int} {b : Bool} (hS : S[s]? = some (.own (dO O))) : putL b S (dL o) (.it s k) = S.set s (.own (dO (O.set k o))) := by
  show (match S[s]? with
    | some (.own (.lst ds)) => S.set s (.own (.lst (ds.set k (dL o))))
    | _ => S) = _
  rw [hS]
  show S.set s (.own (.lst ((O.map dL).set k (dL o)))) = S.set s (.own (.lst ((O.set k o).map dL)))
  rw [List.map_set]
theorem locP_is {S : List Slot} {s k : Nat} {O : List (List Int)} {f : En → Res D} (hS : S[s]? = some (.own (dO O))) (hf : f (en S) = .ok (.int (k : Nat))) (hk : k < O.length) : locP s f S = .ok (.it s k) := by
  unfold locP
  rw [hS]
  show (f (en S) >>= fun d => match d with
    | .int i => (match ixN (O.map dL).length i with
      | some j => Res.ok (Lc.it s j)
      | none => .stuck)
    | _ => .stuck) = _
  rw [hf]
  show (match ixN (O.map dL).length (k : Int) with
      | some j => Res.ok (Lc.it s j)
      | none => .stuck) = _
  rw [List.length_map, ixN_nat hk]
theorem meth_ins {S : List Slot} {s k : Nat} {O : List (List Int)} {loc : List Slot → Res Lc} {fs : En → Res (List D)} {p x : Int} (hS : S[s]? = some (.own (dO O))) (hl : loc S = .ok (.it s k)) (hk : k < O.length) (hfs : fs (en S) = .ok [.int p, .int x]) (hp : 0 ≤ p) (hp2 : p < 1000000) (hz : (nb O k).length < 1000000) :
    sMeth loc fs opIns S = .ok (.nx (S.set s (.own (dO (O.set k (ins (nb O k) p.toNat x)))))) := by
  unfold sMeth
  rw [hl, ok_bind, getL_it hS hk]
  show (fs (en S) >>= fun es => _) = _
  rw [hfs, ok_bind]
  have : opIns (dL (nb O k)) [.int p, .int x] = some (dL (ins (nb O k) p.toNat x), false) := by
    unfold opIns
    simp only [List.length_map]
    rw [if_pos]
    · rw [map_ins]
    · simp [szOk]
      omega
  rw [this]
  show Res.ok (Fl.nx (putL false S (dL (ins (nb O k) p.toNat x)) (.it s k))) = _
  rw [putL_it hS]
/-! ### drawn maps -/
/-- the pairs ahead of (one, other) alone are tied; no order is longer than t -/
structure AnyInv (O : List (List Int)) (many one other t : Nat) : Prop where
  len : O.length = many
  ok : MapOk O
  prs : ∀ v u : Nat, (u : Int) ∈ nb O v → max u v < one ∨ (max u v = one ∧ min u v < other)
  sz : ∀ v, (nb O v).length ≤ t
theorem AnyInv.next {O : List (List Int)} {many one other t : Nat} (h : AnyInv O many one other t) : AnyInv O many one (other + 1) (t + 1) :=
  ⟨h.len, h.ok, fun v u hu => (h.prs v u hu).imp id fun z => ⟨z.1, by omega⟩, fun v => Nat.le_succ_of_le (h.sz v)⟩
theorem AnyInv.row {O : List (List Int)} {many one t t' : Nat} (h : AnyInv O many one one t) (ht : t ≤ t') : AnyInv O many (one + 1) 0 t' :=
  ⟨h.len, h.ok, fun v u hu => by
    have h1 := h.prs v u hu
    have h2 := (h.ok.rng v u hu).2.2
    left
    omega, fun v => Nat.le_trans (h.sz v) ht⟩
theorem AnyInv.put {O : List (List Int)} {many one other t p q : Nat} (h : AnyInv O many one other t) (h1 : other < one) (h2 : one < many) :
    AnyInv ((O.set one (ins (nb O one) p other)).set other (ins (nb O other) q one)) many one (other + 1) (t + 1) := by
  have ha : one < O.length := by rw [h.len]; exact h2
  have hb : other < O.length := by rw [h.len]; omega
  have n1 : (other : Int) ∉ nb O one := fun z => by have := h.prs one other z; omega
  have n2 : (one : Int) ∉ nb O other := fun z => by have := h.prs other one z; omega
  have hb' : other < (O.set one (ins (nb O one) p other)).length := by simpa using hb
  have key : ∀ v, nb ((O.set one (ins (nb O one) p other)).set other (ins (nb O other) q one)) v = if v = other then ins (nb O other) q one else if v = one then ins (nb O one) p other else nb O v := fun v => by
    rw [nb_set hb', nb_set ha]
  refine ⟨by simp [h.len], h.ok.put (by omega) ha hb n1 n2, fun v u hu => ?_, fun v => ?_⟩
  · rw [key] at hu
    split at hu
    · rename_i e
      rcases mem_ins.mp hu with z | z
      · omega
      · have := h.prs other u z
        omega
    · split at hu
      · rename_i e
        rcases mem_ins.mp hu with z | z
        · omega
        · have := h.prs one u z
          omega
      · have := h.prs v u hu
        omega
  · rw [key]
    split
    · rw [len_ins]; have := h.sz other; omega
    · split
      · rw [len_ins]; have := h.sz one; omega
      · have := h.sz v; omega
theorem lcR_const {L : List D} {bnd : D → Bd} {en : En} : lcR bnd tYs (xLst aNil) en L = .ok (List.replicate L.length (.lst [])) := by
  induction L with
  | nil => rfl
  | cons a l ih =>
    unfold lcR
    simp only [tYs, ok_bind, if_pos]
    rw [show xLst aNil (setE en (bnd a)) = .ok (.lst []) from rfl, ok_bind, ih]
    rfl
theorem iR1_is {f : En → Res D} {e : En} {n : Int} (h : f e = .ok (.int n)) (h1 : -1000000 ≤ n) (h2 : n ≤ 1000000) : iR1 f e = .ok (intsUpTo 0 n.toNat) := by
  unfold iR1
  rw [h]
  exact if_pos (rgOk_of h1 h2)
theorem szOk_of {n : Nat} (h : n ≤ 1000000) : szOk n = true := decide_eq_true (Nat.le_trans h (by decide))
theorem xLc_is {α : Type} {L : En → Res (List α)} {bnd : α → Bd} {vs : List Nat} {c : En → Res Bool} {f : En → Res D} {e : En} {l : List α} {ds : List D} (h : L e = .ok l) (hz : l.length ≤ 1000000) (hr : lcR bnd c f (wipeE e vs) l = .ok ds) : xLc L bnd vs c f e = .ok (.lst ds) := by
  unfold xLc
  rw [h, ok_bind, if_pos (szOk_of hz), hr]
  rfl
theorem nb_rep (many v : Nat) : nb (List.replicate many []) v = [] := by
  unfold nb
  rw [List.getD_eq_getElem?_getD, List.getElem?_replicate]
  split <;> rfl
theorem AnyInv.start (many : Nat) : AnyInv (List.replicate many []) many 0 0 (8 * 0) :=
  have no : ∀ (v : Nat) (u : Int), u ∉ nb (List.replicate many []) v := fun v u hu => by
    rw [nb_rep] at hu
    cases hu
  ⟨List.length_replicate, ⟨fun v u hu => absurd hu (no v u), fun v => (nb_rep many v).symm ▸ List.Pairwise.nil, fun v u hu => absurd hu (no v u)⟩, fun v u hu => absurd hu (no v u), fun v => by rw [nb_rep]; exact Nat.le_refl _⟩
theorem any_is (ns : List Int) (hl : ns.length ≤ 63) (start many : Nat) (hs : start < 1000) (hm : many ≤ 8) : ∃ O : List (List Int), sem__law_any [.scr ns, .int start, .int many] = .ok (dO O) ∧ MapOk O ∧ O.length = many ∧ ∀ v, (nb O v).length ≤ 64 := by
  obtain ⟨m0, e0, m1, m2⟩ := mixed_is ns hl start (by omega)
  have c3 : ∀ x : Int, oMod (.int x) (.int 3) = .ok (.int (x % 3)) := fun x => oMod_pos (by decide)
  have d12 : ∀ x : Int, oDiv (.int x) (.int 12) = .ok (.int (x / 12)) := fun x => oDiv_c (by decide) (by decide)
  have d128 : ∀ x : Int, oDiv (.int x) (.int 128) = .ok (.int (x / 128)) := fun x => oDiv_c (by decide) (by decide)
  obtain ⟨th, hth, t2, t3⟩ : ∃ th : Int, th = 2 + m0 % 3 ∧ 2 ≤ th ∧ th ≤ 4 := ⟨_, rfl, by omega, by omega⟩
  have cth : ∀ x : Int, oMod (.int x) (.int th) = .ok (.int (x % th)) := fun x => oMod_pos (by omega)
  let inner : List Slot → Res Fl := (bSeq (sSet 8 (xCall sem__law_mixed (aCons (xVar 0) (aCons (x2 oAdd (x2 oAdd (x2 oAdd (xVar 1) (xC (.int 1))) (x2 oMul (xC (.int 8)) (xVar 5))) (xVar 6)) aNil))))
 (sIf (tBl (x2 oNe (x2 oMod (xVar 8) (xVar 4)) (xC (.int 0)))) (bSeq (sMeth (locP 3 (xVar 5)) (aCons (x2 oMod (x2 oDiv (xVar 8) (xC (.int 12))) (x2 oAdd (x1 oLen (x2 oIx (xVar 3) (xVar 5))) (xC (.int 1)))) (aCons (xP (xVar 6)) aNil)) opIns)
 (sMeth (locP 3 (xVar 6)) (aCons (x2 oMod (x2 oDiv (xVar 8) (xC (.int 128))) (x2 oAdd (x1 oLen (x2 oIx (xVar 3) (xVar 6))) (xC (.int 1)))) (aCons (xP (xVar 5)) aNil)) opIns)) bN))
  have hin : ∀ (one : Nat) (O : List (List Int)) (x6 x8 : Slot), one < many → (∀ i, x6.kill i = x6) → (∀ i, x8.kill i = x8) → AnyInv O many one 0 (8 * one) →
      ∃ O' y6 y8, forS (bindB (b1 6)) inner (intsUpTo 0 one) [.fz (.scr ns), .fz (.int start), .fz (.int many), .own (dO O), .fz (.int th), .fz (.int one), x6, .un, x8] = .ok (.nx [.fz (.scr ns), .fz (.int start), .fz (.int many), .own (dO O'), .fz (.int th), .fz (.int one), y6, .un, y8]) ∧ AnyInv O' many one one (8 * one + one) ∧ (∀ i, y6.kill i = y6) ∧ (∀ i, y8.kill i = y8) := by
    intro one O x6 x8 h1 hk6 hk8 hI
    obtain ⟨S', e, O', y6, y8, rfl, hI', k6, k8⟩ := forS_all (bind := bindB (b1 6)) (b := inner) (fun j S => ∃ O y6 y8, S = [Slot.fz (.scr ns), .fz (.int start), .fz (.int many), .own (dO O), .fz (.int th), .fz (.int one), y6, .un, y8] ∧ AnyInv O many one j (8 * one + j) ∧ (∀ i, y6.kill i = y6) ∧ (∀ i, y8.kill i = y8))
      (intsUpTo 0 one) _ ⟨O, x6, x8, rfl, hI, hk6, hk8⟩ (by
        rintro j d S hd ⟨O, y6, y8, rfl, hI, k6, k8⟩
        obtain ⟨rfl, hj⟩ := upTo_get hd
        obtain ⟨k, hk, hkb⟩ : ∃ k : Nat, (start : Int) + 1 + 8 * (one : Int) + (j : Int) = (k : Int) ∧ k < 100000 := ⟨start + 1 + 8 * one + j, by omega, by omega⟩
        obtain ⟨m, em, mm1, mm2⟩ := mixed_is ns hl k hkb
        have o8 : oMul (.int 8) (.int (one : Int)) = .ok (.int (8 * (one : Int))) := oMul_ok (n := 10) (m := 10) (by decide) (by show (one : Int).natAbs < 2 ^ 10; omega) (by decide)
        have hone : one < O.length := by rw [hI.len]; exact h1
        have hjl : j < O.length := by omega
        have first : sSet 8 (xCall sem__law_mixed (aCons (xVar 0) (aCons (x2 oAdd (x2 oAdd (x2 oAdd (xVar 1) (xC (.int 1))) (x2 oMul (xC (.int 8)) (xVar 5))) (xVar 6)) aNil))) [Slot.fz (.scr ns), .fz (.int start), .fz (.int many), .own (dO O), .fz (.int th), .fz (.int one), .fz (.int j), .un, y8] = .ok (.nx [Slot.fz (.scr ns), .fz (.int start), .fz (.int many), .own (dO O), .fz (.int th), .fz (.int one), .fz (.int j), .un, .fz (.int m)]) := by
          simp [sSet, xCall, aCons, aNil, xVar, x2, xC, en, o8, hk, em, setS]
        have bd : setBs [Slot.fz (.scr ns), .fz (.int start), .fz (.int many), .own (dO O), .fz (.int th), .fz (.int one), y6, .un, y8] (b1 6 (.int (0 + (j : Nat)))) = [Slot.fz (.scr ns), .fz (.int start), .fz (.int many), .own (dO O), .fz (.int th), .fz (.int one), .fz (.int j), .un, y8] := by
          simp [setS, k6, k8]
        have hn1 : ∀ (O : List (List Int)) (k : Nat), k < O.length → oIx (dO O) (.int (k : Int)) = .ok (dL (nb O k)) := fun O k hk => by
          rw [oIx_lst, atI_nat' (by omega)]
          simp [nb_get hk]
        by_cases hz : m % th = 0
        · refine ⟨_, [Slot.fz (.scr ns), .fz (.int start), .fz (.int many), .own (dO O), .fz (.int th), .fz (.int one), .fz (.int j), .un, .fz (.int m)], rfl, ?_, O, _, _, rfl, hI.next, fun _ => rfl, fun _ => rfl⟩
          rw [bd]
          refine bSeq_nx first ?_
          simp [sIf, tBl, x2, xVar, xC, en, cth, hz, bN]
        · obtain ⟨p, hp⟩ : ∃ p : Int, p = m / 12 % (((nb O one).length : Int) + 1) := ⟨_, rfl⟩
          have hpos : (0 : Int) < ((nb O one).length : Int) + 1 := by omega
          have p1 : 0 ≤ p := by rw [hp]; exact Int.emod_nonneg _ (by omega)
          have p2 : p < ((nb O one).length : Int) + 1 := by rw [hp]; exact Int.emod_lt_of_pos _ hpos
          have cp : oMod (.int (m / 12)) (.int (((nb O one).length : Int) + 1)) = .ok (.int p) := by rw [hp]; exact oMod_pos hpos
          have sz1 := hI.sz one
          have sz2 := hI.sz j
          let O1 := O.set one (ins (nb O one) p.toNat j)
          have l1 : O1.length = O.length := by simp [O1]
          have nbj : nb O1 j = nb O j := by
            show nb (O.set one _) j = _
            rw [nb_set hone, if_neg (by omega)]
          obtain ⟨q, hq⟩ : ∃ q : Int, q = m / 128 % (((nb O j).length : Int) + 1) := ⟨_, rfl⟩
          have hpos2 : (0 : Int) < ((nb O j).length : Int) + 1 := by omega
          have q1 : 0 ≤ q := by rw [hq]; exact Int.emod_nonneg _ (by omega)
          have q2 : q < ((nb O j).length : Int) + 1 := by rw [hq]; exact Int.emod_lt_of_pos _ hpos2
          have cq : oMod (.int (m / 128)) (.int (((nb O j).length : Int) + 1)) = .ok (.int q) := by rw [hq]; exact oMod_pos hpos2
          refine ⟨_, [Slot.fz (.scr ns), .fz (.int start), .fz (.int many), .own (dO (O1.set j (ins (nb O1 j) q.toNat one))), .fz (.int th), .fz (.int one), .fz (.int j), .un, .fz (.int m)], rfl, ?_, _, _, _, rfl, ?_, fun _ => rfl, fun _ => rfl⟩
          · rw [bd]
            refine bSeq_nx first ?_
            have ht : (tBl (x2 oNe (x2 oMod (xVar 8) (xVar 4)) (xC (.int 0)))) (en [Slot.fz (.scr ns), .fz (.int start), .fz (.int many), .own (dO O), .fz (.int th), .fz (.int one), .fz (.int j), .un, .fz (.int m)]) = .ok true := by
              simp [tBl, x2, xVar, xC, en, cth, hz]
            unfold sIf
            rw [ht, ok_bind, if_pos rfl]
            refine bSeq_nx (meth_ins (O := O) (k := one) (p := p) (x := j) rfl (locP_is (O := O) rfl rfl hone) hone ?_ p1 (by omega) (by omega)) (meth_ins (O := O1) (k := j) (p := q) (x := one) rfl (locP_is (O := O1) rfl rfl (by omega)) (by omega) ?_ q1 (by omega) (by rw [nbj]; omega))
            · simp [aCons, aNil, x2, x1, xVar, xC, xP, en, d12, hn1 O one hone, cp]
            · have := hn1 O1 j (by omega)
              rw [nbj] at this
              simp only [dO, O1] at this
              simp [aCons, aNil, x2, x1, xVar, xC, xP, en, d128, this, cq]
          · rw [nbj]
            exact hI.put hj h1)
    exact ⟨O', y6, y8, e, by simpa using hI', k6, k8⟩
  obtain ⟨S', e, O', y5, y6, y8, rfl, hI', k5, k6, k8⟩ := forS_all (bind := bindB (b1 5)) (b := sForG (srcK (iR1 (xVar 5))) (b1 6) inner) (fun j S => ∃ O y5 y6 y8, S = [Slot.fz (.scr ns), .fz (.int start), .fz (.int many), .own (dO O), .fz (.int th), y5, y6, .un, y8] ∧ AnyInv O many j 0 (8 * j) ∧ (∀ i, y5.kill i = y5) ∧ (∀ i, y6.kill i = y6) ∧ (∀ i, y8.kill i = y8))
    (intsUpTo 0 many) [Slot.fz (.scr ns), .fz (.int start), .fz (.int many), .own (dO (List.replicate many [])), .fz (.int th), .un, .un, .un, .un] ⟨List.replicate many [], .un, .un, .un, rfl, AnyInv.start many, fun _ => rfl, fun _ => rfl, fun _ => rfl⟩ (by
      rintro j d S hd ⟨O, y5, y6, y8, rfl, hI, k5, k6, k8⟩
      obtain ⟨rfl, hj⟩ := upTo_get hd
      obtain ⟨O', z6, z8, e, hI', q6, q8⟩ := hin j O y6 y8 hj k6 k8 hI
      have bd : setBs [Slot.fz (.scr ns), .fz (.int start), .fz (.int many), .own (dO O), .fz (.int th), y5, y6, .un, y8] (b1 5 (.int (0 + (j : Nat)))) = [Slot.fz (.scr ns), .fz (.int start), .fz (.int many), .own (dO O), .fz (.int th), .fz (.int j), y6, .un, y8] := by
        simp [setS, k6, k8]
      refine ⟨_, [Slot.fz (.scr ns), .fz (.int start), .fz (.int many), .own (dO O'), .fz (.int th), .fz (.int j), z6, .un, z8], rfl, ?_, O', _, _, _, rfl, hI'.row (by omega), fun _ => rfl, q6, q8⟩
      rw [bd]
      refine forG_nx (srcK_r1 (n := (j : Int)) rfl (by omega) (by omega)) ?_
      simpa using e)
  have hI0 : sem__law_any [.scr ns, .int start, .int many] = .ok (dO O') := by
    unfold sem__law_any
    refine runB_rt (S' := [Slot.fz (.scr ns), .fz (.int start), .fz (.int many), .un, .fz (.int th), y5, y6, .un, y8]) (bSeq_nx (S' := [Slot.fz (.scr ns), .fz (.int start), .fz (.int many), .own (dO (List.replicate many [])), .un, .un, .un, .un, .un]) ?_ (bSeq_nx (S' := [Slot.fz (.scr ns), .fz (.int start), .fz (.int many), .own (dO (List.replicate many [])), .fz (.int th), .un, .un, .un, .un]) ?_ (bSeq_nx (forG_nx (srcK_r1 (n := (many : Int)) rfl (by omega) (by omega)) (by simpa using e)) ?_)))
    · unfold sSet
      rw [xLc_is (iR1_is (n := (many : Int)) rfl (by omega) (by omega)) (by simp; omega) lcR_const, ok_bind]
      simp [setS, dO, dL]
    · simp [sSet, x2, xVar, xC, en, xCall, aCons, aNil, e0, c3, ← hth, setS]
    · simp [sRetV, setS, k5, k6, k8]
  exact ⟨O', hI0, hI'.ok, hI'.len, fun v => Nat.le_trans (hI'.sz v) (by simp; omega)⟩
end Ow.Lib
end
section
set_option linter.all false
set_option exponentiation.threshold 100000
set_option maxHeartbeats 2000000
/-! LibP: == and in, of numbers, lists of numbers, lists of pairs. -/
namespace Ow.Lib
open PySem L2
mutual
theorem eqv_self : ∀ p : PyData, p.canLay0 = true → PyData.eqv p p = true
  | .none, _ => by rw [PyData.eqv]
  | .bool b, _ => by rw [PyData.eqv]; simp
  | .int b, _ => by rw [PyData.eqv]; simp
  | .str b, _ => by rw [PyData.eqv]; simp
  | .list xs, h => by rw [PyData.eqv]; exact eqvAll_self xs (by rw [PyData.canLay0] at h; exact h)
  | .tuple xs, h => by rw [PyData.eqv]; exact eqvAll_self xs (by rw [PyData.canLay0] at h; exact h)
  | .dict _, h => by rw [PyData.canLay0] at h; cases h
theorem eqvAll_self : ∀ ps : List PyData, PyData.canLayAll0 ps = true → PyData.eqvAll ps ps = true
  | [], _ => by rw [PyData.eqvAll]
  | p :: ps, h => by
    rw [PyData.canLayAll0] at h
    have h := Bool.and_eq_true_iff.mp h
    rw [PyData.eqvAll, eqv_self p h.1, eqvAll_self ps h.2]
    rfl
end
theorem oEq_self {d : D} (h : shp d = true) : oEq d d = .ok (.bl true) := by
  unfold oEq
  rw [if_pos (by rw [h]; rfl), eqv_self _ (shp_lay h)]
theorem oNe_self {d : D} (h : shp d = true) : oNe d d = .ok (.bl false) := by
  unfold oNe
  rw [if_pos (by rw [h]; rfl), eqv_self _ (shp_lay h)]
  rfl
theorem toPs_ints : ∀ o : List Int, toPs (o.map D.int) = o.map PyData.int
  | [] => by simp [toPs]
  | x :: o => by simp [toPs, toP, toPs_ints o]
theorem lay_ints : ∀ o : List Int, PyData.canLayAll0 (o.map PyData.int) = true
  | [] => by simp [PyData.canLayAll0]
  | x :: o => by simp [PyData.canLayAll0, PyData.canLay0, lay_ints o]
/-- data without dicts, not deeper than n -/
def Sh (n : Nat) (d : D) : Prop := (toP d).canLay0 = true ∧ (toP d).depth ≤ n
theorem Sh.shp {n : Nat} {d : D} (h : Sh n d) (hn : n ≤ 64) : shp d = true := by
  unfold Ow.shp SeqAt.shaped
  rw [h.1]
  simp
  exact Nat.le_trans h.2 hn
theorem Sh.int (n : Nat) (i : Int) : Sh n (.int i) := ⟨by rw [toP, PyData.canLay0], by rw [toP, PyData.depth]; exact Nat.zero_le _⟩
theorem Sh.bl (n : Nat) (i : Bool) : Sh n (.bl i) := ⟨by rw [toP, PyData.canLay0], by rw [toP, PyData.depth]; exact Nat.zero_le _⟩
theorem Sh.all {n : Nat} : ∀ {ds : List D}, (∀ d ∈ ds, Sh n d) → PyData.canLayAll0 (toPs ds) = true ∧ PyData.depthAll (toPs ds) ≤ n
  | [], _ => ⟨by rw [toPs, PyData.canLayAll0], by rw [toPs, PyData.depthAll]; exact Nat.zero_le _⟩
  | d :: ds, h => by
    have h1 := h d List.mem_cons_self
    have h2 := Sh.all fun e he => h e (List.mem_cons_of_mem _ he)
    refine ⟨by rw [toPs, PyData.canLayAll0, h1.1, h2.1]; rfl, ?_⟩
    rw [toPs, PyData.depthAll]
    exact Nat.max_le.mpr ⟨h1.2, h2.2⟩
theorem Sh.lst {n : Nat} {ds : List D} (h : ∀ d ∈ ds, Sh n d) : Sh (n + 1) (.lst ds) := by
  have := Sh.all h
  exact ⟨by rw [toP, PyData.canLay0]; exact this.1, by rw [toP, PyData.depth]; omega⟩
theorem Sh.tup {n : Nat} {ds : List D} (h : ∀ d ∈ ds, Sh n d) : Sh (n + 1) (.tup ds) := by
  have := Sh.all h
  exact ⟨by rw [toP, PyData.canLay0]; exact this.1, by rw [toP, PyData.depth]; omega⟩
theorem Sh.dL (o : List Int) : Sh 1 (dL o) := Sh.lst (n := 0) fun d hd => by
  obtain ⟨i, _, rfl⟩ := List.mem_map.mp hd
  exact Sh.int 0 i
theorem Sh.dO (O : List (List Int)) : Sh 2 (dO O) := Sh.lst (n := 1) fun d hd => by
  obtain ⟨o, _, rfl⟩ := List.mem_map.mp hd
  exact Sh.dL o
abbrev dP (ps : List (Int × Int)) : D := .lst (ps.map fun p => .tup [.int p.1, .int p.2])
theorem Sh.dP (ps : List (Int × Int)) : Sh 2 (dP ps) := Sh.lst (n := 1) fun d hd => by
  obtain ⟨p, _, rfl⟩ := List.mem_map.mp hd
  refine Sh.tup (n := 0) fun d hd => ?_
  rcases List.mem_cons.mp hd with rfl | hd
  · exact Sh.int 0 _
  · cases List.mem_singleton.mp hd
    exact Sh.int 0 _
theorem shp_dL (o : List Int) : shp (dL o) = true := (Sh.dL o).shp (by decide)
theorem shp_dO (O : List (List Int)) : shp (dO O) = true := (Sh.dO O).shp (by decide)
theorem shp_dP (ps : List (Int × Int)) : shp (dP ps) = true := (Sh.dP ps).shp (by decide)
theorem eqv_ints : ∀ a b : List Int, PyData.eqvAll (a.map PyData.int) (b.map PyData.int) = decide (a = b)
  | [], [] => by simp [PyData.eqvAll]
  | [], _ :: _ => by simp [PyData.eqvAll]
  | _ :: _, [] => by simp [PyData.eqvAll]
  | x :: a, y :: b => by
    rw [List.map_cons, List.map_cons, PyData.eqvAll, PyData.eqv, eqv_ints a b]
    by_cases h : x = y <;> by_cases h2 : a = b <;> simp [h, h2]
theorem toP_dL (o : List Int) : toP (dL o) = .list (o.map PyData.int) := by rw [toP, toPs_ints]
theorem eqv_dL (a b : List Int) : PyData.eqv (toP (dL a)) (toP (dL b)) = decide (a = b) := by rw [toP_dL, toP_dL, PyData.eqv, eqv_ints]
@[simp] theorem oEq_dL (a b : List Int) : oEq (.lst (a.map D.int)) (.lst (b.map D.int)) = .ok (.bl (decide (a = b))) := by
  unfold oEq
  rw [if_pos (by rw [shp_dL, shp_dL]; rfl), eqv_dL]
@[simp] theorem oNe_dL (a b : List Int) : oNe (.lst (a.map D.int)) (.lst (b.map D.int)) = .ok (.bl (!decide (a = b))) := by
  unfold oNe
  rw [if_pos (by rw [shp_dL, shp_dL]; rfl), eqv_dL]
theorem oNe_nil (a : List Int) : oNe (.lst (a.map D.int)) (.lst []) = .ok (.bl (!decide (a = []))) := oNe_dL a []
theorem eqv_all_dL : ∀ A B : List (List Int), PyData.eqvAll (toPs (A.map dL)) (toPs (B.map dL)) = decide (A = B)
  | [], [] => by simp [toPs, PyData.eqvAll]
  | [], _ :: _ => by simp [toPs, PyData.eqvAll]
  | _ :: _, [] => by simp [toPs, PyData.eqvAll]
  | x :: a, y :: b => by
    rw [List.map_cons, List.map_cons, toPs, toPs, PyData.eqvAll, eqv_dL, eqv_all_dL a b]
    by_cases h : x = y <;> by_cases h2 : a = b <;> simp [h, h2]
theorem oEq_dO (A B : List (List Int)) : oEq (dO A) (dO B) = .ok (.bl (decide (A = B))) := by
  unfold oEq
  rw [if_pos (by rw [shp_dO, shp_dO]; rfl), toP, toP, PyData.eqv, eqv_all_dL]
theorem oNe_dO (A B : List (List Int)) : oNe (dO A) (dO B) = .ok (.bl (!decide (A = B))) := by
  unfold oNe
  rw [if_pos (by rw [shp_dO, shp_dO]; rfl), toP, toP, PyData.eqv, eqv_all_dL]
theorem any_ints (x : Int) : ∀ o : List Int, ((o.map PyData.int).any fun z => PyData.eqv z (.int x)) = decide (x ∈ o)
  | [] => rfl
  | y :: o => by
    rw [List.map_cons, List.any_cons, any_ints x o, PyData.eqv]
    by_cases h : y = x
    · subst h; simp
    · have : ¬ x = y := fun e => h e.symm
      simp [h, this]
@[simp] theorem oIn_dL (x : Int) (o : List Int) : oIn (.int x) (.lst (o.map D.int)) = .ok (.bl (decide (x ∈ o))) := by
  unfold oIn
  rw [if_pos (by rw [shp_int, shp_dL]; rfl)]
  show Res.ok (D.bl ((toPs (o.map D.int)).any fun z => PyData.eqv z (toP (.int x)))) = _
  rw [toPs_ints, toP, any_ints]
@[simp] theorem oNin_dL (x : Int) (o : List Int) : oNin (.int x) (.lst (o.map D.int)) = .ok (.bl (!decide (x ∈ o))) := by
  unfold oNin
  rw [if_pos (by rw [shp_int, shp_dL]; rfl)]
  show Res.ok (D.bl (!(toPs (o.map D.int)).any fun z => PyData.eqv z (toP (.int x)))) = _
  rw [toPs_ints, toP, any_ints]
/-- strictly rising lists of the same members are one -/
theorem rising_ext : ∀ {a b : List Int}, a.Pairwise (· < ·) → b.Pairwise (· < ·) → (∀ x, x ∈ a ↔ x ∈ b) → a = b
  | [], [], _, _, _ => rfl
  | [], y :: b, _, _, h => by have := (h y).mpr List.mem_cons_self; cases this
  | x :: a, [], _, _, h => by have := (h x).mp List.mem_cons_self; cases this
  | x :: a, y :: b, ha, hb, h => by
    have ha' := List.pairwise_cons.mp ha
    have hb' := List.pairwise_cons.mp hb
    have e : x = y := by
      rcases List.mem_cons.mp ((h x).mp List.mem_cons_self) with e | e
      · exact e
      · rcases List.mem_cons.mp ((h y).mpr List.mem_cons_self) with e2 | e2
        · exact e2.symm
        · have := hb'.1 x e
          have := ha'.1 y e2
          omega
    subst e
    rw [rising_ext ha'.2 hb'.2 fun z => ?_]
    constructor
    · intro hz
      rcases List.mem_cons.mp ((h z).mp (List.mem_cons_of_mem _ hz)) with e | e
      · have := ha'.1 z hz; omega
      · exact e
    · intro hz
      rcases List.mem_cons.mp ((h z).mpr (List.mem_cons_of_mem _ hz)) with e | e
      · have := hb'.1 z hz; omega
      · exact e
/-- rising -/
def srt (o : List Int) : List Int := o.mergeSort fun a b => decide (a ≤ b)
theorem srt_perm (o : List Int) : (srt o).Perm o := List.mergeSort_perm _ _
theorem srt_le (o : List Int) : (srt o).Pairwise (· ≤ ·) := by
  have := List.pairwise_mergeSort (le := fun a b : Int => decide (a ≤ b)) (fun a b c h1 h2 => by simp at *; omega) (fun a b => by simp; omega) o
  exact this.imp (by simp)
theorem srt_lt {o : List Int} (h : o.Nodup) : (srt o).Pairwise (· < ·) := by
  have h1 : (srt o).Nodup := (srt_perm o).nodup_iff.mpr h
  have h2 := (srt_le o).and h1
  exact h2.imp fun ⟨a, b⟩ => by omega
theorem mem_srt {o : List Int} {x : Int} : x ∈ srt o ↔ x ∈ o := (srt_perm o).mem_iff
@[simp] theorem oSort_dL (o : List Int) : oSort (.lst (o.map D.int)) = .ok (.lst ((srt o).map D.int)) := by
  unfold oSort ilD
  simp [srt]
@[simp] theorem oIx_dO {O : List (List Int)} {k : Nat} (h : k < O.length) : oIx (.lst (O.map dL)) (.int (k : Int)) = .ok (dL (nb O k)) := by
  rw [oIx_lst, atI_nat' (by omega)]
  simp [nb_get h]
end Ow.Lib
end
section
set_option linter.all false
set_option exponentiation.threshold 100000
set_option maxHeartbeats 2000000
namespace Ow.Lib
open PySem L2
theorem x2_ok {op : D → D → Res D} {f g : En → Res D} {e : En} {a b : D} (h1 : f e = .ok a) (h2 : g e = .ok b) : x2 op f g e = op a b := by
  unfold x2
  rw [h1, ok_bind, h2, ok_bind]
theorem xCall_ok {sem : List D → Res D} {fs : En → Res (List D)} {e : En} {ds : List D} {d : D} (h1 : fs e = .ok ds) (h2 : sem ds = .ok d) : xCall sem fs e = .ok d := by
  unfold xCall
  rw [h1, ok_bind, h2]
  rfl
theorem aCons_ok {f : En → Res D} {g : En → Res (List D)} {e : En} {d : D} {ds : List D} (h1 : f e = .ok d) (h2 : g e = .ok ds) : aCons f g e = .ok (d :: ds) := by
  unfold aCons
  rw [h1, ok_bind, h2, ok_bind]
theorem sSet_ok {i : Nat} {f : En → Res D} {S : List Slot} {d : D} (h : f (en S) = .ok d) : sSet i f S = .ok (.nx (setS S i (mk d))) := by
  unfold sSet
  rw [h, ok_bind]
theorem lcR_ints {bnd : D → Bd} {c : En → Res Bool} {f : En → Res D} {en : En} {p : Int → Bool} {g : Int → D} : ∀ {l : List Int}, (∀ x ∈ l, c (setE en (bnd (.int x))) = .ok (p x)) → (∀ x ∈ l, p x = true → f (setE en (bnd (.int x))) = .ok (g x)) → lcR bnd c f en (l.map D.int) = .ok ((l.filter p).map g)
  | [], _, _ => rfl
  | x :: l, hc, hf => by
    have ih := lcR_ints (l := l) (fun y hy => hc y (List.mem_cons_of_mem _ hy)) (fun y hy => hf y (List.mem_cons_of_mem _ hy))
    rw [List.map_cons]
    unfold lcR
    rw [hc x List.mem_cons_self, ok_bind]
    cases hp : p x with
    | false => rw [if_neg (by simp), ih, List.filter_cons_of_neg (by simp [hp])]
    | true => rw [if_pos rfl, hf x List.mem_cons_self hp, ok_bind, ih, ok_bind, List.filter_cons_of_pos hp]; rfl
theorem meth_app {S : List Slot} {s : Nat} {ds : List D} {fs : En → Res (List D)} {d : D} (hS : S[s]? = some (.own (.lst ds))) (hfs : fs (en S) = .ok [d]) (hz : ds.length < 1000000) : sMeth (locV s) fs opApp S = .ok (.nx (S.set s (.own (.lst (ds ++ [d]))))) := by
  unfold sMeth
  have h1 : locV s S = .ok (.top s) := by unfold locV; rw [hS]
  have h2 : getL S (.top s) = some (.lst ds) := by
    show (match S[s]? with
      | some (.own d) => some d
      | _ => none) = _
    rw [hS]
  rw [h1, ok_bind, h2]
  show (fs (en S) >>= fun es => _) = _
  rw [hfs, ok_bind]
  have : opApp (.lst ds) [d] = some (.lst (ds ++ [d]), true) := by
    unfold opApp
    exact if_pos (szOk_of (by omega))
  rw [this]
  rfl
theorem pure_pairs (ps : List (Int × Int)) : pureDs (ps.map fun p => D.tup [.int p.1, .int p.2]) = true := pureDs_iff.mpr fun d hd => by
  obtain ⟨p, _, rfl⟩ := List.mem_map.mp hd
  exact pure_fr _ _
theorem oCat_pairs (a b : List (Int × Int)) (h : a.length + b.length ≤ 1000000) : oCat (dP a) (dP b) = .ok (dP (a ++ b)) := by
  show (if (pureDs (a.map fun p => D.tup [.int p.1, .int p.2]) && pureDs (b.map fun p => D.tup [.int p.1, .int p.2]) && szOk ((a.map fun p => D.tup [.int p.1, .int p.2]).length + (b.map fun p => D.tup [.int p.1, .int p.2]).length)) = true then Res.ok (D.lst (_ ++ _)) else .stuck) = _
  rw [if_pos (by rw [pure_pairs, pure_pairs, List.length_map, List.length_map, szOk_of h]; rfl), ← List.map_append]
/-- the ties of one place -/
def ties1 (O : List (List Int)) (v : Nat) : List (Int × Int) := ((srt (nb O v)).filter fun u => decide ((v : Int) < u)).map fun u => ((v : Int), u)
def tiesP (O : List (List Int)) (k : Nat) : List (Int × Int) := (List.range k).flatMap (ties1 O)
theorem tiesP_succ (O : List (List Int)) (k : Nat) : tiesP O (k + 1) = tiesP O k ++ ties1 O k := by
  unfold tiesP
  rw [List.range_succ, List.flatMap_append]
  simp
theorem ties1_len (O : List (List Int)) (v : Nat) (h : (nb O v).length ≤ 64) : (ties1 O v).length ≤ 64 := by
  unfold ties1
  rw [List.length_map]
  have h1 := List.length_filter_le (fun u => decide ((v : Int) < u)) (srt (nb O v))
  have h2 := (srt_perm (nb O v)).length_eq
  omega
theorem tiesP_len (O : List (List Int)) (h : ∀ v, (nb O v).length ≤ 64) : ∀ k, (tiesP O k).length ≤ 64 * k
  | 0 => Nat.le_refl _
  | k + 1 => by
    rw [tiesP_succ, List.length_append]
    have := tiesP_len O h k
    have := ties1_len O k (h k)
    omega
theorem ties_is (O : List (List Int)) (hn : O.length ≤ 1000) (h : ∀ v, (nb O v).length ≤ 64) : sem_ties [dO O] = .ok (dP (tiesP O O.length)) := by
  unfold sem_ties
  obtain ⟨S', e, y2, rfl, k2⟩ := forS_all (bind := bindB (b1 2)) (b := sSet 1 (x2 oCat (xVar 1) (xLc (iL (x1 oSort (x2 oIx (xVar 0) (xVar 2)))) (b1 3) [3] (tBl (x2 oLt (xVar 2) (xVar 3))) (xTup (aCons (xP (xVar 2)) (aCons (xP (xVar 3)) aNil)))))) (fun k S => ∃ y2, S = [Slot.fz (dO O), .own (dP (tiesP O k)), y2, .un] ∧ ∀ i, y2.kill i = y2)
    (intsUpTo 0 O.length) [Slot.fz (dO O), .own (.lst []), .un, .un] ⟨.un, rfl, fun _ => rfl⟩ (by
      rintro k d S hd ⟨y2, rfl, k2⟩
      obtain ⟨rfl, hk⟩ := upTo_get hd
      refine ⟨_, [Slot.fz (dO O), .own (dP (tiesP O (k + 1))), .fz (.int k), .un], rfl, ?_, _, rfl, fun _ => rfl⟩
      have ix := oIx_dO hk
      have lc : xLc (iL (x1 oSort (x2 oIx (xVar 0) (xVar 2)))) (b1 3) [3] (tBl (x2 oLt (xVar 2) (xVar 3))) (xTup (aCons (xP (xVar 2)) (aCons (xP (xVar 3)) aNil))) [some (dO O), some (dP (tiesP O k)), some (.int k), none] = .ok (dP (ties1 O k)) := by
        have hl : iL (x1 oSort (x2 oIx (xVar 0) (xVar 2))) [some (dO O), some (dP (tiesP O k)), some (.int k), none] = .ok ((srt (nb O k)).map D.int) := by
          simp [iL, x1, x2, xVar, ix, itD]
        have hlen : ((srt (nb O k)).map D.int).length ≤ 1000000 := by
          rw [List.length_map, (srt_perm (nb O k)).length_eq]
          have := h k
          omega
        rw [xLc_is hl hlen (lcR_ints (p := fun u => decide ((k : Int) < u)) (g := fun u => .tup [.int k, .int u]) (fun x hx => ?_) (fun x hx hp => ?_))]
        · simp [ties1]
        · simp [wipeE, setE, b1, tBl, x2, xVar]
        · simp [wipeE, setE, b1, xTup, aCons, aNil, xP, xVar, szOk]
      have hlen2 : (tiesP O k).length + (ties1 O k).length ≤ 1000000 := by
        have := tiesP_len O h k
        have := ties1_len O k (h k)
        omega
      have cat := oCat_pairs (tiesP O k) (ties1 O k) hlen2
      have een : en [Slot.fz (dO O), .own (dP (tiesP O k)), .fz (.int k), .un] = [some (dO O), some (dP (tiesP O k)), some (.int k), none] := rfl
      have bd : setBs [Slot.fz (dO O), .own (dP (tiesP O k)), y2, .un] (b1 2 (.int (0 + (k : Nat)))) = [Slot.fz (dO O), .own (dP (tiesP O k)), .fz (.int k), .un] := by simp [setS]
      rw [bd]
      rw [sSet_ok (d := dP (tiesP O (k + 1))) (by rw [een, x2_ok (a := dP (tiesP O k)) rfl lc, cat, tiesP_succ])]
      simp [setS])
  refine runB_rt (S' := [Slot.fz (dO O), .un, y2, .un]) (bSeq_nx (S' := [Slot.fz (dO O), .own (.lst []), .un, .un]) rfl (bSeq_nx (forG_nx (srcK_r1 (n := (O.length : Int)) (by simp [x1, xVar, en]) (by omega) (by omega)) (by simpa using e)) ?_))
  simp [sRetV, setS, k2]
end Ow.Lib
end
section
set_option linter.all false
set_option exponentiation.threshold 100000
set_option maxHeartbeats 2000000
/-! LibH: what is come to. -/
namespace Ow.Lib
open PySem L2
/-- what is come to from start, but for gone -/
inductive Rch (O : List (List Int)) (start : Int) (gone : List Int) : Int → Prop
  | zero : Rch O start gone start
  | step {v : Nat} {u : Int} : Rch O start gone v → u ∈ nb O v → u ∉ gone → Rch O start gone u
theorem forS_nx {α : Type} {bind : α → List Slot → Res (List Slot)} {b : List Slot → Res Fl} {d : α} {ds : List α} {S S1 S2 : List Slot} {r : Res Fl} (h1 : bind d S = .ok S1) (h2 : b S1 = .ok (.nx S2)) (h3 : forS bind b ds S2 = r) : forS bind b (d :: ds) S = r := by
  unfold forS
  rw [h1, ok_bind, h2]
  exact h3
def kd (ks : List Int) : List (Int × D) := ks.map fun k => (k, D.bl true)
@[simp] theorem kd_len (ks : List Int) : (kd ks).length = ks.length := by simp [kd]
theorem kd_get (u : Int) : ∀ ks : List Int, (getK (kd ks) u).isSome = decide (u ∈ ks)
  | [] => rfl
  | k :: ks => by
    have ih := kd_get u ks
    unfold kd getK at ih ⊢
    rw [List.map_cons]
    by_cases h : k = u
    · subst h
      simp
    · rw [List.find?_cons_of_neg (by simpa using h), ih]
      have : ¬ u = k := fun e => h e.symm
      simp [this]
theorem kd_put {u : Int} {ks : List Int} (h : u ∉ ks) : putD (kd ks) u (.bl true) = kd (ks ++ [u]) := by
  have hn : (kd ks).any (fun kv => decide (kv.1 = u)) = false := by
    unfold kd
    rw [List.any_map]
    simp
    intro x hx e
    exact h (e ▸ hx)
  unfold putD
  rw [if_neg (by rw [hn]; simp)]
  simp [kd]
theorem putI_is {S : List Slot} {v : Nat} {ks : List Int} {f g : En → Res D} {u : Int} (hS : S[v]? = some (.own (.dI (kd ks)))) (hf : f (en S) = .ok (.bl true)) (hg : g (en S) = .ok (.int u)) (h : u ∉ ks) (hz : ks.length < 1000000) : sPutI v f g S = .ok (.nx (setS S v (.own (.dI (kd (ks ++ [u])))))) := by
  unfold sPutI
  rw [hf, ok_bind, hS]
  show (g (en S) >>= fun k => match k with
    | .int k => if (pureD (D.bl true) && szOk ((kd ks).length + 1)) = true then Res.ok (Fl.nx (setS S v (.own (.dI (putD (kd ks) k (.bl true)))))) else .stuck
    | _ => .stuck) = _
  rw [hg, ok_bind]
  show (if (pureD (D.bl true) && szOk ((kd ks).length + 1)) = true then Res.ok (Fl.nx (setS S v (.own (.dI (putD (kd ks) u (.bl true)))))) else .stuck) = _
  rw [if_pos (by rw [kd_len, szOk_of (by omega)]; rfl), kd_put h]
theorem room_of {ks : List Int} {n : Nat} (nd : ks.Nodup) (h : ∀ x ∈ ks, 0 ≤ x ∧ x < (n : Int)) : ks.length ≤ n := by
  have := List.Nodup.length_le_of_subset nd (l₂ := (List.range n).map fun k : Nat => (k : Int)) fun x hx => by
    have := h x hx
    exact List.mem_map.mpr ⟨x.toNat, List.mem_range.mpr (by omega), by omega⟩
  simpa using this
/-- the body of the inner loop -/
def ctB : List Slot → Res Fl := sIf (tAn (tBl (x2 oNinDI (xVar 5) (xVar 3))) (tBl (x2 oNin (xVar 5) (xVar 2)))) (bSeq (sPutI 3 (xC (.bl true)) (xVar 5))
 (sMeth (locV 4) (aCons (xP (xVar 5)) aNil) opApp)) bN
theorem ct_inner (O : List (List Int)) (start : Int) (gone : List Int) (n : Nat) (hn : n ≤ 1000) : ∀ (l ks row : List Int) (y5 : Slot), (∀ x ∈ l, 0 ≤ x ∧ x < (n : Int)) → ks.Nodup → (∀ x ∈ ks, 0 ≤ x ∧ x < (n : Int)) → row.length ≤ ks.length → (∀ i, y5.kill i = y5) →
    ∃ (new : List Int) (z5 : Slot), forS (bindB (b1 5)) ctB (l.map D.int) [Slot.fz (dO O), .fz (.int start), .fz (dL gone), .own (.dI (kd ks)), .own (dL row), y5] = .ok (.nx [Slot.fz (dO O), .fz (.int start), .fz (dL gone), .own (.dI (kd (ks ++ new))), .own (dL (row ++ new)), z5]) ∧
      (ks ++ new).Nodup ∧ (∀ x, x ∈ new ↔ x ∈ l ∧ x ∉ ks ∧ x ∉ gone) ∧ ∀ i, z5.kill i = z5
  | [], ks, row, y5, _, nd, _, _, hk => ⟨[], y5, by simp [forS], by simpa using nd, by simp, hk⟩
  | u :: l, ks, row, y5, hl, nd, hr, hrow, hk => by
    have bd : bindB (b1 5) (.int u) [Slot.fz (dO O), .fz (.int start), .fz (dL gone), .own (.dI (kd ks)), .own (dL row), y5] = .ok [Slot.fz (dO O), .fz (.int start), .fz (dL gone), .own (.dI (kd ks)), .own (dL row), .fz (.int u)] := by simp [setS]
    have hks : ks.length ≤ n := room_of nd hr
    have ht : tAn (tBl (x2 oNinDI (xVar 5) (xVar 3))) (tBl (x2 oNin (xVar 5) (xVar 2))) (en [Slot.fz (dO O), .fz (.int start), .fz (dL gone), .own (.dI (kd ks)), .own (dL row), .fz (.int u)]) = .ok (decide (u ∉ ks ∧ u ∉ gone)) := by
      have h1 : oNinDI (.int u) (.dI (kd ks)) = .ok (.bl (!decide (u ∈ ks))) := by
        show Res.ok (D.bl (!(getK (kd ks) u).isSome)) = _
        rw [kd_get]
      by_cases h : u ∈ ks <;> by_cases h2 : u ∈ gone <;> simp [tAn, tBl, x2, xVar, en, h1, h, h2]
    by_cases hc : u ∉ ks ∧ u ∉ gone
    · have nd' : (ks ++ [u]).Nodup := List.nodup_append.mpr ⟨nd, List.nodup_cons.mpr ⟨List.not_mem_nil, .nil⟩, fun a ha b hb e => by
        cases List.mem_singleton.mp hb
        exact hc.1 (e ▸ ha)⟩
      obtain ⟨new, z5, e, nd2, hm, hz⟩ := ct_inner O start gone n hn l (ks ++ [u]) (row ++ [u]) (.fz (.int u)) (fun x hx => hl x (List.mem_cons_of_mem _ hx)) nd' (fun x hx => by
        rcases List.mem_append.mp hx with hx | hx
        · exact hr x hx
        · cases List.mem_singleton.mp hx
          exact hl u List.mem_cons_self) (by simp; omega) (fun _ => rfl)
      refine ⟨u :: new, z5, ?_, by simpa using nd2, fun x => ?_, hz⟩
      · rw [List.map_cons]
        refine forS_nx bd (S2 := [Slot.fz (dO O), .fz (.int start), .fz (dL gone), .own (.dI (kd (ks ++ [u]))), .own (dL (row ++ [u])), .fz (.int u)]) ?_ ?_
        · unfold ctB sIf
          rw [ht, ok_bind, if_pos (by simpa using hc)]
          refine bSeq_nx (putI_is (ks := ks) (u := u) rfl rfl rfl hc.1 (by omega)) ?_
          rw [meth_app (ds := row.map D.int) (d := .int u) (by simp [setS]) (by simp [aCons, aNil, xP, xVar, en, setS]) (by simp; omega)]
          simp [setS]
        · rw [e]
          simp
      · rw [List.mem_cons, hm]
        constructor
        · rintro (rfl | ⟨a, b, c⟩)
          · exact ⟨List.mem_cons_self, hc⟩
          · exact ⟨List.mem_cons_of_mem _ a, fun z => b (List.mem_append_left _ z), c⟩
        · rintro ⟨a, b, c⟩
          by_cases hx : x = u
          · exact .inl hx
          · rcases List.mem_cons.mp a with a | a
            · exact absurd a hx
            · refine .inr ⟨a, fun z => ?_, c⟩
              rcases List.mem_append.mp z with z | z
              · exact b z
              · exact hx (List.mem_singleton.mp z)
    · obtain ⟨new, z5, e, nd2, hm, hz⟩ := ct_inner O start gone n hn l ks row (.fz (.int u)) (fun x hx => hl x (List.mem_cons_of_mem _ hx)) nd hr hrow (fun _ => rfl)
      refine ⟨new, z5, ?_, nd2, fun x => ?_, hz⟩
      · rw [List.map_cons]
        refine forS_nx bd ?_ e
        unfold ctB sIf
        rw [ht, ok_bind, if_neg (by simpa using hc)]
        rfl
      · rw [hm]
        constructor
        · rintro ⟨a, b, c⟩
          exact ⟨List.mem_cons_of_mem _ a, b, c⟩
        · rintro ⟨a, b, c⟩
          rcases List.mem_cons.mp a with rfl | a
          · exact absurd ⟨b, c⟩ hc
          · exact ⟨a, b, c⟩
structure CtInv (O : List (List Int)) (start : Int) (gone ks row : List Int) : Prop where
  nd : ks.Nodup
  rng : ∀ x ∈ ks, 0 ≤ x ∧ x < (O.length : Int)
  st : start ∈ ks
  rc : ∀ x ∈ ks, Rch O start gone x
  rowk : ∀ x ∈ row, x ∈ ks
  rnd : row.Nodup
  cl : ∀ v : Nat, (v : Int) ∈ ks → (v : Int) ∉ row → ∀ u ∈ nb O v, u ∉ gone → u ∈ ks
def ctC : En → Res Bool := tBl (x2 oNe (xVar 4) (xLst aNil))
def ctW : List Slot → Res Fl := sForG (srcE 0 (xPop (locV 4))) (b1 5) ctB
theorem ct_while (O : List (List Int)) (hO : MapOk O) (start : Int) (gone : List Int) (hn : O.length ≤ 1000) : ∀ (m : Nat) (ks row : List Int) (y5 : Slot), 2 * (O.length - ks.length) + row.length ≤ m → CtInv O start gone ks row → (∀ i, y5.kill i = y5) →
    ∃ (ks' : List Int) (z5 : Slot), sWhile ctC ctW [Slot.fz (dO O), .fz (.int start), .fz (dL gone), .own (.dI (kd ks)), .own (dL row), y5] = .ok (.nx [Slot.fz (dO O), .fz (.int start), .fz (dL gone), .own (.dI (kd ks')), .own (dL []), z5]) ∧ CtInv O start gone ks' [] ∧ ∀ i, z5.kill i = z5 := by
  intro m
  induction m with
  | zero =>
    intro ks row y5 hm hI hk
    have : row = [] := List.length_eq_zero_iff.mp (by omega)
    subst this
    refine ⟨ks, y5, ?_, hI, hk⟩
    rw [sWhile_eq]
    simp [ctC, tBl, x2, xVar, en, xLst, aNil, szOk, oNe_nil]
  | succ m ih =>
    intro ks row y5 hm hI hk
    by_cases hr : row = []
    · subst hr
      refine ⟨ks, y5, ?_, hI, hk⟩
      rw [sWhile_eq]
      simp [ctC, tBl, x2, xVar, en, xLst, aNil, szOk, oNe_nil]
    · obtain ⟨row', v, rfl⟩ : ∃ row' v, row = row' ++ [v] := ⟨row.dropLast, row.getLast hr, (List.dropLast_concat_getLast hr).symm⟩
      have hv := hI.rng v (hI.rowk v (by simp))
      obtain ⟨w, rfl⟩ : ∃ w : Nat, v = (w : Int) := ⟨v.toNat, by omega⟩
      have hw : w < O.length := by omega
      have nd2 := List.nodup_append.mp hI.rnd
      have hks := room_of hI.nd hI.rng
      have hrow' : row'.length ≤ ks.length := List.Nodup.length_le_of_subset nd2.1 fun x hx => hI.rowk x (by simp [hx])
      obtain ⟨new, z5, e, ndn, hmn, hz⟩ := ct_inner O start gone O.length hn (nb O w) ks row' y5 (fun x hx => ⟨(hO.rng w x hx).1, (hO.rng w x hx).2.1⟩) hI.nd hI.rng hrow' hk
      have nd3 := List.nodup_append.mp ndn
      have hI' : CtInv O start gone (ks ++ new) (row' ++ new) := by
        refine ⟨ndn, fun x hx => ?_, List.mem_append_left _ hI.st, fun x hx => ?_, fun x hx => ?_, ?_, fun v hv hvr u hu hg => ?_⟩
        · rcases List.mem_append.mp hx with hx | hx
          · exact hI.rng x hx
          · have := hO.rng w x ((hmn x).mp hx).1
            exact ⟨this.1, this.2.1⟩
        · rcases List.mem_append.mp hx with hx | hx
          · exact hI.rc x hx
          · have := (hmn x).mp hx
            exact .step (hI.rc w (hI.rowk w (by simp))) this.1 this.2.2
        · rcases List.mem_append.mp hx with hx | hx
          · exact List.mem_append_left _ (hI.rowk x (by simp [hx]))
          · exact List.mem_append_right _ hx
        · exact List.nodup_append.mpr ⟨nd2.1, nd3.2.1, fun a ha b hb e => nd3.2.2 a (hI.rowk a (by simp [ha])) b hb e⟩
        · by_cases hvw : v = w
          · subst hvw
            by_cases hu2 : u ∈ ks
            · exact List.mem_append_left _ hu2
            · exact List.mem_append_right _ ((hmn u).mpr ⟨hu, hu2, hg⟩)
          · rcases List.mem_append.mp hv with hv | hv
            · refine List.mem_append_left _ (hI.cl v hv (fun z => ?_) u hu hg)
              rcases List.mem_append.mp z with z | z
              · exact hvr (List.mem_append_left _ z)
              · have := List.mem_singleton.mp z
                omega
            · exact absurd (List.mem_append_right _ hv) hvr
      have hks' := room_of hI'.nd hI'.rng
      obtain ⟨ks', y', e2, hI2, hk2⟩ := ih (ks ++ new) (row' ++ new) z5 (by simp at hm hks' ⊢; omega) hI' hz
      refine ⟨ks', y', ?_, hI2, hk2⟩
      rw [sWhile_eq]
      have hc : ctC (en [Slot.fz (dO O), .fz (.int start), .fz (dL gone), .own (.dI (kd ks)), .own (dL (row' ++ [(w : Int)])), y5]) = .ok true := by
        have this : oNe (dL (row' ++ [(w : Int)])) (.lst []) = .ok (.bl true) := by
          rw [oNe_nil]
          simp
        show (x2 oNe (xVar 4) (xLst aNil) _ >>= fun d => match d with
          | .bl b => Res.ok b
          | _ => .stuck) = _
        rw [x2_ok (a := dL (row' ++ [(w : Int)])) (b := .lst []) rfl rfl, this]
        rfl
      have hsrc : srcE 0 (xPop (locV 4)) [Slot.fz (dO O), .fz (.int start), .fz (dL gone), .own (.dI (kd ks)), .own (dL (row' ++ [(w : Int)])), y5] = .ok ((nb O w).map D.int, [Slot.fz (dO O), .fz (.int start), .fz (dL gone), .own (.dI (kd ks)), .own (dL row'), y5]) := by
        have at_ : atI (O.map dL) (w : Int) = some (dL (nb O w)) := by
          rw [atI_nat' (by omega)]
          simp [nb_get hw]
        simp [srcE, frzV, xPop, locV, getL, putL, setS, hk, at_, itD]
      rw [hc, ok_bind, if_pos rfl]
      unfold ctW
      rw [forG_nx hsrc e]
      exact e2
theorem come_to_is (O : List (List Int)) (hO : MapOk O) (start : Nat) (hs : start < O.length) (gone : List Int) (hn : O.length ≤ 1000) : ∃ ks : List Int, sem_come_to [dO O, .int start, dL gone] = .ok (.dI (kd ks)) ∧ CtInv O start gone ks [] := by
  have hI : CtInv O start gone [(start : Int)] [(start : Int)] := ⟨List.nodup_cons.mpr ⟨List.not_mem_nil, .nil⟩, fun x hx => by cases List.mem_singleton.mp hx; omega, List.mem_singleton.mpr rfl, fun x hx => by cases List.mem_singleton.mp hx; exact .zero, fun x hx => hx, List.nodup_cons.mpr ⟨List.not_mem_nil, .nil⟩, fun v hv hvr => absurd hv hvr⟩
  obtain ⟨ks, z5, e, hI2, hk⟩ := ct_while O hO start gone hn _ _ _ .un (Nat.le_refl _) hI (fun _ => rfl)
  refine ⟨ks, ?_, hI2⟩
  unfold sem_come_to
  refine runB_rt (S' := [Slot.fz (dO O), .fz (.int start), .fz (dL gone), .un, .own (dL []), z5]) (bSeq_nx (S' := [Slot.fz (dO O), .fz (.int start), .fz (dL gone), .own (.dI (kd [])), .un, .un]) rfl (bSeq_nx (S' := [Slot.fz (dO O), .fz (.int start), .fz (dL gone), .own (.dI (kd [(start : Int)])), .un, .un]) ?_ (bSeq_nx (S' := [Slot.fz (dO O), .fz (.int start), .fz (dL gone), .own (.dI (kd [(start : Int)])), .own (dL [(start : Int)]), .un]) ?_ (bSeq_nx e ?_))))
  · rw [putI_is (ks := []) (u := start) rfl rfl rfl List.not_mem_nil (by decide)]
    simp [setS]
  · simp [sSet, xLst, aCons, aNil, xP, xVar, en, szOk, setS]
  · simp [sRetV, setS, hk]
/-- the set that is come to -/
theorem CtInv.mem {O : List (List Int)} {start : Int} {gone ks : List Int} (h : CtInv O start gone ks []) (hO : MapOk O) (hs : 0 ≤ start) (x : Int) : x ∈ ks ↔ Rch O start gone x := by
  refine ⟨h.rc x, fun r => ?_⟩
  induction r with
  | zero => exact h.st
  | step _ hu hg ih => exact h.cl _ ih List.not_mem_nil _ hu hg
end Ow.Lib
end
section
set_option linter.all false
set_option exponentiation.threshold 100000
set_option maxHeartbeats 2000000
/-! LibC: the law's own closure, round by round. -/
namespace Ow.Lib
open PySem L2
def stepC (O : List (List Int)) (gone F : List Int) (p : Nat) : List Int := if (p : Int) ∉ F ∧ (p : Int) ∉ gone ∧ (nb O p).filter (fun u => decide (u ∈ F)) ≠ [] then F ++ [(p : Int)] else F
structure FInv (O : List (List Int)) (start : Int) (gone F : List Int) : Prop where
  nd : F.Nodup
  rng : ∀ x ∈ F, 0 ≤ x ∧ x < (O.length : Int)
  st : start ∈ F
  rc : ∀ x ∈ F, Rch O start gone x
variable {O : List (List Int)} {start : Int} {gone F : List Int}
theorem FInv.step (h : FInv O start gone F) (hO : MapOk O) {p : Nat} (hp : p < O.length) : FInv O start gone (stepC O gone F p) := by
  unfold stepC
  split
  · rename_i hc
    obtain ⟨u, hu⟩ := List.exists_mem_of_ne_nil _ hc.2.2
    have hu' := List.mem_filter.mp hu
    have hF : u ∈ F := by simpa using hu'.2
    have hr := h.rng u hF
    obtain ⟨w, rfl⟩ : ∃ w : Nat, u = (w : Int) := ⟨u.toNat, by omega⟩
    refine ⟨List.nodup_append.mpr ⟨h.nd, List.nodup_cons.mpr ⟨List.not_mem_nil, .nil⟩, fun a ha b hb e => ?_⟩, fun x hx => ?_, List.mem_append_left _ h.st, fun x hx => ?_⟩
    · cases List.mem_singleton.mp hb
      exact hc.1 (e ▸ ha)
    · rcases List.mem_append.mp hx with hx | hx
      · exact h.rng x hx
      · cases List.mem_singleton.mp hx
        omega
    · rcases List.mem_append.mp hx with hx | hx
      · exact h.rc x hx
      · cases List.mem_singleton.mp hx
        exact .step (h.rc w hF) (hO.sym p w hu'.1) hc.2.1
  · exact h
theorem FInv.fold (hO : MapOk O) : ∀ {l : List Nat} {F : List Int}, FInv O start gone F → (∀ p ∈ l, p < O.length) → FInv O start gone (l.foldl (stepC O gone) F)
  | [], F, h, _ => h
  | p :: l, F, h, hl => FInv.fold hO (l := l) (F := stepC O gone F p) (h.step hO (hl p List.mem_cons_self)) fun q hq => hl q (List.mem_cons_of_mem _ hq)
theorem stepC_sub {p : Nat} {x : Int} (h : x ∈ F) : x ∈ stepC O gone F p := by
  unfold stepC
  split
  · exact List.mem_append_left _ h
  · exact h
theorem fold_sub {x : Int} : ∀ {l : List Nat} {F : List Int}, x ∈ F → x ∈ l.foldl (stepC O gone) F
  | [], _, h => h
  | p :: l, _, h => fold_sub (l := l) (stepC_sub h)
theorem fold_new {p : Nat} {u : Int} (hu : u ∈ nb O p) (hg : (p : Int) ∉ gone) : ∀ {l : List Nat} {F : List Int}, p ∈ l → u ∈ F → (p : Int) ∈ l.foldl (stepC O gone) F
  | q :: l, F, hp, hF => by
    rcases List.mem_cons.mp hp with rfl | hp
    · refine fold_sub (l := l) ?_
      unfold stepC
      by_cases h : (p : Int) ∈ F
      · rw [if_neg fun z => z.1 h]; exact h
      · rw [if_pos ⟨h, hg, fun z => by
          have : u ∈ (nb O p).filter fun u => decide (u ∈ F) := List.mem_filter.mpr ⟨hu, by simpa using hF⟩
          rw [z] at this
          cases this⟩]
        exact List.mem_append_right _ (List.mem_singleton.mpr rfl)
    · exact fold_new hu hg (l := l) hp (stepC_sub hF)
def Closed (O : List (List Int)) (gone F : List Int) : Prop := ∀ v : Nat, (v : Int) ∈ F → ∀ u ∈ nb O v, u ∉ gone → u ∈ F
theorem closed_step (hO : MapOk O) (hc : Closed O gone F) (hr : ∀ x ∈ F, 0 ≤ x) (p : Nat) : stepC O gone F p = F := by
  unfold stepC
  rw [if_neg]
  rintro ⟨h1, h2, h3⟩
  obtain ⟨u, hu⟩ := List.exists_mem_of_ne_nil _ h3
  have hu' := List.mem_filter.mp hu
  have hF : u ∈ F := by simpa using hu'.2
  have h0 := hr u hF
  obtain ⟨w, rfl⟩ : ∃ w : Nat, u = (w : Int) := ⟨u.toNat, by omega⟩
  exact h1 (hc w hF p (hO.sym p w hu'.1) h2)
theorem closed_fold (hO : MapOk O) (hc : Closed O gone F) (hr : ∀ x ∈ F, 0 ≤ x) : ∀ l : List Nat, l.foldl (stepC O gone) F = F
  | [] => rfl
  | p :: l => by
    rw [List.foldl_cons, closed_step hO hc hr]
    exact closed_fold hO hc hr l
/-- so many rounds -/
def rounds (O : List (List Int)) (gone : List Int) : Nat → List Int → List Int
  | 0, F => F
  | k + 1, F => (List.range O.length).foldl (stepC O gone) (rounds O gone k F)
theorem FInv.rounds (hO : MapOk O) (h : FInv O start gone F) : ∀ k, FInv O start gone (rounds O gone k F)
  | 0 => h
  | k + 1 => FInv.fold hO (FInv.rounds hO h k) fun p hp => List.mem_range.mp hp
theorem rounds_grow (hO : MapOk O) (h : FInv O start gone F) : ∀ k, Closed O gone (Ow.Lib.rounds O gone k F) ∨ k + 1 ≤ (Ow.Lib.rounds O gone k F).length
  | 0 => .inr (List.length_pos_of_mem h.st)
  | k + 1 => by
    have hk := FInv.rounds hO h k
    have hk1 := FInv.rounds hO h (k + 1)
    by_cases hc : Closed O gone (Ow.Lib.rounds O gone k F)
    · left
      show Closed O gone ((List.range O.length).foldl (stepC O gone) (Ow.Lib.rounds O gone k F))
      rw [closed_fold hO hc (fun x hx => (hk.rng x hx).1)]
      exact hc
    · right
      rcases rounds_grow hO h k with hc2 | hl
      · exact absurd hc2 hc
      · have : ∃ (v : Nat) (u : Int), (v : Int) ∈ Ow.Lib.rounds O gone k F ∧ u ∈ nb O v ∧ u ∉ gone ∧ u ∉ Ow.Lib.rounds O gone k F := by
          refine Classical.byContradiction fun z => hc fun v hv u hu hg => Classical.byContradiction fun y => z ⟨v, u, hv, hu, hg, y⟩
        obtain ⟨v, u, h1, h2, h3, h4⟩ := this
        have hru := hO.rng v u h2
        obtain ⟨w, rfl⟩ : ∃ w : Nat, u = (w : Int) := ⟨u.toNat, by omega⟩
        have hin : (w : Int) ∈ Ow.Lib.rounds O gone (k + 1) F := fold_new (hO.sym v w h2) h3 (List.mem_range.mpr (by omega)) h1
        have hlen : ((w : Int) :: Ow.Lib.rounds O gone k F).length ≤ (Ow.Lib.rounds O gone (k + 1) F).length := List.Nodup.length_le_of_subset (List.nodup_cons.mpr ⟨h4, hk.nd⟩) fun x hx => by
          rcases List.mem_cons.mp hx with rfl | hx
          · exact hin
          · exact fold_sub hx
        simp at hlen
        omega
theorem rounds_mem (hO : MapOk O) (h : FInv O start gone F) (hs : 0 ≤ start) (x : Int) : x ∈ Ow.Lib.rounds O gone O.length F ↔ Rch O start gone x := by
  have hn := FInv.rounds hO h O.length
  have hc : Closed O gone (Ow.Lib.rounds O gone O.length F) := by
    rcases rounds_grow hO h O.length with hc | hl
    · exact hc
    · have := room_of hn.nd hn.rng
      omega
  refine ⟨hn.rc x, fun r => ?_⟩
  induction r with
  | zero => exact hn.st
  | step _ hu hg ih => exact hc _ ih _ hu hg
theorem FInv.one {start : Nat} (hs : start < O.length) : FInv O start gone [(start : Int)] := ⟨List.nodup_cons.mpr ⟨List.not_mem_nil, .nil⟩, fun x hx => by cases List.mem_singleton.mp hx; omega, List.mem_singleton.mpr rfl, fun x hx => by cases List.mem_singleton.mp hx; exact .zero⟩
theorem same_len {start : Nat} (hO : MapOk O) (hs : start < O.length) {ks : List Int} (hk : CtInv O start gone ks []) : (Ow.Lib.rounds O gone O.length [(start : Int)]).length = ks.length := by
  have hI : FInv O start gone [(start : Int)] := .one hs
  exact ((List.perm_ext_iff_of_nodup (FInv.rounds hO hI O.length).nd hk.nd).mpr fun x => by rw [rounds_mem hO hI (by omega), hk.mem hO (by omega)]).length_eq
end Ow.Lib
end
section
set_option linter.all false
set_option maxRecDepth 100000
set_option maxHeartbeats 4000000
namespace Ow.k12
open PySem L2 PySem.Spec Ow.Lib
def exOk : Nat → Bool := fun c => false
noncomputable def sem__law_come_to : List D → Res D := runB 4 (bSeq (sSet 1 (xLst (aCons (xC (.int 0)) aNil)))
 (bSeq (sForG (srcK (iR1 (x1 oLen (xVar 0)))) (b1 2) (sForG (srcK (iR1 (x1 oLen (xVar 0)))) (b1 3) (sIf (tAn (tBl (x2 oNin (xVar 3) (xVar 1))) (tBl (x2 oNe (xLc (iL (x2 oIx (xVar 0) (xVar 3))) (b1 4) [4] (tBl (x2 oIn (xVar 4) (xVar 1))) (xP (xVar 4))) (xLst aNil)))) (sMeth (locV 1) (aCons (xP (xVar 3)) aNil) opApp) bN)))
 (sRet (x2 oEq (x1 oLen (xVar 1)) (x1 oLen (xVar 0))))))
noncomputable def sem__law_fits : List D → Res D := runB 4 (bSeq (sSet 2 (xLst aNil))
 (bSeq (sForG (srcK (iR1 (x1 oLen (xVar 1)))) (b1 3) (sForG (srcK (iR2 (x2 oAdd (xVar 3) (xC (.int 1))) (x1 oLen (xVar 1)))) (b1 5) (sIf (tBl (x2 oIn (xVar 5) (x2 oIx (xVar 1) (xVar 3)))) (sMeth (locV 2) (aCons (xTup (aCons (xP (xVar 3)) (aCons (xP (xVar 5)) aNil))) aNil) opApp) bN)))
 (bSeq (sIf (tOr' (tNo (tBl (x1 (isBI "list") (xVar 0)))) (tBl (x2 oNe (xVar 0) (xVar 2)))) (sRet (xC (.bl false))) bN)
 (bSeq (sForG (srcV 0) (b1 4) (sIf (tOr' (tNo (tBl (x1 (isBI "tuple") (xVar 4)))) (tOr' (tNo (tBl (xCall sem__law_whole (aCons (x2 oIx (xVar 4) (xC (.int 0))) aNil)))) (tNo (tBl (xCall sem__law_whole (aCons (x2 oIx (xVar 4) (xC (.int 1))) aNil)))))) (sRet (xC (.bl false))) bN))
 (sRet (xC (.bl true)))))))
noncomputable def sem_law : List D → Res D := runB 5 (bSeq (sSet 1 (xCall sem__law_any (aCons (xVar 0) (aCons (xC (.int 3)) (aCons (x2 oAdd (xC (.int 1)) (x2 oMod (xCall sem__law_cell_at (aCons (xVar 0) (aCons (xC (.int 0)) aNil))) (xC (.int 8)))) aNil)))))
 (bSeq (sSet 2 (xLc (iL (xVar 1)) (b1 5) [5] tYs (x1 oList (xVar 5))))
 (bSeq (sSet 3 (xCall sem_ties (aCons (xVar 2) aNil)))
 (bSeq (sIf (tOr' (tNo (tBl (xCall sem__law_fits (aCons (xVar 3) (aCons (xVar 1) aNil))))) (tBl (x2 oNe (xVar 2) (xVar 1)))) (sRet (xC (.bl false))) bN)
 (bSeq (sMeth (locV 3) (aCons (xTup (aCons (xC (.int 0)) (aCons (xC (.int 0)) aNil))) aNil) opApp)
 (bSeq (sSet 4 (xCall sem_hangs (aCons (xVar 2) aNil)))
 (bSeq (sIf (tOr' (tNo (tBl (x1 (isBI "bool") (xVar 4)))) (tBl (x2 oNe (xVar 4) (xCall sem__law_come_to (aCons (xVar 1) aNil))))) (sRet (xC (.bl false))) bN)
 (sRet (xP (xAn (xCall sem__law_fits (aCons (xCall sem_ties (aCons (xVar 2) aNil)) (aCons (xVar 1) aNil))) (x2 oEq (xVar 2) (xVar 1))))))))))))

end Ow.k12
end
section
set_option linter.all false
set_option exponentiation.threshold 100000
set_option maxHeartbeats 2000000
namespace Ow.k12
open PySem L2 Ow.Lib
/-- what the law reckons for one place -/
def due1 (O : List (List Int)) (v m : Nat) : List (Int × Int) := (((List.range m).map fun j => ((v + 1 + j : Nat) : Int)).filter fun u => decide (u ∈ nb O v)).map fun u => ((v : Int), u)
theorem due1_succ (O : List (List Int)) (v m : Nat) : due1 O v (m + 1) = due1 O v m ++ (if ((v + 1 + m : Nat) : Int) ∈ nb O v then [((v : Int), ((v + 1 + m : Nat) : Int))] else []) := by
  unfold due1
  rw [List.range_succ, List.map_append, List.filter_append, List.map_append]
  congr 1
  by_cases h : ((v + 1 + m : Nat) : Int) ∈ nb O v
  · rw [if_pos h]
    simp only [List.map_cons, List.map_nil]
    rw [List.filter_cons_of_pos (by simpa using h)]
    rfl
  · rw [if_neg h]
    simp only [List.map_cons, List.map_nil]
    rw [List.filter_cons_of_neg (by simpa using h)]
    rfl
theorem due1_is {O : List (List Int)} (h : MapOk O) (v : Nat) (hv : v < O.length) : due1 O v (O.length - (v + 1)) = ties1 O v := by
  unfold due1 ties1
  congr 1
  refine rising_ext ?_ ?_ fun x => ?_
  · refine List.Pairwise.filter _ ?_
    rw [List.pairwise_map]
    exact List.pairwise_lt_range.imp fun {a b} hab => by omega
  · exact (srt_lt (h.nd v)).filter _
  · simp only [List.mem_filter, List.mem_map, List.mem_range, decide_eq_true_eq, mem_srt]
    constructor
    · rintro ⟨⟨j, hj, rfl⟩, hm⟩
      exact ⟨hm, by omega⟩
    · rintro ⟨hm, hx⟩
      have := h.rng v x hm
      exact ⟨⟨(x - (v + 1)).toNat, by omega, by omega⟩, hm⟩
theorem due1_len (O : List (List Int)) (v m : Nat) : (due1 O v m).length ≤ m := by
  unfold due1
  rw [List.length_map]
  exact Nat.le_trans (List.length_filter_le _ _) (by simp)
theorem fits_is {O : List (List Int)} (h : MapOk O) (hn : O.length ≤ 100) (h64 : ∀ v, (nb O v).length ≤ 64) : sem__law_fits [dP (tiesP O O.length), dO O] = .ok (.bl true) := by
  obtain ⟨f, hf⟩ : ∃ f, f = tiesP O O.length := ⟨_, rfl⟩
  rw [← hf]
  unfold sem__law_fits
  -- the inner loop
  have inner : ∀ (v : Nat) (acc : List (Int × Int)) (y5 : Slot), v < O.length → acc.length ≤ 10000 → (∀ i, y5.kill i = y5) → ∃ z5, (∀ i, z5.kill i = z5) ∧ forS (bindB (b1 5)) (sIf (tBl (x2 oIn (xVar 5) (x2 oIx (xVar 1) (xVar 3)))) (sMeth (locV 2) (aCons (xTup (aCons (xP (xVar 3)) (aCons (xP (xVar 5)) aNil))) aNil) opApp) bN) (intsUpTo ((v : Int) + 1) (O.length - (v + 1)))
      [Slot.fz (dP f), .fz (dO O), .own (dP acc), .fz (.int v), .un, y5] = .ok (.nx [Slot.fz (dP f), .fz (dO O), .own (dP (acc ++ due1 O v (O.length - (v + 1)))), .fz (.int v), .un, z5]) := by
    intro v acc y5 hv ha hk5
    obtain ⟨S', e, z5, rfl, k5⟩ := forS_all (bind := bindB (b1 5)) (b := (sIf (tBl (x2 oIn (xVar 5) (x2 oIx (xVar 1) (xVar 3)))) (sMeth (locV 2) (aCons (xTup (aCons (xP (xVar 3)) (aCons (xP (xVar 5)) aNil))) aNil) opApp) bN)) (fun k S => ∃ y5, S = [Slot.fz (dP f), .fz (dO O), .own (dP (acc ++ due1 O v k)), .fz (.int v), .un, y5] ∧ ∀ i, y5.kill i = y5)
      (intsUpTo ((v : Int) + 1) (O.length - (v + 1))) [Slot.fz (dP f), .fz (dO O), .own (dP acc), .fz (.int v), .un, y5] ⟨y5, by simp [due1], hk5⟩ (by
        rintro k d S hd ⟨y5, rfl, k5⟩
        obtain ⟨rfl, hk⟩ := upTo_get hd
        have ix := oIx_dO hv
        have ev : ((v : Int) + 1 + (k : Nat)) = ((v + 1 + k : Nat) : Int) := by omega
        rw [ev]
        obtain ⟨u, hu⟩ : ∃ u : Int, u = ((v + 1 + k : Nat) : Int) := ⟨_, rfl⟩
        rw [← hu]
        have bd : setBs [Slot.fz (dP f), .fz (dO O), .own (dP (acc ++ due1 O v k)), .fz (.int v), .un, y5] (b1 5 (.int u)) = [Slot.fz (dP f), .fz (dO O), .own (dP (acc ++ due1 O v k)), .fz (.int v), .un, .fz (.int u)] := by simp [setS]
        refine ⟨_, [Slot.fz (dP f), .fz (dO O), .own (dP (acc ++ due1 O v (k + 1))), .fz (.int v), .un, .fz (.int u)], rfl, ?_, _, rfl, fun _ => rfl⟩
        rw [bd, due1_succ, ← hu]
        have ht : tBl (x2 oIn (xVar 5) (x2 oIx (xVar 1) (xVar 3))) (en [Slot.fz (dP f), .fz (dO O), .own (dP (acc ++ due1 O v k)), .fz (.int v), .un, .fz (.int u)]) = .ok (decide (u ∈ nb O v)) := by
          simp [tBl, x2, xVar, en, ix]
        unfold sIf
        rw [ht, ok_bind]
        by_cases hm : u ∈ nb O v
        · rw [if_pos (by simpa using hm), if_pos hm]
          have hl := due1_len O v k
          rw [meth_app (ds := (acc ++ due1 O v k).map fun p => D.tup [.int p.1, .int p.2]) (d := .tup [.int v, .int u]) rfl (by simp [aCons, aNil, xTup, xP, xVar, en, szOk]) (by simp; omega)]
          simp
        · rw [if_neg (by simpa using hm), if_neg hm]
          simp [bN])
    exact ⟨z5, k5, by simpa using e⟩
  obtain ⟨S', e, y3, y5, rfl, k3, k5⟩ := forS_all (bind := bindB (b1 3)) (b := (sForG (srcK (iR2 (x2 oAdd (xVar 3) (xC (.int 1))) (x1 oLen (xVar 1)))) (b1 5) (sIf (tBl (x2 oIn (xVar 5) (x2 oIx (xVar 1) (xVar 3)))) (sMeth (locV 2) (aCons (xTup (aCons (xP (xVar 3)) (aCons (xP (xVar 5)) aNil))) aNil) opApp) bN))) (fun k S => ∃ y3 y5, S = [Slot.fz (dP f), .fz (dO O), .own (dP (tiesP O k)), y3, .un, y5] ∧ (∀ i, y3.kill i = y3) ∧ (∀ i, y5.kill i = y5))
    (intsUpTo 0 O.length) [Slot.fz (dP f), .fz (dO O), .own (.lst []), .un, .un, .un] ⟨.un, .un, rfl, fun _ => rfl, fun _ => rfl⟩ (by
      rintro k d S hd ⟨y3, y5, rfl, k3, k5⟩
      obtain ⟨rfl, hk⟩ := upTo_get hd
      have hacc : (tiesP O k).length ≤ 10000 := by have := tiesP_len O h64 k; omega
      obtain ⟨z5, q5, e⟩ := inner k (tiesP O k) y5 hk hacc k5
      have bd : setBs [Slot.fz (dP f), .fz (dO O), .own (dP (tiesP O k)), y3, .un, y5] (b1 3 (.int (0 + (k : Nat)))) = [Slot.fz (dP f), .fz (dO O), .own (dP (tiesP O k)), .fz (.int k), .un, y5] := by simp [setS, k5]
      refine ⟨_, [Slot.fz (dP f), .fz (dO O), .own (dP (tiesP O (k + 1))), .fz (.int k), .un, z5], rfl, ?_, _, _, rfl, fun _ => rfl, q5⟩
      rw [bd, tiesP_succ, ← due1_is h k hk]
      refine forG_nx (srcK_r2 (n := (k : Int) + 1) (m := (O.length : Int)) (by simp [x2, xVar, xC, en]) (by simp [x1, xVar, en]) (by omega) (by omega) (by omega) (by omega)) ?_
      rw [show ((O.length : Int) - ((k : Int) + 1)).toNat = O.length - (k + 1) by omega]
      exact e)
  have ef : tiesP O (intsUpTo 0 O.length).length = f := by rw [upTo_len, hf]
  rw [ef] at e
  obtain ⟨S2, e2, y4, rfl, k4⟩ := forS_all (bind := bindB (b1 4)) (b := sIf (tOr' (tNo (tBl (x1 (isBI "tuple") (xVar 4)))) (tOr' (tNo (tBl (xCall sem__law_whole (aCons (x2 oIx (xVar 4) (xC (.int 0))) aNil)))) (tNo (tBl (xCall sem__law_whole (aCons (x2 oIx (xVar 4) (xC (.int 1))) aNil)))))) (sRet (xC (.bl false))) bN) (fun k S => ∃ y4, S = [Slot.fz (dP f), .fz (dO O), .own (dP f), y3, y4, y5] ∧ ∀ i, y4.kill i = y4)
    (f.map fun p => D.tup [.int p.1, .int p.2]) [Slot.fz (dP f), .fz (dO O), .own (dP f), y3, .un, y5] ⟨.un, rfl, fun _ => rfl⟩ (by
      rintro k d S hd ⟨y4, rfl, k4⟩
      obtain ⟨p, hp, rfl⟩ : ∃ p : Int × Int, f[k]? = some p ∧ d = .tup [.int p.1, .int p.2] := by
        rw [List.getElem?_map] at hd
        obtain ⟨p, a, b⟩ := Option.map_eq_some_iff.mp hd
        exact ⟨p, a, b.symm⟩
      refine ⟨_, [Slot.fz (dP f), .fz (dO O), .own (dP f), y3, .fz (.tup [.int p.1, .int p.2]), y5], rfl, ?_, _, rfl, fun _ => rfl⟩
      have bd : setBs [Slot.fz (dP f), .fz (dO O), .own (dP f), y3, y4, y5] (b1 4 (.tup [.int p.1, .int p.2])) = [Slot.fz (dP f), .fz (dO O), .own (dP f), y3, .fz (.tup [.int p.1, .int p.2]), y5] := by simp [setS, k3, k5]
      rw [bd]
      simp [sIf, tOr', tNo, tBl, x1, x2, xVar, xC, en, xCall, aCons, aNil, whole_is, bN])
  refine runB_rt (S' := [Slot.fz (dP f), .fz (dO O), .own (dP f), y3, y4, y5]) (bSeq_nx (S' := [Slot.fz (dP f), .fz (dO O), .own (.lst []), .un, .un, .un]) rfl (bSeq_nx (forG_nx (srcK_r1 (n := (O.length : Int)) (by simp [x1, xVar, en]) (by omega) (by omega)) (by simpa using e)) (bSeq_nx (S' := [Slot.fz (dP f), .fz (dO O), .own (dP f), y3, .un, y5]) ?_ (bSeq_nx (forG_nx (S0 := [Slot.fz (dP f), .fz (dO O), .own (dP f), y3, .un, y5]) (l := f.map fun p => D.tup [.int p.1, .int p.2]) ?_ e2) rfl))))
  · have := oNe_self (shp_dP f)
    simp [sIf, tOr', tNo, tBl, x1, x2, xVar, en, this, bN]
  · rfl
/-- the inner body of the law's closure -/
def cB : List Slot → Res Fl := sIf (tAn (tBl (x2 oNin (xVar 3) (xVar 1))) (tBl (x2 oNe (xLc (iL (x2 oIx (xVar 0) (xVar 3))) (b1 4) [4] (tBl (x2 oIn (xVar 4) (xVar 1))) (xP (xVar 4))) (xLst aNil)))) (sMeth (locV 1) (aCons (xP (xVar 3)) aNil) opApp) bN
theorem cB_step {O : List (List Int)} {F : List Int} {p : Nat} {y2 : Slot} (hk2 : ∀ i, y2.kill i = y2) (hp : p < O.length) (h64 : ∀ v, (nb O v).length ≤ 64) (hF : F.length ≤ 10000) :
    cB [Slot.fz (dO O), .own (dL F), y2, .fz (.int p), .un] = .ok (.nx [Slot.fz (dO O), .own (dL (stepC O [] F p)), y2, .fz (.int p), .un]) := by
  have ix := oIx_dO hp
  obtain ⟨z2, hz2⟩ : ∃ z2, z2 = Slot.dat [Slot.fz (dO O), .own (dL F), y2, .fz (.int p), .un] y2 := ⟨_, rfl⟩
  have een : en [Slot.fz (dO O), .own (dL F), y2, .fz (.int p), .un] = [some (dO O), some (dL F), z2, some (.int p), none] := by rw [hz2]; rfl
  have lc : xLc (iL (x2 oIx (xVar 0) (xVar 3))) (b1 4) [4] (tBl (x2 oIn (xVar 4) (xVar 1))) (xP (xVar 4)) [some (dO O), some (dL F), z2, some (.int p), none] = .ok (dL ((nb O p).filter fun u => decide (u ∈ F))) := by
    have hl : iL (x2 oIx (xVar 0) (xVar 3)) [some (dO O), some (dL F), z2, some (.int p), none] = .ok ((nb O p).map D.int) := by
      simp [iL, x2, xVar, ix, itD]
    rw [xLc_is hl (by have := h64 p; simp; omega) (lcR_ints (p := fun u => decide (u ∈ F)) (g := D.int) (fun x hx => ?_) (fun x hx hp => ?_))]
    · simp [wipeE, setE, b1, tBl, x2, xVar]
    · simp [wipeE, setE, b1, xP, xVar]
  have ht : tAn (tBl (x2 oNin (xVar 3) (xVar 1))) (tBl (x2 oNe (xLc (iL (x2 oIx (xVar 0) (xVar 3))) (b1 4) [4] (tBl (x2 oIn (xVar 4) (xVar 1))) (xP (xVar 4))) (xLst aNil))) (en [Slot.fz (dO O), .own (dL F), y2, .fz (.int p), .un]) = .ok (decide ((p : Int) ∉ F ∧ (p : Int) ∉ ([] : List Int) ∧ (nb O p).filter (fun u => decide (u ∈ F)) ≠ [])) := by
    rw [een]
    have h1 : tBl (x2 oNin (xVar 3) (xVar 1)) [some (dO O), some (dL F), z2, some (.int p), none] = .ok (!decide ((p : Int) ∈ F)) := by
      simp [tBl, x2, xVar]
    have h2 : tBl (x2 oNe (xLc (iL (x2 oIx (xVar 0) (xVar 3))) (b1 4) [4] (tBl (x2 oIn (xVar 4) (xVar 1))) (xP (xVar 4))) (xLst aNil)) [some (dO O), some (dL F), z2, some (.int p), none] = .ok (!decide ((nb O p).filter (fun u => decide (u ∈ F)) = [])) := by
      show (x2 oNe _ (xLst aNil) _ >>= fun d => match d with
        | .bl b => Res.ok b
        | _ => .stuck) = _
      rw [x2_ok lc (b := .lst []) rfl, oNe_nil]
      rfl
    unfold tAn
    rw [h1, ok_bind]
    by_cases hm : (p : Int) ∈ F
    · simp [hm]
    · rw [if_pos (by simp [hm]), h2]
      by_cases hf : (nb O p).filter (fun u => decide (u ∈ F)) = []
      · rw [decide_eq_true hf, decide_eq_false (fun z => z.2.2 hf)]
        rfl
      · rw [decide_eq_false hf, decide_eq_true ⟨hm, List.not_mem_nil, hf⟩]
        rfl
  unfold cB sIf
  rw [ht, ok_bind]
  unfold stepC
  by_cases hc : (p : Int) ∉ F ∧ (p : Int) ∉ ([] : List Int) ∧ (nb O p).filter (fun u => decide (u ∈ F)) ≠ []
  · rw [if_pos (decide_eq_true hc), if_pos hc, meth_app (ds := F.map D.int) (d := .int p) rfl (by simp [aCons, aNil, xP, xVar, en]) (by simp; omega)]
    simp
  · rw [if_neg (by rw [decide_eq_false hc]; simp), if_neg hc]
    rfl
theorem stepC_len (O : List (List Int)) (F : List Int) (p : Nat) : (stepC O [] F p).length ≤ F.length + 1 := by
  unfold stepC
  split
  · simp
  · omega
theorem law_come_is {O : List (List Int)} (hO : MapOk O) (hn : 0 < O.length) (hn2 : O.length ≤ 50) (h64 : ∀ v, (nb O v).length ≤ 64) : sem__law_come_to [dO O] = .ok (.bl (decide ((rounds O [] O.length [0]).length = O.length))) := by
  have hI : FInv O ((0 : Nat) : Int) [] [((0 : Nat) : Int)] := .one hn
  have inner : ∀ (F : List Int) (k : Nat) (y3 : Slot), F.length ≤ 5000 → (∀ i, y3.kill i = y3) → ∃ z3, (∀ i, z3.kill i = z3) ∧ forS (bindB (b1 3)) cB (intsUpTo 0 O.length) [Slot.fz (dO O), .own (dL F), .fz (.int k), y3, .un] = .ok (.nx [Slot.fz (dO O), .own (dL ((List.range O.length).foldl (stepC O []) F)), .fz (.int k), z3, .un]) := by
    intro F k y3 hF hk3
    obtain ⟨S', e, z3, rfl, q3, _⟩ := forS_all (bind := bindB (b1 3)) (b := cB) (fun j S => ∃ y3, S = [Slot.fz (dO O), .own (dL ((List.range j).foldl (stepC O []) F)), .fz (.int k), y3, .un] ∧ (∀ i, y3.kill i = y3) ∧ ((List.range j).foldl (stepC O []) F).length ≤ F.length + j)
      (intsUpTo 0 O.length) [Slot.fz (dO O), .own (dL F), .fz (.int k), y3, .un] ⟨y3, rfl, hk3, Nat.le_refl _⟩ (by
        rintro j d S hd ⟨y3, rfl, k3, hl⟩
        obtain ⟨rfl, hj⟩ := upTo_get hd
        have bd : setBs [Slot.fz (dO O), .own (dL ((List.range j).foldl (stepC O []) F)), .fz (.int k), y3, .un] (b1 3 (.int (0 + (j : Nat)))) = [Slot.fz (dO O), .own (dL ((List.range j).foldl (stepC O []) F)), .fz (.int k), .fz (.int j), .un] := by simp [setS]
        refine ⟨_, [Slot.fz (dO O), .own (dL ((List.range (j + 1)).foldl (stepC O []) F)), .fz (.int k), .fz (.int j), .un], rfl, ?_, _, rfl, fun _ => rfl, ?_⟩
        · rw [bd, cB_step (fun _ => rfl) hj h64 (by omega), List.range_succ, List.foldl_append]
          rfl
        · rw [List.range_succ, List.foldl_append]
          have := stepC_len O ((List.range j).foldl (stepC O []) F) j
          show (stepC O [] ((List.range j).foldl (stepC O []) F) j).length ≤ _
          omega)
    exact ⟨z3, q3, by simpa using e⟩
  obtain ⟨S', e, y2, y3, rfl, k2, k3⟩ := forS_all (bind := bindB (b1 2)) (b := sForG (srcK (iR1 (x1 oLen (xVar 0)))) (b1 3) cB) (fun k S => ∃ y2 y3, S = [Slot.fz (dO O), .own (dL (rounds O [] k [0])), y2, y3, .un] ∧ (∀ i, y2.kill i = y2) ∧ (∀ i, y3.kill i = y3))
    (intsUpTo 0 O.length) [Slot.fz (dO O), .own (dL [0]), .un, .un, .un] ⟨.un, .un, rfl, fun _ => rfl, fun _ => rfl⟩ (by
      rintro k d S hd ⟨y2, y3, rfl, k2, k3⟩
      obtain ⟨rfl, hk⟩ := upTo_get hd
      have hl : (rounds O [] k [0]).length ≤ O.length := by
        have := FInv.rounds hO hI k
        exact room_of this.nd this.rng
      obtain ⟨z3, q3, e⟩ := inner (rounds O [] k [0]) k y3 (by omega) k3
      have bd : setBs [Slot.fz (dO O), .own (dL (rounds O [] k [0])), y2, y3, .un] (b1 2 (.int (0 + (k : Nat)))) = [Slot.fz (dO O), .own (dL (rounds O [] k [0])), .fz (.int k), y3, .un] := by simp [setS, k3]
      refine ⟨_, [Slot.fz (dO O), .own (dL (rounds O [] (k + 1) [0])), .fz (.int k), z3, .un], rfl, ?_, _, _, rfl, fun _ => rfl, q3⟩
      rw [bd]
      exact forG_nx (srcK_r1 (n := (O.length : Int)) (by simp [x1, xVar, en]) (by omega) (by omega)) (by rw [Int.toNat_natCast]; exact e))
  rw [upTo_len] at e
  unfold sem__law_come_to
  refine runB_rt (S' := [Slot.fz (dO O), .own (dL (rounds O [] O.length [0])), y2, y3, .un]) (bSeq_nx (S' := [Slot.fz (dO O), .own (dL [0]), .un, .un, .un]) rfl (bSeq_nx (forG_nx (srcK_r1 (n := (O.length : Int)) (by simp [x1, xVar, en]) (by omega) (by omega)) (by rw [Int.toNat_natCast]; exact e)) ?_))
  simp [sRet, x1, x2, xVar, en]
  omega
theorem hangs_is {O : List (List Int)} (hO : MapOk O) (hn : 0 < O.length) (hn2 : O.length ≤ 50) : sem_hangs [dO O] = .ok (.bl (decide ((rounds O [] O.length [0]).length = O.length))) := by
  obtain ⟨ks, e, hI⟩ := come_to_is O hO 0 hn [] (by omega)
  have hl : (rounds O [] O.length [0]).length = ks.length := same_len hO hn hI
  have e' : sem_come_to [dO O, .int 0, .lst []] = .ok (.dI (kd ks)) := e
  rw [hl]
  simp [sem_hangs, runB, sRet, x1, x2, xVar, xC, en, xCall, aCons, aNil, xLst, szOk, e', oLenD]
  omega
theorem copy_lc {O : List (List Int)} (hn : O.length ≤ 1000) {e : En} {i : Nat} {L : En → Res (List D)} (hL : L e = .ok (O.map dL)) (hi : i < e.length) : xLc L (b1 i) [i] tYs (x1 oList (xVar i)) e = .ok (dO O) := by
  refine xLc_is hL (by simp; omega) ?_
  have : ∀ A : List (List Int), lcR (b1 i) tYs (x1 oList (xVar i)) (wipeE e [i]) (A.map dL) = .ok (A.map dL) := by
    intro A
    induction A with
    | nil => rfl
    | cons a A ih =>
      rw [List.map_cons]
      unfold lcR
      have hx : x1 oList (xVar i) (setE (wipeE e [i]) (b1 i (dL a))) = .ok (dL a) := by
        have hp : pureDs (a.map D.int) = true := pureDs_iff.mpr fun d hd => by obtain ⟨z, _, rfl⟩ := List.mem_map.mp hd; rfl
        simp [x1, xVar, setE, b1, wipeE, hi, oList, hp]
      simp only [tYs, ok_bind, if_pos, hx, ih]
  exact this O
theorem main (ns : List Int) (hl : ns.length ≤ 63) : sem_law [.scr ns] = .ok (.bl true) := by
  have c8 : ∀ x : Int, oMod (.int x) (.int 8) = .ok (.int (x % 8)) := fun x => oMod_pos (by decide)
  have c0 := cell_is ns 0
  obtain ⟨n, hn⟩ : ∃ n : Nat, 1 + (ns.getD 0 0) % 8 = (n : Int) := ⟨(1 + (ns.getD 0 0) % 8).toNat, by omega⟩
  obtain ⟨O, eO, hO, hlen, h64⟩ := any_is ns hl 3 n (by decide) (by omega)
  have hn1 : 0 < O.length := by omega
  have hn2 : O.length ≤ 50 := by omega
  have t1 := ties_is O (by omega) h64
  have f1 := fits_is hO (by omega) h64
  have h1 := hangs_is hO hn1 hn2
  have l1 := law_come_is hO hn1 hn2 h64
  have ne := oNe_dO O O
  have eq := oEq_dO O O
  unfold sem_law
  refine runB_rt (S' := [Slot.fz (.scr ns), .own (dO O), .own (dO O), .own (dP (tiesP O O.length ++ [(0, 0)])), .fz (.bl (decide ((rounds O [] O.length [0]).length = O.length))), .un])
    (bSeq_nx (S' := [Slot.fz (.scr ns), .own (dO O), .un, .un, .un, .un]) ?_
    (bSeq_nx (S' := [Slot.fz (.scr ns), .own (dO O), .own (dO O), .un, .un, .un]) ?_
    (bSeq_nx (S' := [Slot.fz (.scr ns), .own (dO O), .own (dO O), .own (dP (tiesP O O.length)), .un, .un]) ?_
    (bSeq_nx (S' := [Slot.fz (.scr ns), .own (dO O), .own (dO O), .own (dP (tiesP O O.length)), .un, .un]) ?_
    (bSeq_nx (S' := [Slot.fz (.scr ns), .own (dO O), .own (dO O), .own (dP (tiesP O O.length ++ [(0, 0)])), .un, .un]) ?_
    (bSeq_nx (S' := [Slot.fz (.scr ns), .own (dO O), .own (dO O), .own (dP (tiesP O O.length ++ [(0, 0)])), .fz (.bl (decide ((rounds O [] O.length [0]).length = O.length))), .un]) ?_
    (bSeq_nx (S' := [Slot.fz (.scr ns), .own (dO O), .own (dO O), .own (dP (tiesP O O.length ++ [(0, 0)])), .fz (.bl (decide ((rounds O [] O.length [0]).length = O.length))), .un]) ?_ ?_)))))))
  · have eO' : sem__law_any [.scr ns, .int 3, .int n] = .ok (dO O) := eO
    simp at c0
    simp at hn
    rw [sSet_ok (d := dO O) (xCall_ok (ds := [.scr ns, .int 3, .int n]) (by simp [xCall, aCons, aNil, xVar, xC, x2, en, c0, c8, hn]) eO')]
    simp [setS]
  · rw [sSet_ok (d := dO O) (copy_lc (by omega) (by simp [iL, xVar, en, itD]) (by simp [en]))]
    simp [setS]
  · rw [sSet_ok (d := dP (tiesP O O.length)) (xCall_ok (ds := [dO O]) (by simp [aCons, aNil, xVar, en]) t1)]
    simp [setS]
  · have e1 : xCall sem__law_fits (aCons (xVar 3) (aCons (xVar 1) aNil)) (en [Slot.fz (.scr ns), .own (dO O), .own (dO O), .own (dP (tiesP O O.length)), .un, .un]) = .ok (.bl true) :=
      xCall_ok (ds := [dP (tiesP O O.length), dO O]) (by simp [aCons, aNil, xVar, en]) f1
    have e2 : x2 oNe (xVar 2) (xVar 1) (en [Slot.fz (.scr ns), .own (dO O), .own (dO O), .own (dP (tiesP O O.length)), .un, .un]) = .ok (.bl false) := by
      rw [x2_ok (a := dO O) (b := dO O) (by simp [xVar, en]) (by simp [xVar, en]), ne]
      simp
    simp [sIf, tOr', tNo, tBl, e1, e2, bN]
  · have hlt := tiesP_len O h64 O.length
    rw [meth_app (ds := (tiesP O O.length).map fun p => D.tup [.int p.1, .int p.2]) (d := .tup [.int 0, .int 0]) rfl (by simp [aCons, aNil, xTup, xC, szOk]) (by simp; omega)]
    simp
  · rw [sSet_ok (d := .bl (decide ((rounds O [] O.length [0]).length = O.length))) (xCall_ok (ds := [dO O]) (by simp [aCons, aNil, xVar, en]) h1)]
    simp [setS]
  · have e1 : x1 (isBI "bool") (xVar 4) (en [Slot.fz (.scr ns), .own (dO O), .own (dO O), .own (dP (tiesP O O.length ++ [(0, 0)])), .fz (.bl (decide ((rounds O [] O.length [0]).length = O.length))), .un]) = .ok (.bl true) := by
      simp [x1, xVar, en]
    have e2 : x2 oNe (xVar 4) (xCall sem__law_come_to (aCons (xVar 1) aNil)) (en [Slot.fz (.scr ns), .own (dO O), .own (dO O), .own (dP (tiesP O O.length ++ [(0, 0)])), .fz (.bl (decide ((rounds O [] O.length [0]).length = O.length))), .un]) = .ok (.bl false) := by
      rw [x2_ok (a := .bl (decide ((rounds O [] O.length [0]).length = O.length))) (by simp [xVar, en]) (xCall_ok (ds := [dO O]) (by simp [aCons, aNil, xVar, en]) l1)]
      exact oNe_self ((Sh.bl 0 _).shp (by decide))
    simp [sIf, tOr', tNo, tBl, e1, e2, bN]
  · have e1 : xCall sem__law_fits (aCons (xCall sem_ties (aCons (xVar 2) aNil)) (aCons (xVar 1) aNil)) (en [Slot.fz (.scr ns), .own (dO O), .own (dO O), .own (dP (tiesP O O.length ++ [(0, 0)])), .fz (.bl (decide ((rounds O [] O.length [0]).length = O.length))), .un]) = .ok (.bl true) := by
      refine xCall_ok (ds := [dP (tiesP O O.length), dO O]) ?_ f1
      have ti : xCall sem_ties (aCons (xVar 2) aNil) (en [Slot.fz (.scr ns), .own (dO O), .own (dO O), .own (dP (tiesP O O.length ++ [(0, 0)])), .fz (.bl (decide ((rounds O [] O.length [0]).length = O.length))), .un]) = .ok (dP (tiesP O O.length)) := xCall_ok (ds := [dO O]) (by simp [aCons, aNil, xVar, en]) t1
      exact aCons_ok ti (aCons_ok (by simp [xVar, en]) rfl)
    have e2 : x2 oEq (xVar 2) (xVar 1) (en [Slot.fz (.scr ns), .own (dO O), .own (dO O), .own (dP (tiesP O O.length ++ [(0, 0)])), .fz (.bl (decide ((rounds O [] O.length [0]).length = O.length))), .un]) = .ok (.bl true) := by
      rw [x2_ok (a := dO O) (b := dO O) (by simp [xVar, en]) (by simp [xVar, en]), eq]
      simp
    simp [sRet, xP, xAn, e1, e2]
end Ow.k12
end
section
set_option linter.all false
set_option maxRecDepth 100000
set_option maxHeartbeats 4000000
namespace Ow.k12
open PySem L2 PySem.Spec Ow.Lib
abbrev topS (i : Nat) : Stmt := PySem.Challenge.pw_standup_k12_ties_and_hanging.main.body.getD i (.Pass ⟨0, 0, 0, 0⟩)
abbrev st_ties : Stmt := topS 1
abbrev st_come_to : Stmt := topS 2
abbrev st_hangs : Stmt := topS 3
abbrev st__law_cell_at : Stmt := topS 5
abbrev st__law_whole : Stmt := topS 6
abbrev st__law_block : Stmt := topS 7
abbrev st__law_mixed : Stmt := topS 8
abbrev st__law_any : Stmt := topS 9
abbrev st__law_come_to : Stmt := topS 10
abbrev st__law_fits : Stmt := topS 11
abbrev st_law : Stmt := topS 12
structure Txt (K : PySem.W.Frag) (mg : Str → Option Value) (ad : Nat → Addr) (fd : Nat → FuncData) (Y : Cl) : Prop where
  f_ties : Fun K "ties" "ties" st_ties (ad 0) (fd 0)
  g_ties : mg "ties" = some (.ref (ad 0))
  b_ties : Binds K (fd 0) ["orders"] []
  f_come_to : Fun K "come_to" "come_to" st_come_to (ad 1) (fd 1)
  g_come_to : mg "come_to" = some (.ref (ad 1))
  b_come_to : Binds K (fd 1) ["orders", "start", "gone"] []
  f_hangs : Fun K "hangs" "hangs" st_hangs (ad 2) (fd 2)
  g_hangs : mg "hangs" = some (.ref (ad 2))
  b_hangs : Binds K (fd 2) ["orders"] []
  f__law_cell_at : Fun K "_law_cell_at" "_law_cell_at" st__law_cell_at (ad 3) (fd 3)
  g__law_cell_at : mg "_law_cell_at" = some (.ref (ad 3))
  b__law_cell_at : Binds K (fd 3) ["_law_script", "_law_k"] []
  f__law_whole : Fun K "_law_whole" "_law_whole" st__law_whole (ad 4) (fd 4)
  g__law_whole : mg "_law_whole" = some (.ref (ad 4))
  b__law_whole : Binds K (fd 4) ["_law_found"] []
  f__law_block : Fun K "_law_block" "_law_block" st__law_block (ad 5) (fd 5)
  g__law_block : mg "_law_block" = some (.ref (ad 5))
  b__law_block : Binds K (fd 5) ["_law_script", "_law_k"] []
  f__law_mixed : Fun K "_law_mixed" "_law_mixed" st__law_mixed (ad 6) (fd 6)
  g__law_mixed : mg "_law_mixed" = some (.ref (ad 6))
  b__law_mixed : Binds K (fd 6) ["_law_script", "_law_k"] []
  f__law_any : Fun K "_law_any" "_law_any" st__law_any (ad 7) (fd 7)
  g__law_any : mg "_law_any" = some (.ref (ad 7))
  b__law_any : Binds K (fd 7) ["_law_script", "_law_start", "_law_many"] []
  f__law_come_to : Fun K "_law_come_to" "_law_come_to" st__law_come_to (ad 8) (fd 8)
  g__law_come_to : mg "_law_come_to" = some (.ref (ad 8))
  b__law_come_to : Binds K (fd 8) ["_law_orders"] []
  f__law_fits : Fun K "_law_fits" "_law_fits" st__law_fits (ad 9) (fd 9)
  g__law_fits : mg "_law_fits" = some (.ref (ad 9))
  b__law_fits : Binds K (fd 9) ["_law_found", "_law_orders"] []
  f_law : Fun K "law" "law" st_law (ad 10) (fd 10)
  g_law : mg "law" = some (.ref (ad 10))
  b_law : Binds K (fd 10) ["_law_script"] []
  m_bool : mg "bool" = none
  m_int : mg "int" = none
  m_isinstance : mg "isinstance" = none
  m_len : mg "len" = none
  m_list : mg "list" = none
  m_min : mg "min" = none
  m_range : mg "range" = none
  m_sorted : mg "sorted" = none
  m_tuple : mg "tuple" = none
section
variable {P : Program} {w : World} {K : PySem.W.Frag} {mg : Str → Option Value} {base : Heap} {ad : Nat → Addr} {fd : Nat → FuncData} {Y : Cl}
theorem sc_ties : FnScope ["orders", "found", "place", "other"] ["orders"] (defScope st_ties) := ⟨rfl, rfl, rfl, by decide +kernel, rfl, by decide +kernel, by decide +kernel⟩
theorem ok_ties (T : Txt K mg ad fd Y) : FnOk P w K mg base CX0 1 (ad 0) (fd 0) ["orders"] (spFn K Y false 1 sem_ties) :=
  have sc := sc_ties
  fn0 (M := fun _ => true) T.f_ties sc rfl rfl fun cdv A outer s H E hr =>
 (b_cons (s_set 1 sc.nd (jn_lst an_nil))
 (b_cons (s_forG PassesOwn.never rfl (is_r1 T.m_range (j_len rfl T.m_len (j_var 0))) (pgn 2 sc.nd) (b_one (s_set 1 sc.nd (j_cat (j_var 1) (j_n (jn_lc [("other", 3)] rfl sc.nd (ie_l (j_n (jn_sort rfl T.m_sorted (j_at (j_var 0) (j_var 2))))) (fun _ _ _ _ _ => pgn 3 sc.nd) (fun _ _ _ _ _ => ct_one (t_lt (j_var 2) (j_var 3))) (fun _ _ _ _ _ => (jn_tup (an_cons (j_p (j_var 2)) (an_cons (j_p (j_var 3)) an_nil)))) (hb_1 (by decide))))))) (fun _ _ _ => rfl))
 (b_one (s_retV 1))))
theorem sc_come_to : FnScope ["orders", "start", "gone", "found", "row", "other"] ["orders", "start", "gone"] (defScope st_come_to) := ⟨rfl, rfl, rfl, by decide +kernel, rfl, by decide +kernel, by decide +kernel⟩
theorem ok_come_to (T : Txt K mg ad fd Y) : FnOk P w K mg base CX0 1 (ad 1) (fd 1) ["orders", "start", "gone"] (spFn K Y false 3 sem_come_to) :=
  have sc := sc_come_to
  fn0 (M := fun _ => true) T.f_come_to sc rfl rfl fun cdv A outer s H E hr =>
 (b_cons (s_set 3 sc.nd jn_dI)
 (b_cons (s_putI 3 hr j_bl (j_var 1))
 (b_cons (s_set 4 sc.nd (jn_lst (an_cons (j_p (j_var 1)) an_nil)))
 (b_cons (s_while PassesOwn.never (t_ne hr (j_var 4) (j_lst a_nil)) (b_one (s_forG PassesOwn.never rfl (is_atE 0 (je_pop (jl_var 4))) (pgn 5 sc.nd) (b_one (s_if (t_w (w_and (t_ninDI hr (j_var 5) (j_var 3)) (w_and1 (t_nin hr (j_var 5) (j_var 2))))) (b_cons (s_putI 3 hr j_bl (j_var 5))
 (b_one (s_meth F.slot_list_append (by with_unfolding_all rfl) mt_append mk_app (jl_var 4) (an_cons (j_p (j_var 5)) an_nil)))) b_nil)) (fun _ _ _ => rfl))))
 (b_one (s_retV 3))))))
theorem sc_hangs : FnScope ["orders"] ["orders"] (defScope st_hangs) := ⟨rfl, rfl, rfl, by decide +kernel, rfl, by decide +kernel, by decide +kernel⟩
theorem ok_hangs (T : Txt K mg ad fd Y) : FnOk P w K mg base CX0 2 (ad 2) (fd 2) ["orders"] (spFn K Y false 1 sem_hangs) :=
  have sc := sc_hangs
  fn0 (M := fun _ => true) T.f_hangs sc rfl rfl fun cdv A outer s H E hr =>
 (b_one (s_ret (j_eq hr (j_lenD rfl T.m_len (j_n (j_call (ok_come_to T) (hr.mono (by decide)) T.g_come_to T.f_come_to.kp T.b_come_to (a_cons (j_var 0) (a_cons j_int (a_cons (j_lst a_nil) a_nil)))))) (j_len rfl T.m_len (j_var 0)))))
theorem sc__law_cell_at : FnScope ["_law_script", "_law_k"] ["_law_script", "_law_k"] (defScope st__law_cell_at) := ⟨rfl, rfl, rfl, by decide +kernel, rfl, by decide +kernel, by decide +kernel⟩
theorem ok__law_cell_at (T : Txt K mg ad fd Y) : FnOk P w K mg base CX0 1 (ad 3) (fd 3) ["_law_script", "_law_k"] (spFn K Y false 2 sem__law_cell_at) :=
  have sc := sc__law_cell_at
  fn0 (M := fun _ => true) T.f__law_cell_at sc rfl rfl fun cdv A outer s H E hr =>
 (b_cons (s_if (t_lt (j_var 1) (j_len rfl T.m_len (j_var 0))) (b_one (s_ret (j_p (j_at (j_var 0) (j_var 1))))) b_nil)
 (b_one (s_ret j_int)))
theorem sc__law_whole : FnScope ["_law_found"] ["_law_found"] (defScope st__law_whole) := ⟨rfl, rfl, rfl, by decide +kernel, rfl, by decide +kernel, by decide +kernel⟩
theorem ok__law_whole (T : Txt K mg ad fd Y) : FnOk P w K mg base CX0 1 (ad 4) (fd 4) ["_law_found"] (spFn K Y false 1 sem__law_whole) :=
  have sc := sc__law_whole
  fn0 (M := fun _ => true) T.f__law_whole sc rfl rfl fun cdv A outer s H E hr =>
 (b_one (s_ret (j_p (j_and (j_isB rfl T.m_isinstance rfl T.m_int (by decide +kernel) (j_var 0)) (j_one (j_not (j_isB rfl T.m_isinstance rfl T.m_bool (by decide +kernel) (j_var 0))))))))
theorem sc__law_block : FnScope ["_law_script", "_law_k", "_law_cell", "_law_j"] ["_law_script", "_law_k"] (defScope st__law_block) := ⟨rfl, rfl, rfl, by decide +kernel, rfl, by decide +kernel, by decide +kernel⟩
theorem ok__law_block (T : Txt K mg ad fd Y) : FnOk P w K mg base CX0 1 (ad 5) (fd 5) ["_law_script", "_law_k"] (spFn K Y false 2 sem__law_block) :=
  have sc := sc__law_block
  fn0 (M := fun _ => true) T.f__law_block sc rfl rfl fun cdv A outer s H E hr =>
 (b_cons (s_set 2 sc.nd j_int)
 (b_cons (s_if (t_lt (j_add j_int (j_mod (j_div (j_var 1) j_int) j_int)) (j_len rfl T.m_len (j_var 0))) (b_one (s_set 2 sc.nd (j_div (j_at (j_var 0) (j_add j_int (j_mod (j_div (j_var 1) j_int) j_int))) (j_pow j_int j_int)))) b_nil)
 (b_cons (s_forG PassesOwn.never rfl (is_r1 T.m_range (j_mod (j_var 1) j_int)) (pgn 3 sc.nd) (b_one (s_set 2 sc.nd (j_div (j_var 2) j_int))) (fun _ _ _ => rfl))
 (b_one (s_ret (j_mod (j_var 2) j_int))))))
theorem sc__law_mixed : FnScope ["_law_script", "_law_k", "_law_cell", "_law_number"] ["_law_script", "_law_k"] (defScope st__law_mixed) := ⟨rfl, rfl, rfl, by decide +kernel, rfl, by decide +kernel, by decide +kernel⟩
theorem ok__law_mixed (T : Txt K mg ad fd Y) : FnOk P w K mg base CX0 2 (ad 6) (fd 6) ["_law_script", "_law_k"] (spFn K Y false 2 sem__law_mixed) :=
  have sc := sc__law_mixed
  fn0 (M := fun _ => true) T.f__law_mixed sc rfl rfl fun cdv A outer s H E hr =>
 (b_cons (s_set 2 sc.nd j_int)
 (b_cons (s_if (t_gt (j_len rfl T.m_len (j_var 0)) j_int) (b_one (s_set 2 sc.nd (j_p (j_at (j_var 0) j_int)))) b_nil)
 (b_cons (s_if (t_eq hr (j_mod (j_div (j_var 2) (j_pow j_int j_int)) j_int) j_int) (b_one (s_ret (j_call (ok__law_block T) (hr.mono (by decide)) T.g__law_block T.f__law_block.kp T.b__law_block (a_cons (j_var 0) (a_cons (j_var 1) a_nil))))) b_nil)
 (b_cons (s_if (t_gt (j_len rfl T.m_len (j_var 0)) j_int) (b_one (s_set 2 sc.nd (j_p (j_at (j_var 0) (j_mod (j_var 1) (j_min2 rfl rfl T.m_min j_int (j_len rfl T.m_len (j_var 0)))))))) b_nil)
 (b_cons (s_set 3 sc.nd (j_add (j_mod (j_var 2) (j_pow j_int j_int)) (j_mul j_int (j_add (j_var 1) j_int))))
 (b_cons (s_set 3 sc.nd (j_add (j_mod (j_mul (j_var 3) (j_var 3)) j_int) (j_mul j_int (j_var 1))))
 (b_one (s_ret (j_mod (j_mul (j_var 3) (j_var 3)) j_int)))))))))
theorem sc__law_any : FnScope ["_law_script", "_law_start", "_law_many", "_law_orders", "_law_thick", "_law_one", "_law_other", "_law_k", "_law_number"] ["_law_script", "_law_start", "_law_many"] (defScope st__law_any) := ⟨rfl, rfl, rfl, by decide +kernel, rfl, by decide +kernel, by decide +kernel⟩
theorem ok__law_any (T : Txt K mg ad fd Y) : FnOk P w K mg base CX0 3 (ad 7) (fd 7) ["_law_script", "_law_start", "_law_many"] (spFn K Y false 3 sem__law_any) :=
  have sc := sc__law_any
  fn0 (M := fun _ => true) T.f__law_any sc rfl rfl fun cdv A outer s H E hr =>
 (b_cons (s_setLc [("_law_k", 7)] 3 rfl sc.nd (ie_r1 T.m_range (j_var 2)) (fun _ _ _ _ _ => pgn 7 sc.nd) (fun _ _ _ _ _ => ct_nil) (fun _ _ _ _ _ => (jn_lst an_nil)) (hb_1 (by decide)))
 (b_cons (s_set 4 sc.nd (j_add j_int (j_mod (j_n (j_call (ok__law_mixed T) (hr.mono (by decide)) T.g__law_mixed T.f__law_mixed.kp T.b__law_mixed (a_cons (j_var 0) (a_cons (j_var 1) a_nil)))) j_int)))
 (b_cons (s_forG PassesOwn.never rfl (is_r1 T.m_range (j_var 2)) (pgn 5 sc.nd) (b_one (s_forG PassesOwn.never rfl (is_r1 T.m_range (j_var 5)) (pgn 6 sc.nd) (b_cons (s_set 8 sc.nd (j_call (ok__law_mixed T) (hr.mono (by decide)) T.g__law_mixed T.f__law_mixed.kp T.b__law_mixed (a_cons (j_var 0) (a_cons (j_add (j_add (j_add (j_var 1) j_int) (j_mul j_int (j_var 5))) (j_var 6)) a_nil))))
 (b_one (s_if (t_ne hr (j_mod (j_var 8) (j_var 4)) j_int) (b_cons (s_meth F.slot_list_insert (by with_unfolding_all rfl) mt_insert mk_ins (jl_at 3 (j_var 5)) (an_cons (j_mod (j_div (j_var 8) j_int) (j_add (j_len rfl T.m_len (j_at (j_var 3) (j_var 5))) j_int)) (an_cons (j_p (j_var 6)) an_nil)))
 (b_one (s_meth F.slot_list_insert (by with_unfolding_all rfl) mt_insert mk_ins (jl_at 3 (j_var 6)) (an_cons (j_mod (j_div (j_var 8) j_int) (j_add (j_len rfl T.m_len (j_at (j_var 3) (j_var 6))) j_int)) (an_cons (j_p (j_var 5)) an_nil))))) b_nil))) (fun _ _ _ => rfl))) (fun _ _ _ => rfl))
 (b_one (s_retV 3)))))
theorem sc__law_come_to : FnScope ["_law_orders", "_law_found", "_law_k", "_law_place", "_law_other"] ["_law_orders"] (defScope st__law_come_to) := ⟨rfl, rfl, rfl, by decide +kernel, rfl, by decide +kernel, by decide +kernel⟩
theorem ok__law_come_to (T : Txt K mg ad fd Y) : FnOk P w K mg base CX0 1 (ad 8) (fd 8) ["_law_orders"] (spFn K Y false 1 sem__law_come_to) :=
  have sc := sc__law_come_to
  fn0 (M := fun _ => true) T.f__law_come_to sc rfl rfl fun cdv A outer s H E hr =>
 (b_cons (s_set 1 sc.nd (jn_lst (an_cons j_int an_nil)))
 (b_cons (s_forG PassesOwn.never rfl (is_r1 T.m_range (j_len rfl T.m_len (j_var 0))) (pgn 2 sc.nd) (b_one (s_forG PassesOwn.never rfl (is_r1 T.m_range (j_len rfl T.m_len (j_var 0))) (pgn 3 sc.nd) (b_one (s_if (t_w (w_and (t_nin hr (j_var 3) (j_var 1)) (w_and1 (t_ne hr (j_n (jn_lc [("_law_other", 4)] rfl sc.nd (ie_l (j_at (j_var 0) (j_var 3))) (fun _ _ _ _ _ => pgn 4 sc.nd) (fun _ _ _ _ _ => ct_one (t_in hr (j_var 4) (j_var 1))) (fun _ _ _ _ _ => (j_p (j_var 4))) (hb_1 (by decide)))) (j_lst a_nil))))) (b_one (s_meth F.slot_list_append (by with_unfolding_all rfl) mt_append mk_app (jl_var 1) (an_cons (j_p (j_var 3)) an_nil))) b_nil)) (fun _ _ _ => rfl))) (fun _ _ _ => rfl))
 (b_one (s_ret (j_eq hr (j_len rfl T.m_len (j_var 1)) (j_len rfl T.m_len (j_var 0)))))))
theorem sc__law_fits : FnScope ["_law_found", "_law_orders", "_law_due", "_law_one", "_law_tie", "_law_other"] ["_law_found", "_law_orders"] (defScope st__law_fits) := ⟨rfl, rfl, rfl, by decide +kernel, rfl, by decide +kernel, by decide +kernel⟩
theorem ok__law_fits (T : Txt K mg ad fd Y) : FnOk P w K mg base CX0 2 (ad 9) (fd 9) ["_law_found", "_law_orders"] (spFn K Y false 2 sem__law_fits) :=
  have sc := sc__law_fits
  fn0 (M := fun _ => true) T.f__law_fits sc rfl rfl fun cdv A outer s H E hr =>
 (b_cons (s_set 2 sc.nd (jn_lst an_nil))
 (b_cons (s_forG PassesOwn.never rfl (is_r1 T.m_range (j_len rfl T.m_len (j_var 1))) (pgn 3 sc.nd) (b_one (s_forG PassesOwn.never rfl (is_r2 T.m_range (j_add (j_var 3) j_int) (j_len rfl T.m_len (j_var 1))) (pgn 5 sc.nd) (b_one (s_if (t_in hr (j_var 5) (j_at (j_var 1) (j_var 3))) (b_one (s_meth F.slot_list_append (by with_unfolding_all rfl) mt_append mk_app (jl_var 2) (an_cons (jn_tup (an_cons (j_p (j_var 3)) (an_cons (j_p (j_var 5)) an_nil))) an_nil))) b_nil)) (fun _ _ _ => rfl))) (fun _ _ _ => rfl))
 (b_cons (s_if (t_w (w_or (t_not (t_val (j_isB rfl T.m_isinstance rfl T.m_list (by decide +kernel) (j_var 0)))) (w_or1 (t_ne hr (j_var 0) (j_var 2))))) (b_one (s_ret j_bl)) b_nil)
 (b_cons (s_forG PassesOwn.never rfl (is_v 0) (pgn 4 sc.nd) (b_one (s_if (t_w (w_or (t_not (t_val (j_isB rfl T.m_isinstance rfl T.m_tuple (by decide +kernel) (j_var 4)))) (w_or (t_not (t_val (j_n (j_call (ok__law_whole T) (hr.mono (by decide)) T.g__law_whole T.f__law_whole.kp T.b__law_whole (a_cons (j_at (j_var 4) j_int) a_nil))))) (w_or1 (t_not (t_val (j_n (j_call (ok__law_whole T) (hr.mono (by decide)) T.g__law_whole T.f__law_whole.kp T.b__law_whole (a_cons (j_at (j_var 4) j_int) a_nil))))))))) (b_one (s_ret j_bl)) b_nil)) (fun _ _ _ => rfl))
 (b_one (s_ret j_bl))))))
theorem sc_law : FnScope ["_law_script", "_law_orders", "_law_handed", "_law_found", "_law_told", "_law_order"] ["_law_script"] (defScope st_law) := ⟨rfl, rfl, rfl, by decide +kernel, rfl, by decide +kernel, by decide +kernel⟩
theorem ok_law (T : Txt K mg ad fd Y) : FnOk P w K mg base CX0 4 (ad 10) (fd 10) ["_law_script"] (spFn K Y false 1 sem_law) :=
  have sc := sc_law
  fn0 (M := fun _ => true) T.f_law sc rfl rfl fun cdv A outer s H E hr =>
 (b_cons (s_set 1 sc.nd (j_call (ok__law_any T) (hr.mono (by decide)) T.g__law_any T.f__law_any.kp T.b__law_any (a_cons (j_var 0) (a_cons j_int (a_cons (j_add j_int (j_mod (j_n (j_call (ok__law_cell_at T) (hr.mono (by decide)) T.g__law_cell_at T.f__law_cell_at.kp T.b__law_cell_at (a_cons (j_var 0) (a_cons j_int a_nil)))) j_int)) a_nil)))))
 (b_cons (s_setLc [("_law_order", 5)] 2 rfl sc.nd (ie_l (j_var 1)) (fun _ _ _ _ _ => pgn 5 sc.nd) (fun _ _ _ _ _ => ct_nil) (fun _ _ _ _ _ => (j_list rfl T.m_list (j_var 5))) (hb_1 (by decide)))
 (b_cons (s_set 3 sc.nd (j_call (ok_ties T) (hr.mono (by decide)) T.g_ties T.f_ties.kp T.b_ties (a_cons (j_var 2) a_nil)))
 (b_cons (s_if (t_w (w_or (t_not (t_val (j_n (j_call (ok__law_fits T) (hr.mono (by decide)) T.g__law_fits T.f__law_fits.kp T.b__law_fits (a_cons (j_var 3) (a_cons (j_var 1) a_nil)))))) (w_or1 (t_ne hr (j_var 2) (j_var 1))))) (b_one (s_ret j_bl)) b_nil)
 (b_cons (s_meth F.slot_list_append (by with_unfolding_all rfl) mt_append mk_app (jl_var 3) (an_cons (jn_tup (an_cons j_int (an_cons j_int an_nil))) an_nil))
 (b_cons (s_set 4 sc.nd (j_call (ok_hangs T) (hr.mono (by decide)) T.g_hangs T.f_hangs.kp T.b_hangs (a_cons (j_var 2) a_nil)))
 (b_cons (s_if (t_w (w_or (t_not (t_val (j_isB rfl T.m_isinstance rfl T.m_bool (by decide +kernel) (j_var 4)))) (w_or1 (t_ne hr (j_var 4) (j_n (j_call (ok__law_come_to T) (hr.mono (by decide)) T.g__law_come_to T.f__law_come_to.kp T.b__law_come_to (a_cons (j_var 1) a_nil))))))) (b_one (s_ret j_bl)) b_nil)
 (b_one (s_ret (j_p (j_and (j_n (j_call (ok__law_fits T) (hr.mono (by decide)) T.g__law_fits T.f__law_fits.kp T.b__law_fits (a_cons (j_n (j_call (ok_ties T) (hr.mono (by decide)) T.g_ties T.f_ties.kp T.b_ties (a_cons (j_var 2) a_nil))) (a_cons (j_var 1) a_nil)))) (j_one (j_eq hr (j_var 2) (j_var 1))))))))))))))
end

end Ow.k12
end
section
set_option linter.all false
set_option maxRecDepth 100000
set_option maxHeartbeats 4000000
namespace Ow.k12
open PySem L2 PySem.Spec Ow.Lib
/-- the classes' places -/
def YY (f : Nat → Addr) : Cl := ⟨f, fun i => (match i with | 12 => "place" | 13 => "count" | 14 => "places" | 15 => "row" | _ => "" : String)⟩
def spL (K : PySem.W.Frag) : Sp := fun vs H Q _ => ∃ (a : Addr) (ns : List Int), vs = [.ref a] ∧ SqL K H a (ns.map V.int) ∧ ns.length ≤ 63 ∧ ∀ H', Q (.bl true) H'
theorem hsp {K : PySem.W.Frag} {Y : Cl} {vs : List V} {H : Hp} {Q : VK} {E : XK} (h : spL K vs H Q E) : spFn K Y false 1 sem_law vs H Q E := by
  obtain ⟨a, ns, rfl, hS, hl, k⟩ := h
  refine ⟨[.scr ns], rfl, .cons (.scr hS) .nil, ?_⟩
  rw [main ns hl]
  rintro v H' ⟨_, fp, o, _⟩
  cases o with
  | pur _ r =>
    cases r
    exact k _
theorem all_mk {l : PySem.W.OpenLaw} {w : World} {K : PySem.W.Frag} {h : Heap} {mg : Str → Option Value} {fa : Addr} (X : K.In h) (G : h.Ns mainGlobals mg) (hfa : mg "law" = some (.ref fa))
    {f0 : Addr} {od0 an0 : Option Addr} {sl0 : Array (Option Value)} {oc0 kV0 dc0 pm0 cd0 ct0 : Value}
    {f1 : Addr} {od1 an1 : Option Addr} {sl1 : Array (Option Value)} {oc1 kV1 dc1 pm1 cd1 ct1 : Value}
    {f2 : Addr} {od2 an2 : Option Addr} {sl2 : Array (Option Value)} {oc2 kV2 dc2 pm2 cd2 ct2 : Value}
    {f3 : Addr} {od3 an3 : Option Addr} {sl3 : Array (Option Value)} {oc3 kV3 dc3 pm3 cd3 ct3 : Value}
    {f4 : Addr} {od4 an4 : Option Addr} {sl4 : Array (Option Value)} {oc4 kV4 dc4 pm4 cd4 ct4 : Value}
    {f5 : Addr} {od5 an5 : Option Addr} {sl5 : Array (Option Value)} {oc5 kV5 dc5 pm5 cd5 ct5 : Value}
    {f6 : Addr} {od6 an6 : Option Addr} {sl6 : Array (Option Value)} {oc6 kV6 dc6 pm6 cd6 ct6 : Value}
    {f7 : Addr} {od7 an7 : Option Addr} {sl7 : Array (Option Value)} {oc7 kV7 dc7 pm7 cd7 ct7 : Value}
    {f8 : Addr} {od8 an8 : Option Addr} {sl8 : Array (Option Value)} {oc8 kV8 dc8 pm8 cd8 ct8 : Value}
    {f9 : Addr} {od9 an9 : Option Addr} {sl9 : Array (Option Value)} {oc9 kV9 dc9 pm9 cd9 ct9 : Value}
    {f10 : Addr} {od10 an10 : Option Addr} {sl10 : Array (Option Value)} {oc10 kV10 dc10 pm10 cd10 ct10 : Value}
    (a0 : PySem.W.nsIn K mainGlobals "ties" = some (some (.ref f0)))
    (l0 : K.lookup f0 = some ⟨oc0, od0, .func (PySem.W.fnOf "ties" "ties" (defArgs st_ties) (defBody st_ties) (defScope st_ties) .none kV0 dc0 pm0 an0 cd0 ct0), sl0⟩)
    (c0 : PySem.W.codeIn K cd0 "ties" = true)
    (k0 : PySem.W.keepIn K (.ref f0) = true)
    (a1 : PySem.W.nsIn K mainGlobals "come_to" = some (some (.ref f1)))
    (l1 : K.lookup f1 = some ⟨oc1, od1, .func (PySem.W.fnOf "come_to" "come_to" (defArgs st_come_to) (defBody st_come_to) (defScope st_come_to) .none kV1 dc1 pm1 an1 cd1 ct1), sl1⟩)
    (c1 : PySem.W.codeIn K cd1 "come_to" = true)
    (k1 : PySem.W.keepIn K (.ref f1) = true)
    (a2 : PySem.W.nsIn K mainGlobals "hangs" = some (some (.ref f2)))
    (l2 : K.lookup f2 = some ⟨oc2, od2, .func (PySem.W.fnOf "hangs" "hangs" (defArgs st_hangs) (defBody st_hangs) (defScope st_hangs) .none kV2 dc2 pm2 an2 cd2 ct2), sl2⟩)
    (c2 : PySem.W.codeIn K cd2 "hangs" = true)
    (k2 : PySem.W.keepIn K (.ref f2) = true)
    (a3 : PySem.W.nsIn K mainGlobals "_law_cell_at" = some (some (.ref f3)))
    (l3 : K.lookup f3 = some ⟨oc3, od3, .func (PySem.W.fnOf "_law_cell_at" "_law_cell_at" (defArgs st__law_cell_at) (defBody st__law_cell_at) (defScope st__law_cell_at) .none kV3 dc3 pm3 an3 cd3 ct3), sl3⟩)
    (c3 : PySem.W.codeIn K cd3 "_law_cell_at" = true)
    (k3 : PySem.W.keepIn K (.ref f3) = true)
    (a4 : PySem.W.nsIn K mainGlobals "_law_whole" = some (some (.ref f4)))
    (l4 : K.lookup f4 = some ⟨oc4, od4, .func (PySem.W.fnOf "_law_whole" "_law_whole" (defArgs st__law_whole) (defBody st__law_whole) (defScope st__law_whole) .none kV4 dc4 pm4 an4 cd4 ct4), sl4⟩)
    (c4 : PySem.W.codeIn K cd4 "_law_whole" = true)
    (k4 : PySem.W.keepIn K (.ref f4) = true)
    (a5 : PySem.W.nsIn K mainGlobals "_law_block" = some (some (.ref f5)))
    (l5 : K.lookup f5 = some ⟨oc5, od5, .func (PySem.W.fnOf "_law_block" "_law_block" (defArgs st__law_block) (defBody st__law_block) (defScope st__law_block) .none kV5 dc5 pm5 an5 cd5 ct5), sl5⟩)
    (c5 : PySem.W.codeIn K cd5 "_law_block" = true)
    (k5 : PySem.W.keepIn K (.ref f5) = true)
    (a6 : PySem.W.nsIn K mainGlobals "_law_mixed" = some (some (.ref f6)))
    (l6 : K.lookup f6 = some ⟨oc6, od6, .func (PySem.W.fnOf "_law_mixed" "_law_mixed" (defArgs st__law_mixed) (defBody st__law_mixed) (defScope st__law_mixed) .none kV6 dc6 pm6 an6 cd6 ct6), sl6⟩)
    (c6 : PySem.W.codeIn K cd6 "_law_mixed" = true)
    (k6 : PySem.W.keepIn K (.ref f6) = true)
    (a7 : PySem.W.nsIn K mainGlobals "_law_any" = some (some (.ref f7)))
    (l7 : K.lookup f7 = some ⟨oc7, od7, .func (PySem.W.fnOf "_law_any" "_law_any" (defArgs st__law_any) (defBody st__law_any) (defScope st__law_any) .none kV7 dc7 pm7 an7 cd7 ct7), sl7⟩)
    (c7 : PySem.W.codeIn K cd7 "_law_any" = true)
    (k7 : PySem.W.keepIn K (.ref f7) = true)
    (a8 : PySem.W.nsIn K mainGlobals "_law_come_to" = some (some (.ref f8)))
    (l8 : K.lookup f8 = some ⟨oc8, od8, .func (PySem.W.fnOf "_law_come_to" "_law_come_to" (defArgs st__law_come_to) (defBody st__law_come_to) (defScope st__law_come_to) .none kV8 dc8 pm8 an8 cd8 ct8), sl8⟩)
    (c8 : PySem.W.codeIn K cd8 "_law_come_to" = true)
    (k8 : PySem.W.keepIn K (.ref f8) = true)
    (a9 : PySem.W.nsIn K mainGlobals "_law_fits" = some (some (.ref f9)))
    (l9 : K.lookup f9 = some ⟨oc9, od9, .func (PySem.W.fnOf "_law_fits" "_law_fits" (defArgs st__law_fits) (defBody st__law_fits) (defScope st__law_fits) .none kV9 dc9 pm9 an9 cd9 ct9), sl9⟩)
    (c9 : PySem.W.codeIn K cd9 "_law_fits" = true)
    (k9 : PySem.W.keepIn K (.ref f9) = true)
    (a10 : PySem.W.nsIn K mainGlobals "law" = some (some (.ref f10)))
    (l10 : K.lookup f10 = some ⟨oc10, od10, .func (PySem.W.fnOf "law" "law" (defArgs st_law) (defBody st_law) (defScope st_law) .none kV10 dc10 pm10 an10 cd10 ct10), sl10⟩)
    (c10 : PySem.W.codeIn K cd10 "law" = true)
    (k10 : PySem.W.keepIn K (.ref f10) = true)
    (z_bool : PySem.W.nsIn K mainGlobals "bool" = some none)
    (z_int : PySem.W.nsIn K mainGlobals "int" = some none)
    (z_isinstance : PySem.W.nsIn K mainGlobals "isinstance" = some none)
    (z_len : PySem.W.nsIn K mainGlobals "len" = some none)
    (z_list : PySem.W.nsIn K mainGlobals "list" = some none)
    (z_min : PySem.W.nsIn K mainGlobals "min" = some none)
    (z_range : PySem.W.nsIn K mainGlobals "range" = some none)
    (z_sorted : PySem.W.nsIn K mainGlobals "sorted" = some none)
    (z_tuple : PySem.W.nsIn K mainGlobals "tuple" = some none) :
    ∃ fd : FuncData, (∀ (s : Shared) (v : Value), BindsTo s fd ⟨[v], []⟩ [("_law_script", v)]) ∧ ∀ base : Heap, K.In base → base.Ns mainGlobals mg → FnOk l.prog w K mg base CX0 4 fa fd ["_law_script"] (spL K) := by
  have e := hfa.symm.trans (PySem.W.mg_of X G a10)
  cases e
  have F0 := fun_mk (st := st_ties) l0 c0 k0
  have F1 := fun_mk (st := st_come_to) l1 c1 k1
  have F2 := fun_mk (st := st_hangs) l2 c2 k2
  have F3 := fun_mk (st := st__law_cell_at) l3 c3 k3
  have F4 := fun_mk (st := st__law_whole) l4 c4 k4
  have F5 := fun_mk (st := st__law_block) l5 c5 k5
  have F6 := fun_mk (st := st__law_mixed) l6 c6 k6
  have F7 := fun_mk (st := st__law_any) l7 c7 k7
  have F8 := fun_mk (st := st__law_come_to) l8 c8 k8
  have F9 := fun_mk (st := st__law_fits) l9 c9 k9
  have F10 := fun_mk (st := st_law) l10 c10 k10
  have T : Txt K mg (fun i => match i with | 0 => f0 | 1 => f1 | 2 => f2 | 3 => f3 | 4 => f4 | 5 => f5 | 6 => f6 | 7 => f7 | 8 => f8 | 9 => f9 | 10 => fa | _ => 0) (fun i => match i with | 0 => PySem.W.fnOf "ties" "ties" (defArgs st_ties) (defBody st_ties) (defScope st_ties) .none kV0 dc0 pm0 an0 cd0 ct0 | 1 => PySem.W.fnOf "come_to" "come_to" (defArgs st_come_to) (defBody st_come_to) (defScope st_come_to) .none kV1 dc1 pm1 an1 cd1 ct1 | 2 => PySem.W.fnOf "hangs" "hangs" (defArgs st_hangs) (defBody st_hangs) (defScope st_hangs) .none kV2 dc2 pm2 an2 cd2 ct2 | 3 => PySem.W.fnOf "_law_cell_at" "_law_cell_at" (defArgs st__law_cell_at) (defBody st__law_cell_at) (defScope st__law_cell_at) .none kV3 dc3 pm3 an3 cd3 ct3 | 4 => PySem.W.fnOf "_law_whole" "_law_whole" (defArgs st__law_whole) (defBody st__law_whole) (defScope st__law_whole) .none kV4 dc4 pm4 an4 cd4 ct4 | 5 => PySem.W.fnOf "_law_block" "_law_block" (defArgs st__law_block) (defBody st__law_block) (defScope st__law_block) .none kV5 dc5 pm5 an5 cd5 ct5 | 6 => PySem.W.fnOf "_law_mixed" "_law_mixed" (defArgs st__law_mixed) (defBody st__law_mixed) (defScope st__law_mixed) .none kV6 dc6 pm6 an6 cd6 ct6 | 7 => PySem.W.fnOf "_law_any" "_law_any" (defArgs st__law_any) (defBody st__law_any) (defScope st__law_any) .none kV7 dc7 pm7 an7 cd7 ct7 | 8 => PySem.W.fnOf "_law_come_to" "_law_come_to" (defArgs st__law_come_to) (defBody st__law_come_to) (defScope st__law_come_to) .none kV8 dc8 pm8 an8 cd8 ct8 | 9 => PySem.W.fnOf "_law_fits" "_law_fits" (defArgs st__law_fits) (defBody st__law_fits) (defScope st__law_fits) .none kV9 dc9 pm9 an9 cd9 ct9 | 10 => PySem.W.fnOf "law" "law" (defArgs st_law) (defBody st_law) (defScope st_law) .none kV10 dc10 pm10 an10 cd10 ct10 | _ => PySem.W.fnOf "law" "law" (defArgs st_law) (defBody st_law) (defScope st_law) .none kV10 dc10 pm10 an10 cd10 ct10) (YY (fun i => match i with  | _ => 0)) :=
    { f_ties := F0
      g_ties := PySem.W.mg_of X G a0
      b_ties := F0.binds (ps := ["orders"]) fun _ _ _ _ _ _ us hl => match us, hl with | [_], _ => rfl
      f_come_to := F1
      g_come_to := PySem.W.mg_of X G a1
      b_come_to := F1.binds (ps := ["orders", "start", "gone"]) fun _ _ _ _ _ _ us hl => match us, hl with | [_, _, _], _ => rfl
      f_hangs := F2
      g_hangs := PySem.W.mg_of X G a2
      b_hangs := F2.binds (ps := ["orders"]) fun _ _ _ _ _ _ us hl => match us, hl with | [_], _ => rfl
      f__law_cell_at := F3
      g__law_cell_at := PySem.W.mg_of X G a3
      b__law_cell_at := F3.binds (ps := ["_law_script", "_law_k"]) fun _ _ _ _ _ _ us hl => match us, hl with | [_, _], _ => rfl
      f__law_whole := F4
      g__law_whole := PySem.W.mg_of X G a4
      b__law_whole := F4.binds (ps := ["_law_found"]) fun _ _ _ _ _ _ us hl => match us, hl with | [_], _ => rfl
      f__law_block := F5
      g__law_block := PySem.W.mg_of X G a5
      b__law_block := F5.binds (ps := ["_law_script", "_law_k"]) fun _ _ _ _ _ _ us hl => match us, hl with | [_, _], _ => rfl
      f__law_mixed := F6
      g__law_mixed := PySem.W.mg_of X G a6
      b__law_mixed := F6.binds (ps := ["_law_script", "_law_k"]) fun _ _ _ _ _ _ us hl => match us, hl with | [_, _], _ => rfl
      f__law_any := F7
      g__law_any := PySem.W.mg_of X G a7
      b__law_any := F7.binds (ps := ["_law_script", "_law_start", "_law_many"]) fun _ _ _ _ _ _ us hl => match us, hl with | [_, _, _], _ => rfl
      f__law_come_to := F8
      g__law_come_to := PySem.W.mg_of X G a8
      b__law_come_to := F8.binds (ps := ["_law_orders"]) fun _ _ _ _ _ _ us hl => match us, hl with | [_], _ => rfl
      f__law_fits := F9
      g__law_fits := PySem.W.mg_of X G a9
      b__law_fits := F9.binds (ps := ["_law_found", "_law_orders"]) fun _ _ _ _ _ _ us hl => match us, hl with | [_, _], _ => rfl
      f_law := F10
      g_law := PySem.W.mg_of X G a10
      b_law := F10.binds (ps := ["_law_script"]) fun _ _ _ _ _ _ us hl => match us, hl with | [_], _ => rfl
      m_bool := PySem.W.mg_none_of X G z_bool
      m_int := PySem.W.mg_none_of X G z_int
      m_isinstance := PySem.W.mg_none_of X G z_isinstance
      m_len := PySem.W.mg_none_of X G z_len
      m_list := PySem.W.mg_none_of X G z_list
      m_min := PySem.W.mg_none_of X G z_min
      m_range := PySem.W.mg_none_of X G z_range
      m_sorted := PySem.W.mg_none_of X G z_sorted
      m_tuple := PySem.W.mg_none_of X G z_tuple }
  exact ⟨PySem.W.fnOf "law" "law" (defArgs st_law) (defBody st_law) (defScope st_law) .none kV10 dc10 pm10 an10 cd10 ct10, fun s v => .of_eq rfl, fun base _ _ => (ok_law (P := l.prog) (w := w) (base := base) T).imp fun vs H Q E h => hsp h⟩

end Ow.k12
end
section
open PySem PySem.W PyProof.Rows in
set_option maxRecDepth 100000 in
set_option maxHeartbeats 0 in
theorem PySem.Challenge.cw_standup_k12_ties_and_hanging_holds : PySem.Challenge.rw_standup_k12_ties_and_hanging.Holds := by
  w_on; o_law; k_head; (case hw => w_witness2)
  k_fill
  refine L2.walk_of (l := PySem.Challenge.rw_standup_k12_ties_and_hanging) (n := 63) (k := 4) (x := "_law_script") (CX := fun _ => L2.CX0) (sp := fun w => Ow.k12.spL _) rfl (by decide) rfl ⟨rfl, by decide, by decide⟩ (fun w h Y => PySem.W.kIn_of Y) ?F (fun _ _ a ns hl _ hS => ⟨a, ns, rfl, hS, hl, fun _ => rfl⟩) (fun _ _ _ _ _ h => h)
  case F =>
    intro w mg fa h KX G hmg
    refine' Ow.k12.all_mk KX G hmg ?a0 ?l0 ?c0 ?k0 ?a1 ?l1 ?c1 ?k1 ?a2 ?l2 ?c2 ?k2 ?a3 ?l3 ?c3 ?k3 ?a4 ?l4 ?c4 ?k4 ?a5 ?l5 ?c5 ?k5 ?a6 ?l6 ?c6 ?k6 ?a7 ?l7 ?c7 ?k7 ?a8 ?l8 ?c8 ?k8 ?a9 ?l9 ?c9 ?k9 ?a10 ?l10 ?c10 ?k10 ?z_bool ?z_int ?z_isinstance ?z_len ?z_list ?z_min ?z_range ?z_sorted ?z_tuple
    (case a0 => first | k_is | kit_is | (with_unfolding_all rfl))
    (case l0 => first | k_is | kit_is | (with_unfolding_all rfl))
    (case c0 => first | k_is | kit_is | (with_unfolding_all rfl))
    (case k0 => first | k_is | kit_is | (with_unfolding_all rfl))
    (case a1 => first | k_is | kit_is | (with_unfolding_all rfl))
    (case l1 => first | k_is | kit_is | (with_unfolding_all rfl))
    (case c1 => first | k_is | kit_is | (with_unfolding_all rfl))
    (case k1 => first | k_is | kit_is | (with_unfolding_all rfl))
    (case a2 => first | k_is | kit_is | (with_unfolding_all rfl))
    (case l2 => first | k_is | kit_is | (with_unfolding_all rfl))
    (case c2 => first | k_is | kit_is | (with_unfolding_all rfl))
    (case k2 => first | k_is | kit_is | (with_unfolding_all rfl))
    (case a3 => first | k_is | kit_is | (with_unfolding_all rfl))
    (case l3 => first | k_is | kit_is | (with_unfolding_all rfl))
    (case c3 => first | k_is | kit_is | (with_unfolding_all rfl))
    (case k3 => first | k_is | kit_is | (with_unfolding_all rfl))
    (case a4 => first | k_is | kit_is | (with_unfolding_all rfl))
    (case l4 => first | k_is | kit_is | (with_unfolding_all rfl))
    (case c4 => first | k_is | kit_is | (with_unfolding_all rfl))
    (case k4 => first | k_is | kit_is | (with_unfolding_all rfl))
    (case a5 => first | k_is | kit_is | (with_unfolding_all rfl))
    (case l5 => first | k_is | kit_is | (with_unfolding_all rfl))
    (case c5 => first | k_is | kit_is | (with_unfolding_all rfl))
    (case k5 => first | k_is | kit_is | (with_unfolding_all rfl))
    (case a6 => first | k_is | kit_is | (with_unfolding_all rfl))
    (case l6 => first | k_is | kit_is | (with_unfolding_all rfl))
    (case c6 => first | k_is | kit_is | (with_unfolding_all rfl))
    (case k6 => first | k_is | kit_is | (with_unfolding_all rfl))
    (case a7 => first | k_is | kit_is | (with_unfolding_all rfl))
    (case l7 => first | k_is | kit_is | (with_unfolding_all rfl))
    (case c7 => first | k_is | kit_is | (with_unfolding_all rfl))
    (case k7 => first | k_is | kit_is | (with_unfolding_all rfl))
    (case a8 => first | k_is | kit_is | (with_unfolding_all rfl))
    (case l8 => first | k_is | kit_is | (with_unfolding_all rfl))
    (case c8 => first | k_is | kit_is | (with_unfolding_all rfl))
    (case k8 => first | k_is | kit_is | (with_unfolding_all rfl))
    (case a9 => first | k_is | kit_is | (with_unfolding_all rfl))
    (case l9 => first | k_is | kit_is | (with_unfolding_all rfl))
    (case c9 => first | k_is | kit_is | (with_unfolding_all rfl))
    (case k9 => first | k_is | kit_is | (with_unfolding_all rfl))
    (case a10 => first | k_is | kit_is | (with_unfolding_all rfl))
    (case l10 => first | k_is | kit_is | (with_unfolding_all rfl))
    (case c10 => first | k_is | kit_is | (with_unfolding_all rfl))
    (case k10 => first | k_is | kit_is | (with_unfolding_all rfl))
    (case z_bool => first | k_is | kit_is | (with_unfolding_all rfl))
    (case z_int => first | k_is | kit_is | (with_unfolding_all rfl))
    (case z_isinstance => first | k_is | kit_is | (with_unfolding_all rfl))
    (case z_len => first | k_is | kit_is | (with_unfolding_all rfl))
    (case z_list => first | k_is | kit_is | (with_unfolding_all rfl))
    (case z_min => first | k_is | kit_is | (with_unfolding_all rfl))
    (case z_range => first | k_is | kit_is | (with_unfolding_all rfl))
    (case z_sorted => first | k_is | kit_is | (with_unfolding_all rfl))
    (case z_tuple => first | k_is | kit_is | (with_unfolding_all rfl))
end
