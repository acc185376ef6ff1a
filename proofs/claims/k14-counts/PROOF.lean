import PyProof.Rows.All
import Wide.All
import OpenK.AllK
import Wide.FinOn
import HandS.ForMost
import HandS.Exc
import HandS.Wide
import HandS.Deep
import HandS.CallSlots
import HandS.IsInst
import HandS.TupAny
import HandS.ExcOwn
import HandS.WordsExc
import HandS.Ends
import KE.KExcIs
import HandS.Iter
import HandS.Comp
import HandS.Zip
import HandS.More
import HandS.SetFor
import HandS.SortInts
import HandS.WordsDict
import HandS.Small
import KE.DataMinMax
import KE.SortCalls
import HandS.Conv
import HandS.TupLen
import HandS.Rev
import PySem.Challenge.RW_standup_k14_counts
set_option Elab.async false
set_option linter.all false
set_option exponentiation.threshold 100000
section
set_option linter.all false
set_option maxRecDepth 100000
/-! Ow1: plain data, results, and how data lies in the layer's heap. -/
namespace Ow
open PySem L2

/-- plain data -/
inductive D where
  | non | bl (b : Bool) | int (i : Int) | str (x : Str) | tup (xs : List D) | lst (xs : List D) | scr (ns : List Int)
  | dI (kvs : List (Int × D)) | dT (kvs : List (List Int × D)) | exc (c : Nat) (xs : List D)

/-- an error: its class's number, what it keeps -/
structure Err where
  c : Nat
  xs : List D
/-- what a piece of code comes to -/
inductive Res (α : Type) where
  | ok (a : α) | exc (e : Err) | stuck
def Res.bind {α β : Type} : Res α → (α → Res β) → Res β
  | .ok a, f => f a
  | .exc e, _ => .exc e
  | .stuck, _ => .stuck
instance : Monad Res where
  pure := .ok
  bind := Res.bind
@[simp] theorem ok_bind {α β : Type} (a : α) (f : α → Res β) : (Res.ok a >>= f) = f a := rfl
@[simp] theorem exc_bind {α β : Type} (e : Err) (f : α → Res β) : ((Res.exc e : Res α) >>= f) = .exc e := rfl
@[simp] theorem stuck_bind {α β : Type} (f : α → Res β) : ((Res.stuck : Res α) >>= f) = .stuck := rfl
@[simp] theorem pure_ok {α : Type} (a : α) : (pure a : Res α) = .ok a := rfl

mutual
def pureD : D → Bool
  | .non => true
  | .bl _ => true
  | .int _ => true
  | .str _ => true
  | .tup xs => pureDs xs
  | .exc _ xs => pureDs xs
  | .lst _ => false
  | .scr _ => false
  | .dI _ => false
  | .dT _ => false
def pureDs : List D → Bool
  | [] => true
  | d :: ds => pureD d && pureDs ds
end

theorem pureD_tup (xs : List D) : pureD (.tup xs) = pureDs xs := by rw [pureD]
theorem pureD_exc (c : Nat) (xs : List D) : pureD (.exc c xs) = pureDs xs := by rw [pureD]
theorem pureD_lst (xs : List D) : pureD (.lst xs) = false := by rw [pureD]
theorem pureD_scr (xs : List Int) : pureD (.scr xs) = false := by rw [pureD]
theorem pureD_dI (xs : List (Int × D)) : pureD (.dI xs) = false := by rw [pureD]
theorem pureD_dT (xs : List (List Int × D)) : pureD (.dT xs) = false := by rw [pureD]
theorem pureD_int (i : Int) : pureD (.int i) = true := by rw [pureD]
theorem pureD_bl (i : Bool) : pureD (.bl i) = true := by rw [pureD]
theorem pureD_non : pureD .non = true := by rw [pureD]
theorem pureD_str (x : Str) : pureD (.str x) = true := by rw [pureD]
theorem pureDs_nil : pureDs [] = true := by rw [pureDs]
theorem pureDs_cons (d : D) (ds : List D) : pureDs (d :: ds) = (pureD d && pureDs ds) := by rw [pureDs]

/-- the classes' places, and the name of what each keeps -/
structure Cl where
  at_ : Nat → Addr
  fld : Nat → Str

/-- an exception object that is held as a value -/
def ExV (cls : Value) (d : Option Addr) (a : Addr) : HO := .ext fun h => ∃ (oe : Obj) (vs : Array Value), h.get? a = some oe ∧ Zc cls d oe ∧ oe.data = .fields vs

/-! ### data in a heap -/
section
variable (K : PySem.W.Frag) (Y : Cl)
mutual
inductive Rep (H : Hp) : V → D → Prop
  | non : Rep H .non .non
  | bl {b : Bool} : Rep H (.bl b) (.bl b)
  | int {i : Int} : Rep H (.int i) (.int i)
  | str {x : Str} : Rep H (.str x) (.str x)
  | tup {p : Addr} {vs : List V} {ds : List D} : SqT K H p vs → Reps H vs ds → Rep H (.ref p) (.tup ds)
  | lst {p : Addr} {vs : List V} {ds : List D} : H p = some (.lst vs) → Reps H vs ds → Rep H (.ref p) (.lst ds)
  | scr {p : Addr} {ns : List Int} : SqL K H p (ns.map V.int) → Rep H (.ref p) (.scr ns)
  | dI {p : Addr} {kvs : List (Key × V)} {ds : List (Int × D)} : H p = some (.dK kvs) → RepI H kvs ds → Rep H (.ref p) (.dI ds)
  | dT {p : Addr} {kvs : List (List Key × V)} {ds : List (List Int × D)} : H p = some (.dT kvs) → RepT H kvs ds → Rep H (.ref p) (.dT ds)
  | exc0 {a : Addr} {c : Nat} : H a = some (ExV (.ref (Y.at_ c)) none a) → Rep H (.ref a) (.exc c [])
  | exc1 {a dd : Addr} {c : Nat} {v : V} {d : D} : H a = some (ExV (.ref (Y.at_ c)) (some dd) a) → H dd = some (.xd [(Y.fld c, v)]) → Rep H v d → Rep H (.ref a) (.exc c [d])
inductive Reps (H : Hp) : List V → List D → Prop
  | nil : Reps H [] []
  | cons {v : V} {d : D} {vs : List V} {ds : List D} : Rep H v d → Reps H vs ds → Reps H (v :: vs) (d :: ds)
inductive RepI (H : Hp) : List (Key × V) → List (Int × D) → Prop
  | nil : RepI H [] []
  | cons {i : Int} {v : V} {d : D} {kvs : List (Key × V)} {ds : List (Int × D)} : Rep H v d → pureD d = true → RepI H kvs ds → RepI H ((.inl i, v) :: kvs) ((i, d) :: ds)
inductive RepT (H : Hp) : List (List Key × V) → List (List Int × D) → Prop
  | nil : RepT H [] []
  | cons {is : List Int} {v : V} {d : D} {kvs : List (List Key × V)} {ds : List (List Int × D)} : Rep H v d → pureD d = true → RepT H kvs ds → RepT H ((is.map .inl, v) :: kvs) ((is, d) :: ds)
end
end

section
variable {K : PySem.W.Frag} {Y : Cl} {H H' : Hp}

theorem Same.sqT {a : Addr} {xs : List V} (e : Same H H') (h : SqT K H a xs) : SqT K H' a xs := by
  rcases h with (h | ⟨o, h⟩) | h
  · exact .inl (.inl (e _ _ h))
  · exact .inl (.inr ⟨o, e _ _ h⟩)
  · exact .inr h

mutual
theorem Rep.mono (e : Same H H') : ∀ {v : V} {d : D}, Rep K Y H v d → Rep K Y H' v d
  | _, _, .non => .non
  | _, _, .bl => .bl
  | _, _, .int => .int
  | _, _, .str => .str
  | _, _, .tup h r => .tup (Same.sqT e h) (Reps.mono e r)
  | _, _, .lst h r => .lst (e _ _ h) (Reps.mono e r)
  | _, _, .scr h => .scr (e.seq h)
  | _, _, .dI h r => .dI (e _ _ h) (RepI.mono e r)
  | _, _, .dT h r => .dT (e _ _ h) (RepT.mono e r)
  | _, _, .exc0 h => .exc0 (e _ _ h)
  | _, _, .exc1 h1 h2 r => .exc1 (e _ _ h1) (e _ _ h2) (Rep.mono e r)
theorem Reps.mono (e : Same H H') : ∀ {vs : List V} {ds : List D}, Reps K Y H vs ds → Reps K Y H' vs ds
  | _, _, .nil => .nil
  | _, _, .cons h r => .cons (Rep.mono e h) (Reps.mono e r)
theorem RepI.mono (e : Same H H') : ∀ {vs : List (Key × V)} {ds : List (Int × D)}, RepI K Y H vs ds → RepI K Y H' vs ds
  | _, _, .nil => .nil
  | _, _, .cons h p r => .cons (Rep.mono e h) p (RepI.mono e r)
theorem RepT.mono (e : Same H H') : ∀ {vs : List (List Key × V)} {ds : List (List Int × D)}, RepT K Y H vs ds → RepT K Y H' vs ds
  | _, _, .nil => .nil
  | _, _, .cons h p r => .cons (Rep.mono e h) p (RepT.mono e r)
end

theorem Reps.length : ∀ {vs : List V} {ds : List D}, Reps K Y H vs ds → vs.length = ds.length
  | _, _, .nil => rfl
  | _, _, .cons _ r => congrArg (· + 1) (Reps.length r)
theorem Reps.get : ∀ {vs : List V} {ds : List D} {i : Nat} {d : D}, Reps K Y H vs ds → ds[i]? = some d → ∃ v, vs[i]? = some v ∧ Rep K Y H v d
  | _, _, i, _, .nil, e => by simp at e
  | v :: _, _, 0, d, .cons h _, e => by
    have e' := Option.some.inj e
    subst e'
    exact ⟨v, rfl, h⟩
  | _, _, i + 1, d, .cons _ r, e => Reps.get (i := i) r e
theorem Reps.append : ∀ {vs ws : List V} {ds es : List D}, Reps K Y H vs ds → Reps K Y H ws es → Reps K Y H (vs ++ ws) (ds ++ es)
  | _, _, _, _, .nil, s => s
  | _, _, _, _, .cons h r, s => .cons h (Reps.append r s)
theorem Reps.take : ∀ (n : Nat) {vs : List V} {ds : List D}, Reps K Y H vs ds → Reps K Y H (vs.take n) (ds.take n)
  | 0, _, _, _ => .nil
  | _ + 1, _, _, .nil => .nil
  | n + 1, _, _, .cons h r => .cons h (Reps.take n r)
theorem Reps.drop : ∀ (n : Nat) {vs : List V} {ds : List D}, Reps K Y H vs ds → Reps K Y H (vs.drop n) (ds.drop n)
  | 0, _, _, r => r
  | _ + 1, _, _, .nil => .nil
  | n + 1, _, _, .cons _ r => Reps.drop n r
theorem Reps.set {v : V} {d : D} (h0 : Rep K Y H v d) : ∀ (i : Nat) {vs : List V} {ds : List D}, Reps K Y H vs ds → Reps K Y H (vs.set i v) (ds.set i d)
  | _, _, _, .nil => .nil
  | 0, _, _, .cons _ r => .cons h0 r
  | i + 1, _, _, .cons h r => .cons h (Reps.set h0 i r)
theorem Reps.eraseIdx : ∀ (i : Nat) {vs : List V} {ds : List D}, Reps K Y H vs ds → Reps K Y H (vs.eraseIdx i) (ds.eraseIdx i)
  | _, _, _, .nil => .nil
  | 0, _, _, .cons _ r => r
  | i + 1, _, _, .cons h r => .cons h (Reps.eraseIdx i r)
theorem Reps.insertIdx {v : V} {d : D} (h0 : Rep K Y H v d) : ∀ (i : Nat) {vs : List V} {ds : List D}, Reps K Y H vs ds → Reps K Y H (vs.insertIdx i v) (ds.insertIdx i d)
  | 0, _, _, r => .cons h0 r
  | i + 1, _, _, .nil => .nil
  | i + 1, _, _, .cons h r => .cons h (Reps.insertIdx h0 i r)
theorem Reps.reverse : ∀ {vs : List V} {ds : List D}, Reps K Y H vs ds → Reps K Y H vs.reverse ds.reverse
  | _, _, .nil => .nil
  | _, _, .cons h r => by
    rw [List.reverse_cons, List.reverse_cons]
    exact (Reps.reverse r).append (.cons h .nil)
theorem Reps.ints : ∀ {vs : List V} (ns : List Int), Reps K Y H vs (ns.map D.int) → vs = ns.map V.int
  | _, [], .nil => rfl
  | _, _ :: ns, .cons .int r => by
    rw [Reps.ints ns r]
    rfl
theorem Reps.of_ints : ∀ (ns : List Int), Reps K Y H (ns.map V.int) (ns.map D.int)
  | [] => .nil
  | _ :: ns => .cons .int (Reps.of_ints ns)

/-! ### what never changes: all but lists, dicts, sets, instances -/
def fixO : HO → Bool
  | .lst _ => false
  | .dK _ => false
  | .dT _ => false
  | .set _ _ => false
  | .ins _ _ _ => false
  | _ => true
/-- what never changes is kept -/
def Fix (H H' : Hp) : Prop := ∀ a o, H a = some o → fixO o = true → H' a = some o
theorem Same.fix (e : Same H H') : Fix H H' := fun a o h _ => e a o h
theorem Fix.sqT {a : Addr} {xs : List V} (e : Fix H H') (h : SqT K H a xs) : SqT K H' a xs := by
  rcases h with (h | ⟨o, h⟩) | h
  · exact .inl (.inl (e _ _ h rfl))
  · exact .inl (.inr ⟨o, e _ _ h rfl⟩)
  · exact .inr h
mutual
theorem Rep.fix (e : Fix H H') : ∀ {v : V} {d : D}, Rep K Y H v d → pureD d = true → Rep K Y H' v d
  | _, _, .non, _ => .non
  | _, _, .bl, _ => .bl
  | _, _, .int, _ => .int
  | _, _, .str, _ => .str
  | _, _, .tup h r, p => .tup (e.sqT h) (Reps.fix e r (by rw [pureD_tup] at p; exact p))
  | _, _, .lst _ _, p => by rw [pureD_lst] at p; cases p
  | _, _, .scr _, p => by rw [pureD_scr] at p; cases p
  | _, _, .dI _ _, p => by rw [pureD_dI] at p; cases p
  | _, _, .dT _ _, p => by rw [pureD_dT] at p; cases p
  | _, _, .exc0 h, _ => .exc0 (e _ _ h rfl)
  | _, _, .exc1 h1 h2 r, p => .exc1 (e _ _ h1 rfl) (e _ _ h2 rfl) (Rep.fix e r (by rw [pureD_exc, pureDs_cons] at p; exact (Bool.and_eq_true_iff.mp p).1))
theorem Reps.fix (e : Fix H H') : ∀ {vs : List V} {ds : List D}, Reps K Y H vs ds → pureDs ds = true → Reps K Y H' vs ds
  | _, _, .nil, _ => .nil
  | _, _, .cons h r, p => by
    rw [pureDs_cons] at p
    have q := Bool.and_eq_true_iff.mp p
    exact .cons (Rep.fix e h q.1) (Reps.fix e r q.2)
end
theorem RepI.fix (e : Fix H H') : ∀ {vs : List (Key × V)} {ds : List (Int × D)}, RepI K Y H vs ds → RepI K Y H' vs ds
  | _, _, .nil => .nil
  | _, _, .cons h p r => .cons (Rep.fix e h p) p (RepI.fix e r)
theorem RepT.fix (e : Fix H H') : ∀ {vs : List (List Key × V)} {ds : List (List Int × D)}, RepT K Y H vs ds → RepT K Y H' vs ds
  | _, _, .nil => .nil
  | _, _, .cons h p r => .cons (Rep.fix e h p) p (RepT.fix e r)
end

/-! ### data that a slot owns: the lists' and dicts' places, each once -/
section
variable (K : PySem.W.Frag) (Y : Cl)
mutual
inductive Own (H : Hp) : V → D → List Addr → Prop
  | pur {v : V} {d : D} : pureD d = true → Rep K Y H v d → Own H v d []
  | tup {p : Addr} {vs : List V} {ds : List D} {fp : List Addr} : SqT K H p vs → Owns H vs ds fp → Own H (.ref p) (.tup ds) fp
  | lst {p : Addr} {vs : List V} {ds : List D} {fp : List Addr} : H p = some (.lst vs) → Owns H vs ds fp → Own H (.ref p) (.lst ds) (p :: fp)
  | dI {p : Addr} {kvs : List (Key × V)} {ds : List (Int × D)} : H p = some (.dK kvs) → RepI K Y H kvs ds → Own H (.ref p) (.dI ds) [p]
  | dT {p : Addr} {kvs : List (List Key × V)} {ds : List (List Int × D)} : H p = some (.dT kvs) → RepT K Y H kvs ds → Own H (.ref p) (.dT ds) [p]
inductive Owns (H : Hp) : List V → List D → List Addr → Prop
  | nil : Owns H [] [] []
  | cons {v : V} {d : D} {vs : List V} {ds : List D} {f g : List Addr} : Own H v d f → Owns H vs ds g → Owns H (v :: vs) (d :: ds) (f ++ g)
end
end
section
variable {K : PySem.W.Frag} {Y : Cl} {H H' : Hp}
mutual
theorem Own.rep : ∀ {v : V} {d : D} {fp : List Addr}, Own K Y H v d fp → Rep K Y H v d
  | _, _, _, .pur _ r => r
  | _, _, _, .tup h r => .tup h (Owns.reps r)
  | _, _, _, .lst h r => .lst h (Owns.reps r)
  | _, _, _, .dI h r => .dI h r
  | _, _, _, .dT h r => .dT h r
theorem Owns.reps : ∀ {vs : List V} {ds : List D} {fp : List Addr}, Owns K Y H vs ds fp → Reps K Y H vs ds
  | _, _, _, .nil => .nil
  | _, _, _, .cons h r => .cons (Own.rep h) (Owns.reps r)
end
mutual
theorem Own.there : ∀ {v : V} {d : D} {fp : List Addr}, Own K Y H v d fp → ∀ p ∈ fp, ∃ o, H p = some o ∧ fixO o = false
  | _, _, _, .pur _ _, p, hp => by cases hp
  | _, _, _, .tup _ r, p, hp => Owns.there r p hp
  | _, _, _, .lst h r, p, hp => by
    rcases List.mem_cons.mp hp with rfl | hp
    · exact ⟨_, h, rfl⟩
    · exact Owns.there r p hp
  | _, _, _, .dI h _, p, hp => by
    have e := List.mem_singleton.mp hp
    subst e
    exact ⟨_, h, rfl⟩
  | _, _, _, .dT h _, p, hp => by
    have e := List.mem_singleton.mp hp
    subst e
    exact ⟨_, h, rfl⟩
theorem Owns.there : ∀ {vs : List V} {ds : List D} {fp : List Addr}, Owns K Y H vs ds fp → ∀ p ∈ fp, ∃ o, H p = some o ∧ fixO o = false
  | _, _, _, .nil, p, hp => by cases hp
  | _, _, _, .cons h r, p, hp => by
    rcases List.mem_append.mp hp with hp | hp
    · exact Own.there h p hp
    · exact Owns.there r p hp
end
mutual
theorem Own.frame (e : Fix H H') : ∀ {v : V} {d : D} {fp : List Addr}, Own K Y H v d fp → (∀ p ∈ fp, H' p = H p) → Own K Y H' v d fp
  | _, _, _, .pur p r, _ => .pur p (Rep.fix e r p)
  | _, _, _, .tup h r, k => .tup (e.sqT h) (Owns.frame e r k)
  | _, _, _, .lst h r, k => .lst ((k _ List.mem_cons_self).trans h) (Owns.frame e r fun p hp => k p (List.mem_cons_of_mem _ hp))
  | _, _, _, .dI h r, k => .dI ((k _ List.mem_cons_self).trans h) (RepI.fix e r)
  | _, _, _, .dT h r, k => .dT ((k _ List.mem_cons_self).trans h) (RepT.fix e r)
theorem Owns.frame (e : Fix H H') : ∀ {vs : List V} {ds : List D} {fp : List Addr}, Owns K Y H vs ds fp → (∀ p ∈ fp, H' p = H p) → Owns K Y H' vs ds fp
  | _, _, _, .nil, _ => .nil
  | _, _, _, .cons h r, k => .cons (Own.frame e h fun p hp => k p (List.mem_append_left _ hp)) (Owns.frame e r fun p hp => k p (List.mem_append_right _ hp))
end
theorem Own.mono (e : Same H H') {v : V} {d : D} {fp : List Addr} (h : Own K Y H v d fp) : Own K Y H' v d fp := h.frame (Same.fix e) fun p hp => by
  obtain ⟨o, ho, _⟩ := h.there p hp
  rw [ho, e p o ho]
theorem Owns.mono (e : Same H H') {v : List V} {d : List D} {fp : List Addr} (h : Owns K Y H v d fp) : Owns K Y H' v d fp := h.frame (Same.fix e) fun p hp => by
  obtain ⟨o, ho, _⟩ := h.there p hp
  rw [ho, e p o ho]
theorem Owns.append : ∀ {vs ws : List V} {ds es : List D} {f g : List Addr}, Owns K Y H vs ds f → Owns K Y H ws es g → Owns K Y H (vs ++ ws) (ds ++ es) (f ++ g)
  | _, _, _, _, _, _, .nil, s => s
  | _, _, _, _, _, _, .cons h r, s => by
    rw [List.append_assoc]
    exact .cons h (Owns.append r s)
theorem Owns.one {v : V} {d : D} {f : List Addr} (h : Own K Y H v d f) : Owns K Y H [v] [d] f := by
  have := Owns.cons h .nil
  rwa [List.append_nil] at this
theorem Owns.pur : ∀ {vs : List V} {ds : List D}, Reps K Y H vs ds → pureDs ds = true → Owns K Y H vs ds []
  | _, _, .nil, _ => .nil
  | _, _, .cons h r, p => by
    rw [pureDs_cons] at p
    have q := Bool.and_eq_true_iff.mp p
    exact .cons (f := []) (g := []) (.pur q.1 h) (Owns.pur r q.2)
theorem pureDs_append : ∀ (xs ys : List D), pureDs (xs ++ ys) = (pureDs xs && pureDs ys)
  | [], ys => by simp [pureDs_nil]
  | x :: xs, ys => by
    rw [List.cons_append, pureDs_cons, pureDs_cons, pureDs_append xs ys, Bool.and_assoc]
theorem pureDs_iff : ∀ {ds : List D}, pureDs ds = true ↔ ∀ d ∈ ds, pureD d = true
  | [] => by simp [pureDs_nil]
  | d :: ds => by
    rw [pureDs_cons, Bool.and_eq_true, pureDs_iff (ds := ds)]
    simp
end
end Ow
end
section
set_option linter.all false
set_option maxRecDepth 100000
set_option maxHeartbeats 1000000
/-! Ow2: expressions: a piece of syntax and the plain function of the slots' data that it comes to. -/
namespace Ow
open PySem L2 PySem.Spec PyProof.Rows

abbrev St := L2.St
/-- the slots' data -/
abbrev En := List (Option D)
def EnOk (K : PySem.W.Frag) (Y : Cl) (H : Hp) (σ : St) (en : En) : Prop := en.length = σ.length ∧ ∀ (i : Nat) (d : D), en[i]? = some (some d) → ∃ v, σ[i]? = some (some v) ∧ Rep K Y H v d
theorem EnOk.mono {K : PySem.W.Frag} {Y : Cl} {H H' : Hp} {σ : St} {en : En} (h : EnOk K Y H σ en) (e : Same H H') : EnOk K Y H' σ en := ⟨h.1, fun i d q => by
  obtain ⟨v, a, b⟩ := h.2 i d q
  exact ⟨v, a, b.mono e⟩⟩
/-- how an error lies behind a raise -/
def ExRep (K : PySem.W.Frag) (Y : Cl) (H : Hp) (e : Err) (cls : Value) (d : Option Addr) : Prop :=
  cls = .ref (Y.at_ e.c) ∧ ((e.xs = [] ∧ d = none) ∨ ∃ x dd v, e.xs = [x] ∧ d = some dd ∧ H dd = some (.xd [(Y.fld e.c, v)]) ∧ Rep K Y H v x)
theorem ExRep.mono {K : PySem.W.Frag} {Y : Cl} {H H' : Hp} {e : Err} {cls : Value} {d : Option Addr} (h : ExRep K Y H e cls d) (s : Same H H') : ExRep K Y H' e cls d := by
  obtain ⟨h1, h2⟩ := h
  refine ⟨h1, ?_⟩
  rcases h2 with h2 | ⟨x, dd, v, a, b, c, r⟩
  · exact .inl h2
  · exact .inr ⟨x, dd, v, a, b, s _ _ c, r.mono s⟩
/-- what is wished of errors: none may come, or by slots -/
abbrev Wh := Option WX
def ExW (K : PySem.W.Frag) (Y : Cl) (W : Wh) (σ : St) (H : Hp) (e : Err) : Prop := ∃ w, W = some w ∧ ∀ cls d H', Same H H' → ExRep K Y H' e cls d → w cls d σ H'
theorem ExW.mono {K : PySem.W.Frag} {Y : Cl} {W : Wh} {σ : St} {H H' : Hp} {e : Err} (s : Same H H') (h : ExW K Y W σ H e) : ExW K Y W σ H' e := by
  obtain ⟨w, a, b⟩ := h
  exact ⟨w, a, fun cls d H'' s' r => b cls d H'' (s.trans s') r⟩
def WPr {α : Type} (K : PySem.W.Frag) (Y : Cl) (W : Wh) (σ : St) (H : Hp) (r : Res α) (Q : α → Prop) : Prop :=
  match r with
  | .ok a => Q a
  | .exc e => ExW K Y W σ H e
  | .stuck => False
section
variable {K : PySem.W.Frag} {Y : Cl} {W : Wh} {σ : St} {H H' : Hp}
theorem WPr.imp {α : Type} {r : Res α} {Q Q' : α → Prop} (h : WPr K Y W σ H r Q) (s : Same H H') (f : ∀ a, Q a → Q' a) : WPr K Y W σ H' r Q' := by
  cases r with
  | ok a => exact f a h
  | exc e => exact ExW.mono s h
  | stuck => exact h
theorem WPr.bind {α β : Type} {r : Res α} {g : α → Res β} {Q : β → Prop} (h : WPr K Y W σ H (r >>= g) Q) : WPr K Y W σ H r fun a => WPr K Y W σ H (g a) Q := by
  cases r with
  | ok a => exact h
  | exc e => exact h
  | stuck => exact h
end

/-- read only (r): a value that stands for the data now. new (n): one that nobody else knows -/
inductive Kd where
  | r | n
def Po (K : PySem.W.Frag) (Y : Cl) (k : Kd) (d : D) (H : Hp) (Q : VK) : Prop :=
  match k with
  | .r => ∀ v H', Same H H' → Rep K Y H' v d → Q v H'
  | .n => ∀ v H' fp, Same H H' → Own K Y H' v d fp → fp.Nodup → (∀ p ∈ fp, H p = none) → Q v H'
section
variable {K : PySem.W.Frag} {Y : Cl} {W : Wh} {σ : St} {H H' : Hp} {k : Kd} {d : D} {Q : VK}
theorem Po.mono (h : Po K Y k d H Q) (s : Same H H') : Po K Y k d H' Q := by
  cases k with
  | r => exact fun v H2 s2 r => h v H2 (s.trans s2) r
  | n => exact fun v H2 fp s2 r nd fr => h v H2 fp (s.trans s2) r nd fun p hp => s.free (fr p hp)
/-- pure data -/
theorem Po.pure {v : V} (h : Po K Y k d H Q) (s : Same H H') (r : Rep K Y H' v d) (p : pureD d = true) : Q v H' := by
  cases k with
  | r => exact h v H' s r
  | n => exact h v H' [] s (.pur p r) .nil (fun _ z => nomatch z)
/-- a reader takes new things too -/
theorem Po.toN (h : Po K Y .r d H Q) : Po K Y .n d H Q := fun v H' fp s r _ _ => h v H' s r.rep
end

def tJ (K : PySem.W.Frag) (Y : Cl) (W : Wh) (k : Kd) (f : En → Res D) : TE := fun σ H Q => ∃ en, EnOk K Y H σ en ∧ WPr K Y W σ H (f en) fun d => Po K Y k d H Q
def J (X : Cx) (Y : Cl) (W : Wh) (k : Kd) (e : Expr) (f : En → Res D) : Prop := PE X e (tJ X.K Y W k f)
def tT (K : PySem.W.Frag) (Y : Cl) (W : Wh) (f : En → Res Bool) : TT := fun σ H Q => ∃ en, EnOk K Y H σ en ∧ WPr K Y W σ H (f en) fun b => ∀ H', Same H H' → Q b H'
def T (X : Cx) (Y : Cl) (W : Wh) (e : Expr) (f : En → Res Bool) : Prop := PT X e (tT X.K Y W f)
def tA (K : PySem.W.Frag) (Y : Cl) (W : Wh) (n : Nat) (f : En → Res (List D)) : TA := fun σ H Q => ∃ en, EnOk K Y H σ en ∧ WPr K Y W σ H (f en) fun ds => ∀ vs H', Same H H' → Reps K Y H' vs ds → vs.length = n → Q vs H'
def A (X : Cx) (Y : Cl) (W : Wh) (es : List Expr) (f : En → Res (List D)) : Prop := PA X es (tA X.K Y W es.length f)

theorem PE.imp {X : Cx} {e : Expr} {t t' : TE} (h : PE X e t) (f : ∀ σ H Q, t' σ H Q → t σ H Q) : PE X e t' := ⟨fun pins s σ H Q I q => h.run pins s σ H Q I (f σ H Q q)⟩
theorem PT.imp {X : Cx} {e : Expr} {t t' : TT} (h : PT X e t) (f : ∀ σ H Q, t' σ H Q → t σ H Q) : PT X e t' := ⟨fun pins s σ H Q I q => h.run pins s σ H Q I (f σ H Q q)⟩
theorem PA.imp {X : Cx} {e : List Expr} {t t' : TA} (h : PA X e t) (f : ∀ σ H Q, t' σ H Q → t σ H Q) : PA X e t' := ⟨fun pos pins s σ H Q I q => h.run pos pins s σ H Q I (f σ H Q q)⟩
theorem PS.imp {X : Cx} {e : Stmt} {t t' : TS} (h : PS X e t) (f : ∀ D σ H, t' D σ H → t D σ H) : PS X e t' := ⟨fun pins s σ H D I q => h.run pins s σ H D I (f D σ H q)⟩
theorem PSs.imp {X : Cx} {e : List Stmt} {t t' : TS} (h : PSs X e t) (f : ∀ D σ H, t' D σ H → t D σ H) : PSs X e t' := ⟨fun pins s σ H D I q => h.run pins s σ H D I (f D σ H q)⟩

/-! ### the functions' words -/
def xVar (i : Nat) : En → Res D := fun en => match en[i]? with
  | some (some d) => .ok d
  | _ => .stuck
def xC (d : D) : En → Res D := fun _ => .ok d
def x2 (op : D → D → Res D) (f g : En → Res D) : En → Res D := fun en => f en >>= fun x => g en >>= fun y => op x y
def x1 (op : D → Res D) (f : En → Res D) : En → Res D := fun en => f en >>= op
/-- new out of pure -/
def xP (f : En → Res D) : En → Res D := fun en => f en >>= fun d => if pureD d = true then .ok d else .stuck
def tBl (f : En → Res D) : En → Res Bool := fun en => f en >>= fun d => match d with
  | .bl b => .ok b
  | _ => .stuck
def tAn (f g : En → Res Bool) : En → Res Bool := fun en => f en >>= fun b => if b = true then g en else .ok false
def tOr' (f g : En → Res Bool) : En → Res Bool := fun en => f en >>= fun b => if b = true then .ok true else g en
def tNo (f : En → Res Bool) : En → Res Bool := fun en => f en >>= fun b => .ok (!b)
def aNil : En → Res (List D) := fun _ => .ok []
def aCons (f : En → Res D) (g : En → Res (List D)) : En → Res (List D) := fun en => f en >>= fun d => g en >>= fun ds => .ok (d :: ds)

section
variable {X : Cx} {Y : Cl} {W : Wh} {k : Kd} {a b c : Expr} {fa fb fc : En → Res D} {pos : Pos}

theorem j_var (i : Nat) {x : Str} {pos : Pos} (hN : X.N[i]? = some x := by rfl) (hv : Vis X.env.scope x := by first | exact Or.inl rfl | exact Or.inr (Or.inl rfl) | exact Or.inr (Or.inr rfl)) (hd : (x == ("__debug__" : Str)) = false := by decide)
    (hcd : (x == ("__classdict__" : Str)) = false := by decide) : J X Y W .r (.Name x pos) (xVar i) :=
  PE.imp (pe_var hN hv hd hcd) fun σ H Q ⟨en, he, h⟩ => by
    unfold xVar at h
    cases q : en[i]? with
    | none =>
      simp only [q] at h
      exact h.elim
    | some o =>
      cases o with
      | none =>
        simp only [q] at h
        exact h.elim
      | some d =>
        simp only [q] at h
        obtain ⟨v, hv, r⟩ := he.2 i d q
        exact ⟨v, hv, h v H (Same.refl H) r⟩
theorem j_int {i j pos} : J X Y W k (.Constant (.int i) j pos) (xC (.int i)) := PE.imp pe_int fun σ H Q ⟨en, he, h⟩ => Po.pure h (Same.refl H) .int (pureD_int i)
theorem j_bl {i j pos} : J X Y W k (.Constant (.bool i) j pos) (xC (.bl i)) := PE.imp pe_bl fun σ H Q ⟨en, he, h⟩ => Po.pure h (Same.refl H) .bl (pureD_bl i)
theorem j_non {j pos} : J X Y W k (.Constant .none j pos) (xC .non) := PE.imp pe_non fun σ H Q ⟨en, he, h⟩ => Po.pure h (Same.refl H) .non pureD_non
theorem j_str {x j pos} : J X Y W k (.Constant (.str x) j pos) (xC (.str x)) := PE.imp pe_str fun σ H Q ⟨en, he, h⟩ => Po.pure h (Same.refl H) .str (pureD_str x)
theorem j_n (h : J X Y W .n a fa) : J X Y W .r a fa := PE.imp h fun σ H Q ⟨en, he, h⟩ => ⟨en, he, h.imp (Same.refl H) fun d p => p.toN⟩
theorem j_p (h : J X Y W .r a fa) : J X Y W .n a (xP fa) := PE.imp h fun σ H Q ⟨en, he, h⟩ => ⟨en, he, (WPr.bind h).imp (Same.refl H) fun d p => by
  by_cases hd : pureD d = true
  · rw [if_pos hd] at p
    exact fun v H' s r => p v H' [] s (.pur hd r) .nil (fun _ z => nomatch z)
  · rw [if_neg hd] at p
    exact p.elim⟩
/-- pure data of known form -/
theorem j_pure (h : J X Y W .r a fa) (hp : ∀ en d, fa en = .ok d → pureD d = true) : J X Y W .n a fa := PE.imp h fun σ H Q ⟨en, he, h⟩ => ⟨en, he, by
  cases e : fa en with
  | ok d =>
    rw [e] at h
    exact fun v H' s r => h v H' [] s (.pur (hp en d e) r) .nil (fun _ z => nomatch z)
  | exc x => rw [e] at h; exact h
  | stuck => rw [e] at h; exact h⟩

/-- an operation by values is the plain one -/
def Op2 (K : PySem.W.Frag) (Y : Cl) (k : Kd) (r : R2) (op : D → D → Res D) : Prop := ∀ (H : Hp) (x y : V) (d e : D) (Q : VK), Rep K Y H x d → Rep K Y H y e → (∃ z, op d e = .ok z ∧ Po K Y k z H Q) → r x y H Q
def Op1 (K : PySem.W.Frag) (Y : Cl) (k : Kd) (r : V → Hp → VK → Prop) (op : D → Res D) : Prop := ∀ (H : Hp) (x : V) (d : D) (Q : VK), Rep K Y H x d → (∃ z, op d = .ok z ∧ Po K Y k z H Q) → r x H Q
/-- operations raise nothing -/
def Calm2 (op : D → D → Res D) : Prop := ∀ d e x, op d e ≠ .exc x
def Calm1 (op : D → Res D) : Prop := ∀ d x, op d ≠ .exc x
theorem WPr.calm {K : PySem.W.Frag} {α : Type} {σ : St} {H : Hp} {r : Res α} {Q : α → Prop} (hc : ∀ x, r ≠ .exc x) (h : WPr K Y W σ H r Q) : ∃ z, r = .ok z ∧ Q z := by
  cases r with
  | ok z => exact ⟨z, rfl, h⟩
  | exc e => exact absurd rfl (hc e)
  | stuck => exact h.elim
theorem two {σ : St} {H : Hp} {Q : VK} {op : D → D → Res D} {r : R2} (hr : Op2 X.K Y k r op) (hc : Calm2 op) (h : tJ X.K Y W k (x2 op fa fb) σ H Q) : tJ X.K Y W .r fa σ H fun x H1 => tJ X.K Y W .r fb σ H1 fun y H2 => r x y H2 Q := by
  obtain ⟨en, he, h⟩ := h
  refine ⟨en, he, (WPr.bind h).imp (Same.refl H) fun d p => ?_⟩
  intro v H1 s1 r1
  refine ⟨en, he.mono s1, (WPr.bind p).imp s1 fun e q => ?_⟩
  intro y H2 s2 r2
  obtain ⟨z, ez, pz⟩ := WPr.calm (hc d e) q
  exact hr H2 v y d e Q (r1.mono s2) r2 ⟨z, ez, pz.mono (s1.trans s2)⟩
theorem j_op {op : Operator} {r : R2} {o : D → D → Res D} (ho : OpR X (binaryOp op) r) (hr : Op2 X.K Y k r o) (hc : Calm2 o) (ha : J X Y W .r a fa) (hb : J X Y W .r b fb) : J X Y W k (.BinOp a op b pos) (x2 o fa fb) :=
  PE.imp (pe_op ho ha hb) fun σ H Q h => two hr hc h
theorem j_cmp {op : CmpOp} {r : R2} {o : D → D → Res D} (ho : OpR X (compareOp op) r) (hr : Op2 X.K Y k r o) (hc : Calm2 o) (ha : J X Y W .r a fa) (hb : J X Y W .r b fb) (hm : behindInMarks op b = false) : J X Y W k (.Compare a [op] [b] pos) (x2 o fa fb) :=
  PE.imp (pe_cmpR ho ha hb hm) fun σ H Q h => two hr hc h
theorem t_cmp {op : CmpOp} {r : R2} {o : D → D → Res D} (ho : OpR X (compareOp op) r) (hr : Op2 X.K Y .r r o) (hc : Calm2 o) (ha : J X Y W .r a fa) (hb : J X Y W .r b fb) (hm : behindInMarks op b = false) : T X Y W (.Compare a [op] [b] pos) (tBl (x2 o fa fb)) :=
  PT.imp (pt_cmpR ho ha hb hm) fun σ H Q ⟨en, he, h⟩ => by
    refine two hr hc ⟨en, he, (WPr.bind h).imp (Same.refl H) fun d p => ?_⟩
    intro v H' s r
    cases r with
    | bl => exact ⟨_, rfl, p H' s⟩
    | _ => exact p.elim
theorem j_un {op : UnaryOp} {r : V → Hp → VK → Prop} {o : D → Res D} (ho : UnR X (unaryOp op) r) (hr : Op1 X.K Y k r o) (hc : Calm1 o) (ha : J X Y W .r a fa) : J X Y W k (.UnaryOp op a pos) (x1 o fa) :=
  PE.imp (pe_un ho ha) fun σ H Q ⟨en, he, h⟩ => ⟨en, he, (WPr.bind h).imp (Same.refl H) fun d p => by
    intro v H1 s1 r1
    obtain ⟨z, ez, pz⟩ := WPr.calm (hc d) p
    exact hr H1 v d Q r1 ⟨z, ez, pz.mono s1⟩⟩
theorem j_ix {r : R2} {o : D → D → Res D} (hi : IxR X r) (hr : Op2 X.K Y k r o) (hc : Calm2 o) (ha : J X Y W .r a fa) (hb : J X Y W .r b fb) (hs : PlainIx b) : J X Y W k (.Subscript a b pos) (x2 o fa fb) :=
  PE.imp (pe_ix hi ha hb hs) fun σ H Q h => two hr hc h

/-! ### tests -/
variable {ga gb : En → Res Bool} {rest : List Expr}
theorem t_val {e : Expr} (h : J X Y W .r e fa) (he : ∀ whole, isTrue e X.env whole = (do let v ← whole; standAt e.pos; holding [v] (truthy v)) := by intro _; rfl) : T X Y W e (tBl fa) :=
  PT.imp (pt_val h he) fun σ H Q ⟨en, he, h⟩ => ⟨en, he, (WPr.bind h).imp (Same.refl H) fun d p => by
    intro v H' s r
    cases r with
    | bl => exact ⟨_, rfl, p H' s⟩
    | _ => exact p.elim⟩
def Tw (X : Cx) (Y : Cl) (W : Wh) (e : Expr) (f : En → Res Bool) : Prop := PW X e (tT X.K Y W f)
theorem PW.imp {X : Cx} {e : Expr} {t t' : TT} (h : PW X e t) (f : ∀ σ H Q, t' σ H Q → t σ H Q) : PW X e t' := ⟨fun wh pins s σ H Q I q => h.run wh pins s σ H Q I (f σ H Q q)⟩
theorem t_w {e : Expr} (h : Tw X Y W e ga) : T X Y W e ga := PW.pt h
theorem w_and1 (h : T X Y W a ga) : Tw X Y W (.BoolOp .And [a] pos) ga := pw_and1 h
theorem w_or1 (h : T X Y W a ga) : Tw X Y W (.BoolOp .Or [a] pos) ga := pw_or1 h
theorem w_and (ha : T X Y W a ga) (hb : Tw X Y W (.BoolOp .And (b :: rest) pos) gb) : Tw X Y W (.BoolOp .And (a :: b :: rest) pos) (tAn ga gb) :=
  PW.imp (pw_and ha hb) fun σ H Q ⟨en, he, h⟩ => ⟨en, he, (WPr.bind h).imp (Same.refl H) fun c p => by
    intro H' s
    cases c with
    | true =>
      rw [if_pos rfl] at p ⊢
      exact ⟨en, he.mono s, p.imp s fun b q H2 s2 => q H2 (s.trans s2)⟩
    | false =>
      rw [if_neg Bool.false_ne_true] at p ⊢
      exact p H' s⟩
theorem w_or (ha : T X Y W a ga) (hb : Tw X Y W (.BoolOp .Or (b :: rest) pos) gb) : Tw X Y W (.BoolOp .Or (a :: b :: rest) pos) (tOr' ga gb) :=
  PW.imp (pw_or ha hb) fun σ H Q ⟨en, he, h⟩ => ⟨en, he, (WPr.bind h).imp (Same.refl H) fun c p => by
    intro H' s
    cases c with
    | false =>
      rw [if_neg Bool.false_ne_true] at p ⊢
      exact ⟨en, he.mono s, p.imp s fun b q H2 s2 => q H2 (s.trans s2)⟩
    | true =>
      rw [if_pos rfl] at p ⊢
      exact p H' s⟩
theorem t_not (ha : T X Y W a ga) : T X Y W (.UnaryOp .Not a pos) (tNo ga) :=
  PT.imp (pt_not ha) fun σ H Q ⟨en, he, h⟩ => ⟨en, he, (WPr.bind h).imp (Same.refl H) fun c p H' s => p H' s⟩
/-- and, or, not as values: the operands bools -/
def xAn (f g : En → Res D) : En → Res D := fun en => f en >>= fun d => match d with
  | .bl b => if b = true then g en else .ok (.bl false)
  | _ => .stuck
def xOr (f g : En → Res D) : En → Res D := fun en => f en >>= fun d => match d with
  | .bl b => if b = true then .ok (.bl true) else g en
  | _ => .stuck
def xNo (f : En → Res D) : En → Res D := fun en => f en >>= fun d => match d with
  | .bl b => .ok (.bl (!b))
  | _ => .stuck
theorem j_one {op} (h : J X Y W k a fa) : J X Y W k (.BoolOp op [a] pos) fa := pe_one h
theorem j_and (ha : J X Y W .r a fa) (hb : J X Y W k (.BoolOp .And (b :: rest) pos) fb) : J X Y W k (.BoolOp .And (a :: b :: rest) pos) (xAn fa fb) :=
  PE.imp (pe_and ha hb) fun σ H Q ⟨en, he, h⟩ => ⟨en, he, (WPr.bind h).imp (Same.refl H) fun d p => by
    intro v H' s r
    cases r with
    | @bl c =>
      refine ⟨c, rfl, ?_⟩
      cases c with
      | true =>
        rw [if_pos rfl]
        exact ⟨en, he.mono s, WPr.imp (show WPr X.K Y W σ H (fb en) _ from p) s fun d q => q.mono s⟩
      | false =>
        rw [if_neg Bool.false_ne_true]
        exact Po.pure (show Po X.K Y k (.bl false) H Q from p) s .bl (pureD_bl _)
    | _ => exact p.elim⟩
theorem j_or (ha : J X Y W .r a fa) (hb : J X Y W k (.BoolOp .Or (b :: rest) pos) fb) : J X Y W k (.BoolOp .Or (a :: b :: rest) pos) (xOr fa fb) :=
  PE.imp (pe_or ha hb) fun σ H Q ⟨en, he, h⟩ => ⟨en, he, (WPr.bind h).imp (Same.refl H) fun d p => by
    intro v H' s r
    cases r with
    | @bl c =>
      refine ⟨c, rfl, ?_⟩
      cases c with
      | false =>
        rw [if_neg Bool.false_ne_true]
        exact ⟨en, he.mono s, WPr.imp (show WPr X.K Y W σ H (fb en) _ from p) s fun d q => q.mono s⟩
      | true =>
        rw [if_pos rfl]
        exact Po.pure (show Po X.K Y k (.bl true) H Q from p) s .bl (pureD_bl _)
    | _ => exact p.elim⟩
theorem j_not (ha : J X Y W .r a fa) : J X Y W k (.UnaryOp .Not a pos) (xNo fa) :=
  PE.imp (pe_not ha) fun σ H Q ⟨en, he, h⟩ => ⟨en, he, (WPr.bind h).imp (Same.refl H) fun d p => by
    intro v H' s r
    cases r with
    | @bl c => exact ⟨c, rfl, Po.pure (show Po X.K Y k (.bl (!c)) H Q from p) s .bl (pureD_bl _)⟩
    | _ => exact p.elim⟩
def xIf (t : En → Res Bool) (f g : En → Res D) : En → Res D := fun en => t en >>= fun b => if b = true then f en else g en
theorem j_if (hc : T X Y W c ga) (ha : J X Y W k a fa) (hb : J X Y W k b fb) : J X Y W k (.IfExp c a b pos) (xIf ga fa fb) :=
  PE.imp (pe_ifExp hc ha hb) fun σ H Q ⟨en, he, h⟩ => ⟨en, he, (WPr.bind h).imp (Same.refl H) fun d p H' s => by
    cases d with
    | true =>
      rw [if_pos rfl] at p ⊢
      exact ⟨en, he.mono s, p.imp s fun d q => q.mono s⟩
    | false =>
      rw [if_neg Bool.false_ne_true] at p ⊢
      exact ⟨en, he.mono s, p.imp s fun d q => q.mono s⟩⟩

/-! ### arguments, displays -/
variable {es : List Expr} {fs : En → Res (List D)}
theorem a_nil : A X Y W [] aNil := PA.imp pa_nil fun σ H Q ⟨en, he, h⟩ => h [] H (Same.refl H) .nil rfl
theorem a_cons (ha : J X Y W .r a fa) (hr : A X Y W es fs) (hs : starEach (a :: es) X.env = (false, eval a X.env) :: starEach es X.env := by rfl) : A X Y W (a :: es) (aCons fa fs) :=
  PA.imp (pa_cons ha hr hs) fun σ H Q ⟨en, he, h⟩ => ⟨en, he, (WPr.bind h).imp (Same.refl H) fun d p => by
    intro v H1 s1 r1
    refine ⟨en, he.mono s1, (WPr.bind p).imp s1 fun ds q => ?_⟩
    intro vs H2 s2 r2 l2
    exact q (v :: vs) H2 (s1.trans s2) (.cons (r1.mono s2) r2) (congrArg (· + 1) l2)⟩
/-- arguments that are new, each with its places -/
def tAn' (K : PySem.W.Frag) (Y : Cl) (W : Wh) (f : En → Res (List D)) : TA := fun σ H Q => ∃ en, EnOk K Y H σ en ∧ WPr K Y W σ H (f en) fun ds => ∀ vs H' fp, Same H H' → Owns K Y H' vs ds fp → fp.Nodup → (∀ p ∈ fp, H p = none) → Q vs H'
def An (X : Cx) (Y : Cl) (W : Wh) (es : List Expr) (f : En → Res (List D)) : Prop := PA X es (tAn' X.K Y W f)
theorem an_nil : An X Y W [] aNil := PA.imp pa_nil fun σ H Q ⟨en, he, h⟩ => h [] H [] (Same.refl H) .nil .nil (fun _ z => nomatch z)
theorem an_cons (ha : J X Y W .n a fa) (hr : An X Y W es fs) (hs : starEach (a :: es) X.env = (false, eval a X.env) :: starEach es X.env := by rfl) : An X Y W (a :: es) (aCons fa fs) :=
  PA.imp (pa_cons ha hr hs) fun σ H Q ⟨en, he, h⟩ => ⟨en, he, (WPr.bind h).imp (Same.refl H) fun d p => by
    intro v H1 f1 s1 r1 n1 e1
    refine ⟨en, he.mono s1, (WPr.bind p).imp s1 fun ds q => ?_⟩
    intro vs H2 f2 s2 r2 n2 e2
    refine q (v :: vs) H2 (f1 ++ f2) (s1.trans s2) (.cons (r1.mono s2) r2) ?_ ?_
    · refine List.nodup_append.mpr ⟨n1, n2, fun x hx y hy z => ?_⟩
      subst z
      obtain ⟨o, ho, _⟩ := r1.there x hx
      rw [e2 x hy] at ho
      cases ho
    · intro x hx
      rcases List.mem_append.mp hx with hx | hx
      · exact e1 x hx
      · exact s1.free (e2 x hx)⟩
def szOk (n : Nat) : Bool := decide (n ≤ 16777215)
theorem szOk_le {n : Nat} (h : szOk n = true) : n ≤ sizeLine := by
  have := of_decide_eq_true h
  rw [sizeLine_eq]
  omega
theorem szOk_lt {n : Nat} (h : szOk n = true) : n < sizeLine := by
  have := of_decide_eq_true h
  rw [sizeLine_eq]
  omega
def xTup (f : En → Res (List D)) : En → Res D := fun en => f en >>= fun ds => if szOk ds.length = true then .ok (.tup ds) else .stuck
def xLst (f : En → Res (List D)) : En → Res D := fun en => f en >>= fun ds => if szOk ds.length = true then .ok (.lst ds) else .stuck
theorem Owns.length {K : PySem.W.Frag} {H : Hp} {vs : List V} {ds : List D} {fp : List Addr} (h : Owns K Y H vs ds fp) : vs.length = ds.length := h.reps.length
theorem j_tup {x1} (h : A X Y W es fs) : J X Y W .r (.Tuple es x1 pos) (xTup fs) :=
  PE.imp (pe_tup h) fun σ H Q ⟨en, he, h⟩ => ⟨en, he, (WPr.bind h).imp (Same.refl H) fun ds p => by
    intro vs H' s r _
    by_cases hz : szOk ds.length = true
    · rw [if_pos hz] at p
      refine ⟨by rw [r.length]; exact szOk_le hz, fun q hq => ?_⟩
      have s2 : Same H' (upd H' q (.tup vs)) := fun b o e => by rw [upd_ne (ne_of_none e hq)]; exact e
      exact p (.ref q) _ (s.trans s2) (.tup (SqT.of upd_same) (r.mono s2))
    · rw [if_neg hz] at p
      exact p.elim⟩
theorem jn_tup {x1} (h : An X Y W es fs) : J X Y W .n (.Tuple es x1 pos) (xTup fs) :=
  PE.imp (pe_tup h) fun σ H Q ⟨en, he, h⟩ => ⟨en, he, (WPr.bind h).imp (Same.refl H) fun ds p => by
    intro vs H' fp s r nd fr
    by_cases hz : szOk ds.length = true
    · rw [if_pos hz] at p
      refine ⟨by rw [r.length]; exact szOk_le hz, fun q hq => ?_⟩
      have s2 : Same H' (upd H' q (.tup vs)) := fun b o e => by rw [upd_ne (ne_of_none e hq)]; exact e
      exact p (.ref q) _ fp (s.trans s2) (.tup (SqT.of upd_same) (r.mono s2)) nd fr
    · rw [if_neg hz] at p
      exact p.elim⟩
theorem j_lst (h : A X Y W es fs) : J X Y W .r (.List es pos) (xLst fs) :=
  PE.imp (pe_lst h) fun σ H Q ⟨en, he, h⟩ => ⟨en, he, (WPr.bind h).imp (Same.refl H) fun ds p => by
    intro vs H' s r _
    by_cases hz : szOk ds.length = true
    · rw [if_pos hz] at p
      refine ⟨by rw [r.length]; exact szOk_le hz, fun q hq => ?_⟩
      have s2 : Same H' (upd H' q (.lst vs)) := fun b o e => by rw [upd_ne (ne_of_none e hq)]; exact e
      exact p (.ref q) _ (s.trans s2) (.lst upd_same (r.mono s2))
    · rw [if_neg hz] at p
      exact p.elim⟩
theorem jn_lst (h : An X Y W es fs) : J X Y W .n (.List es pos) (xLst fs) :=
  PE.imp (pe_lst h) fun σ H Q ⟨en, he, h⟩ => ⟨en, he, (WPr.bind h).imp (Same.refl H) fun ds p => by
    intro vs H' fp s r nd fr
    by_cases hz : szOk ds.length = true
    · rw [if_pos hz] at p
      refine ⟨by rw [r.length]; exact szOk_le hz, fun q hq => ?_⟩
      have s2 : Same H' (upd H' q (.lst vs)) := fun b o e => by rw [upd_ne (ne_of_none e hq)]; exact e
      refine p (.ref q) _ (q :: fp) (s.trans s2) (.lst upd_same (r.mono s2)) ?_ ?_
      · refine List.nodup_cons.mpr ⟨fun hm => ?_, nd⟩
        obtain ⟨o, ho, _⟩ := r.there q hm
        rw [hq] at ho
        cases ho
      · intro x hx
        rcases List.mem_cons.mp hx with rfl | hx
        · exact s.free hq
        · exact fr x hx
    · rw [if_neg hz] at p
      exact p.elim⟩
end
end Ow
end
section
set_option linter.all false
set_option maxRecDepth 100000
set_option maxHeartbeats 1000000
/-! Ow3: the operations. -/
namespace Ow
open PySem L2 PySem.Spec
theorem opI' {X : Cx} {f : Value → Value → Sem Value} {C : Int → Int → Prop} {g : Int → Int → Int}
    (rule : ∀ (i j : Int) (t u : Tok) (s : Shared) (Q : Value → Shared → Prop) (E : Value → Shared → Prop), C i j → Q (.int (g i j) s.toks) { s with toks := s.toks + 1 } → wpAny (model X.prog X.w) X.A (f (.int i t) (.int j u)) Q E s) :
    OpR X f (rI C fun i j => .int (g i j)) := opI rule
def CDivZ (_ j : Int) : Prop := j ≠ 0 ∧ j.natAbs.log2 < 9000
theorem op_fdivZ {X : Cx} : OpR X (binaryOp .FloorDiv) (rI CDivZ fun i j => .int (i.fdiv j)) := opI fun i j _ _ _ _ _ hc q =>
  PyProof.Rows.floordiv_int hc.1 q (.inl (PyProof.noPylong_of_log2 hc.2))

/-- two ints -/
def oI (c : Int → Int → Bool) (g : Int → Int → D) : D → D → Res D
  | .int i, .int j => if c i j = true then .ok (g i j) else .stuck
  | _, _ => .stuck
theorem oI_calm (c : Int → Int → Bool) (g : Int → Int → D) : Calm2 (oI c g) := fun d e x => by
  unfold oI
  split
  · split <;> exact fun h => nomatch h
  · exact fun h => nomatch h
section
variable {K : PySem.W.Frag} {Y : Cl} {k : Kd}
theorem op2_I {C : Int → Int → Prop} {c : Int → Int → Bool} {g : Int → Int → V} {gd : Int → Int → D} (hc : ∀ i j, c i j = true → C i j) (hg : ∀ i j H, Rep K Y H (g i j) (gd i j)) (hp : ∀ i j, pureD (gd i j) = true) : Op2 K Y k (rI C g) (oI c gd) := by
  intro H x y d e Q rx ry ⟨z, hz, po⟩
  unfold oI at hz
  split at hz
  · split at hz
    · rename_i i j h
      cases hz
      cases rx
      cases ry
      exact ⟨i, j, rfl, rfl, hc i j h, po.pure (Same.refl H) (hg i j H) (hp i j)⟩
    · cases hz
  · cases hz
theorem op2_I0 {g : Int → Int → V} {gd : Int → Int → D} (hg : ∀ i j H, Rep K Y H (g i j) (gd i j)) (hp : ∀ i j, pureD (gd i j) = true) : Op2 K Y k (rI0 g) (oI (fun _ _ => true) gd) := by
  intro H x y d e Q rx ry ⟨z, hz, po⟩
  unfold oI at hz
  split at hz
  · rename_i i j
    rw [if_pos rfl] at hz
    cases hz
    cases rx
    cases ry
    exact ⟨i, j, rfl, rfl, po.pure (Same.refl H) (hg i j H) (hp i j)⟩
  · cases hz
end
abbrev iI (f : Int → Int → Int) : Int → Int → D := fun i j => .int (f i j)
abbrev iB (f : Int → Int → Bool) : Int → Int → D := fun i j => .bl (f i j)
def tru2 : Int → Int → Bool := fun _ _ => true
def cMul (i j : Int) : Bool := decide (i.natAbs.log2 + j.natAbs.log2 < 1000000)
def cDiv (_ j : Int) : Bool := decide (j ≠ 0) && decide (j.natAbs.log2 < 9000)
def cMod (_ j : Int) : Bool := decide (j ≠ 0)
def cPow (i j : Int) : Bool := decide (0 ≤ j) && (decide (j ≤ 1000000) && decide (i.natAbs < 18446744073709551616))
def oAdd := oI (fun _ _ => true) (iI (· + ·))
def oSub := oI (fun _ _ => true) (iI (· - ·))
def oMul := oI cMul (iI (· * ·))
def oDiv := oI cDiv (iI Int.fdiv)
def oMod := oI cMod (iI Int.fmod)
def oPow := oI cPow (iI fun i j => i ^ j.toNat)
def oLt := oI (fun _ _ => true) (iB fun i j => decide (i < j))
def oLe := oI (fun _ _ => true) (iB fun i j => decide (i ≤ j))
def oGt := oI (fun _ _ => true) (iB fun i j => decide (j < i))
def oGe := oI (fun _ _ => true) (iB fun i j => decide (j ≤ i))
section
variable {X : Cx} {Y : Cl} {W : Wh} {k : Kd} {a b : Expr} {fa fb : En → Res D} {pos : Pos}
theorem rI_ints {K : PySem.W.Frag} {H : Hp} (g : Int → Int → Int) : ∀ i j, Rep K Y H (.int (g i j)) (.int (g i j)) := fun _ _ => .int
theorem j_add (ha : J X Y W .r a fa) (hb : J X Y W .r b fb) : J X Y W k (.BinOp a .Add b pos) (x2 oAdd fa fb) := j_op op_add (op2_I0 (fun _ _ _ => .int) fun _ _ => pureD_int _) (oI_calm _ _) ha hb
theorem j_sub (ha : J X Y W .r a fa) (hb : J X Y W .r b fb) : J X Y W k (.BinOp a .Sub b pos) (x2 oSub fa fb) := j_op op_sub (op2_I0 (fun _ _ _ => .int) fun _ _ => pureD_int _) (oI_calm _ _) ha hb
theorem j_mul (ha : J X Y W .r a fa) (hb : J X Y W .r b fb) : J X Y W k (.BinOp a .Mult b pos) (x2 oMul fa fb) :=
  j_op op_mulW (op2_I (fun i j h => (of_decide_eq_true h : i.natAbs.log2 + j.natAbs.log2 < 1000000)) (fun _ _ _ => .int) fun _ _ => pureD_int _) (oI_calm _ _) ha hb
theorem j_div (ha : J X Y W .r a fa) (hb : J X Y W .r b fb) : J X Y W k (.BinOp a .FloorDiv b pos) (x2 oDiv fa fb) :=
  j_op op_fdivZ (op2_I (fun i j h => by
    have h' := Bool.and_eq_true_iff.mp h
    exact ⟨of_decide_eq_true h'.1, of_decide_eq_true h'.2⟩) (fun _ _ _ => .int) fun _ _ => pureD_int _) (oI_calm _ _) ha hb
theorem j_mod (ha : J X Y W .r a fa) (hb : J X Y W .r b fb) : J X Y W k (.BinOp a .Mod b pos) (x2 oMod fa fb) :=
  j_op op_modN (op2_I (fun i j h => of_decide_eq_true h) (fun _ _ _ => .int) fun _ _ => pureD_int _) (oI_calm _ _) ha hb
theorem j_pow (ha : J X Y W .r a fa) (hb : J X Y W .r b fb) : J X Y W k (.BinOp a .Pow b pos) (x2 oPow fa fb) :=
  j_op op_pow (op2_I (fun i j h => by
    have h' := Bool.and_eq_true_iff.mp h
    have h2 := Bool.and_eq_true_iff.mp h'.2
    exact ⟨of_decide_eq_true h'.1, of_decide_eq_true h2.1, of_decide_eq_true h2.2⟩) (fun _ _ _ => .int) fun _ _ => pureD_int _) (oI_calm _ _) ha hb
theorem j_lt (ha : J X Y W .r a fa) (hb : J X Y W .r b fb) : J X Y W k (.Compare a [.Lt] [b] pos) (x2 oLt fa fb) := j_cmp op_lt (op2_I0 (fun _ _ _ => .bl) fun _ _ => pureD_bl _) (oI_calm _ _) ha hb (nomark _)
theorem j_le (ha : J X Y W .r a fa) (hb : J X Y W .r b fb) : J X Y W k (.Compare a [.LtE] [b] pos) (x2 oLe fa fb) := j_cmp op_le (op2_I0 (fun _ _ _ => .bl) fun _ _ => pureD_bl _) (oI_calm _ _) ha hb (nomark _)
theorem j_gt (ha : J X Y W .r a fa) (hb : J X Y W .r b fb) : J X Y W k (.Compare a [.Gt] [b] pos) (x2 oGt fa fb) := j_cmp op_gt (op2_I0 (fun _ _ _ => .bl) fun _ _ => pureD_bl _) (oI_calm _ _) ha hb (nomark _)
theorem j_ge (ha : J X Y W .r a fa) (hb : J X Y W .r b fb) : J X Y W k (.Compare a [.GtE] [b] pos) (x2 oGe fa fb) := j_cmp op_ge (op2_I0 (fun _ _ _ => .bl) fun _ _ => pureD_bl _) (oI_calm _ _) ha hb (nomark _)
theorem t_lt (ha : J X Y W .r a fa) (hb : J X Y W .r b fb) : T X Y W (.Compare a [.Lt] [b] pos) (tBl (x2 oLt fa fb)) := t_cmp op_lt (op2_I0 (fun _ _ _ => .bl) fun _ _ => pureD_bl _) (oI_calm _ _) ha hb (nomark _)
theorem t_le (ha : J X Y W .r a fa) (hb : J X Y W .r b fb) : T X Y W (.Compare a [.LtE] [b] pos) (tBl (x2 oLe fa fb)) := t_cmp op_le (op2_I0 (fun _ _ _ => .bl) fun _ _ => pureD_bl _) (oI_calm _ _) ha hb (nomark _)
theorem t_gt (ha : J X Y W .r a fa) (hb : J X Y W .r b fb) : T X Y W (.Compare a [.Gt] [b] pos) (tBl (x2 oGt fa fb)) := t_cmp op_gt (op2_I0 (fun _ _ _ => .bl) fun _ _ => pureD_bl _) (oI_calm _ _) ha hb (nomark _)
theorem t_ge (ha : J X Y W .r a fa) (hb : J X Y W .r b fb) : T X Y W (.Compare a [.GtE] [b] pos) (tBl (x2 oGe fa fb)) := t_cmp op_ge (op2_I0 (fun _ _ _ => .bl) fun _ _ => pureD_bl _) (oI_calm _ _) ha hb (nomark _)
def oNeg : D → Res D
  | .int i => .ok (.int (-i))
  | _ => .stuck
theorem oNeg_calm : Calm1 oNeg := fun d x => by
  unfold oNeg
  split <;> exact fun h => nomatch h
theorem j_neg (ha : J X Y W .r a fa) : J X Y W k (.UnaryOp .USub a pos) (x1 oNeg fa) := j_un un_neg (fun H x d Q rx ⟨z, hz, po⟩ => by
  unfold oNeg at hz
  split at hz
  · cases hz
    cases rx
    exact ⟨_, rfl, po.pure (Same.refl H) .int (pureD_int _)⟩
  · cases hz) oNeg_calm ha

/-! ### == of data at any depth -/
mutual
def toP : D → PyData
  | .non => .none
  | .bl b => .bool b
  | .int i => .int i
  | .str x => .str x
  | .tup xs => .tuple (toPs xs)
  | .lst xs => .list (toPs xs)
  | .scr ns => .list (ns.map .int)
  | .dI _ => .dict []
  | .dT _ => .dict []
  | .exc _ _ => .dict []
def toPs : List D → List PyData
  | [] => []
  | d :: ds => toP d :: toPs ds
end
def shp (d : D) : Bool := SeqAt.shaped (toP d)
theorem dpAll_ints {K : PySem.W.Frag} {H : Hp} : ∀ ns : List Int, DpAll K H (ns.map V.int) (ns.map PyData.int)
  | [] => .nil
  | n :: ns => .cons (.int n) (dpAll_ints ns)
mutual
theorem Rep.dp {K : PySem.W.Frag} {Y : Cl} {H : Hp} : ∀ {v : V} {d : D}, Rep K Y H v d → (toP d).canLay0 = true → Dp K H v (toP d)
  | _, _, .non, _ => by rw [toP]; exact .non
  | _, _, .bl, _ => by rw [toP]; exact .bl _
  | _, _, .int, _ => by rw [toP]; exact .int _
  | _, _, .str, _ => by rw [toP]; exact .str _
  | _, _, .tup h r, c => by
    rw [toP] at c ⊢
    rw [PyData.canLay0] at c
    exact .tup h (Reps.dp r c)
  | _, _, .lst h r, c => by
    rw [toP] at c ⊢
    rw [PyData.canLay0] at c
    exact .lst (SqL.of h) (Reps.dp r c)
  | _, _, .scr h, c => by
    rw [toP]
    exact .lst h (dpAll_ints _)
  | _, _, .dI _ _, c => by rw [toP, PyData.canLay0] at c; cases c
  | _, _, .dT _ _, c => by rw [toP, PyData.canLay0] at c; cases c
  | _, _, .exc0 _, c => by rw [toP, PyData.canLay0] at c; cases c
  | _, _, .exc1 _ _ _, c => by rw [toP, PyData.canLay0] at c; cases c
theorem Reps.dp {K : PySem.W.Frag} {Y : Cl} {H : Hp} : ∀ {vs : List V} {ds : List D}, Reps K Y H vs ds → PyData.canLayAll0 (toPs ds) = true → DpAll K H vs (toPs ds)
  | _, _, .nil, _ => by rw [toPs]; exact .nil
  | _, _, .cons h r, c => by
    rw [toPs] at c ⊢
    rw [PyData.canLayAll0] at c
    have c' := Bool.and_eq_true_iff.mp c
    exact .cons (Rep.dp h c'.1) (Reps.dp r c'.2)
end
theorem shp_lay {d : D} (h : shp d = true) : (toP d).canLay0 = true := SeqAt.canLay_of_shaped h
def oEq : D → D → Res D := fun d e => if (shp d && shp e) = true then .ok (.bl (PyData.eqv (toP d) (toP e))) else .stuck
def oNe : D → D → Res D := fun d e => if (shp d && shp e) = true then .ok (.bl (!PyData.eqv (toP d) (toP e))) else .stuck
theorem ite_calm {α : Type} {c : Prop} [Decidable c] {r : α} {x : Err} : (if c then Res.ok r else .stuck) ≠ .exc x := by
  split <;> exact fun h => nomatch h
theorem oEq_calm : Calm2 oEq := fun d e x => ite_calm
theorem oNe_calm : Calm2 oNe := fun d e x => ite_calm
theorem op2_eq : Op2 X.K Y k (rEqD X.K) oEq := by
  intro H x y d e Q rx ry ⟨z, hz, po⟩
  unfold oEq at hz
  split at hz
  · rename_i hs
    have hs' := Bool.and_eq_true_iff.mp hs
    cases hz
    exact ⟨_, _, rx.dp (shp_lay hs'.1), ry.dp (shp_lay hs'.2), hs'.1, hs'.2, po.pure (Same.refl H) .bl (pureD_bl _)⟩
  · cases hz
theorem op2_ne : Op2 X.K Y k (rNeD X.K) oNe := by
  intro H x y d e Q rx ry ⟨z, hz, po⟩
  unfold oNe at hz
  split at hz
  · rename_i hs
    have hs' := Bool.and_eq_true_iff.mp hs
    cases hz
    exact ⟨_, _, rx.dp (shp_lay hs'.1), ry.dp (shp_lay hs'.2), hs'.1, hs'.2, po.pure (Same.refl H) .bl (pureD_bl _)⟩
  · cases hz
theorem j_eq {n : Nat} (hr : Room n X.A) (ha : J X Y W .r a fa) (hb : J X Y W .r b fb) : J X Y W k (.Compare a [.Eq] [b] pos) (x2 oEq fa fb) := j_cmp (op_eqD hr.units) op2_eq oEq_calm ha hb (nomark _)
theorem j_ne {n : Nat} (hr : Room n X.A) (ha : J X Y W .r a fa) (hb : J X Y W .r b fb) : J X Y W k (.Compare a [.NotEq] [b] pos) (x2 oNe fa fb) := j_cmp (op_neD hr.units) op2_ne oNe_calm ha hb (nomark _)
theorem t_eq {n : Nat} (hr : Room n X.A) (ha : J X Y W .r a fa) (hb : J X Y W .r b fb) : T X Y W (.Compare a [.Eq] [b] pos) (tBl (x2 oEq fa fb)) := t_cmp (op_eqD hr.units) op2_eq oEq_calm ha hb (nomark _)
theorem t_ne {n : Nat} (hr : Room n X.A) (ha : J X Y W .r a fa) (hb : J X Y W .r b fb) : T X Y W (.Compare a [.NotEq] [b] pos) (tBl (x2 oNe fa fb)) := t_cmp (op_neD hr.units) op2_ne oNe_calm ha hb (nomark _)
/-! ### is None -/
def isNon : D → Bool
  | .non => true
  | _ => false
def oIsN : D → D → Res D := fun d _ => .ok (.bl (isNon d))
def oNotN : D → D → Res D := fun d _ => .ok (.bl (!isNon d))
theorem rep_non {K : PySem.W.Frag} {H : Hp} {x : V} {d : D} (r : Rep K Y H x d) : decide (x = .non) = isNon d := by
  cases r <;> simp [isNon]
theorem xC_ok {d : D} {en : En} : xC d en = .ok d := rfl
theorem t_isN {j pos'} (ha : J X Y W .r a fa) : T X Y W (.Compare a [.Is] [.Constant .none j pos'] pos) (tBl (x1 (fun d => .ok (.bl (isNon d))) fa)) :=
  PT.imp (pt_cmp (pc_isN ha)) fun σ H Q ⟨en, he, h⟩ => ⟨en, he, (WPr.bind (WPr.bind h)).imp (Same.refl H) fun d p => by
    intro v H' s r
    exact ⟨_, rfl, by rw [rep_non r]; exact p H' s⟩⟩
theorem t_notN {j pos'} (ha : J X Y W .r a fa) : T X Y W (.Compare a [.IsNot] [.Constant .none j pos'] pos) (tBl (x1 (fun d => .ok (.bl (!isNon d))) fa)) :=
  PT.imp (pt_cmp (pc_notN ha)) fun σ H Q ⟨en, he, h⟩ => ⟨en, he, (WPr.bind (WPr.bind h)).imp (Same.refl H) fun d p => by
    intro v H' s r
    exact ⟨_, rfl, by rw [rep_non r]; exact p H' s⟩⟩
theorem j_isN {j pos'} (ha : J X Y W .r a fa) : J X Y W k (.Compare a [.Is] [.Constant .none j pos'] pos) (x1 (fun d => .ok (.bl (isNon d))) fa) :=
  PE.imp (pe_cmp (pc_isN ha)) fun σ H Q ⟨en, he, h⟩ => ⟨en, he, (WPr.bind h).imp (Same.refl H) fun d p => by
    intro v H' s r
    exact by rw [rep_non r]; exact Po.pure (show Po X.K Y k (.bl (isNon d)) H Q from p) s .bl (pureD_bl _)⟩
theorem j_notN {j pos'} (ha : J X Y W .r a fa) : J X Y W k (.Compare a [.IsNot] [.Constant .none j pos'] pos) (x1 (fun d => .ok (.bl (!isNon d))) fa) :=
  PE.imp (pe_cmp (pc_notN ha)) fun σ H Q ⟨en, he, h⟩ => ⟨en, he, (WPr.bind h).imp (Same.refl H) fun d p => by
    intro v H' s r
    exact by rw [rep_non r]; exact Po.pure (show Po X.K Y k (.bl (!isNon d)) H Q from p) s .bl (pureD_bl _)⟩

/-! ### items -/
theorem atI_map {α β : Type} (f : α → β) (xs : List α) (i : Int) : atI (xs.map f) i = (atI xs i).map f := by
  unfold atI
  rw [List.length_map]
  cases ixN xs.length i with
  | none => rfl
  | some j => simp
theorem Reps.at {K : PySem.W.Frag} {H : Hp} {vs : List V} {ds : List D} {i : Int} {d : D} (r : Reps K Y H vs ds) (h : atI ds i = some d) : ∃ v, atI vs i = some v ∧ Rep K Y H v d := by
  unfold atI at h ⊢
  rw [r.length]
  cases q : ixN ds.length i with
  | none => rw [q] at h; cases h
  | some j =>
    rw [q] at h
    exact r.get (i := j) h
def oIx : D → D → Res D
  | .lst ds, .int i => match atI ds i with
    | some d => .ok d
    | none => .stuck
  | .tup ds, .int i => match atI ds i with
    | some d => .ok d
    | none => .stuck
  | .scr ns, .int i => match atI ns i with
    | some n => .ok (.int n)
    | none => .stuck
  | _, _ => .stuck
theorem oIx_calm : Calm2 oIx := fun d e x => by
  unfold oIx
  split <;> first | (split <;> exact fun h => nomatch h) | exact fun h => nomatch h
theorem op2_ix : Op2 X.K Y .r (fun x y H Q => rIxL X.K x y H Q ∨ rIxT X.K x y H Q) oIx := by
  intro H x y d e Q rx ry ⟨z, hz, po⟩
  unfold oIx at hz
  split at hz
  · split at hz
    · rename_i h
      cases hz
      cases ry
      cases rx with
      | lst hp r =>
        obtain ⟨v, hv, rv⟩ := r.at h
        exact .inl ⟨_, _, _, v, rfl, rfl, SqL.of hp, hv, po v H (Same.refl H) rv⟩
    · cases hz
  · split at hz
    · rename_i h
      cases hz
      cases ry
      cases rx with
      | tup hp r =>
        obtain ⟨v, hv, rv⟩ := r.at h
        exact .inr ⟨_, _, _, v, rfl, rfl, hp, hv, po v H (Same.refl H) rv⟩
    · cases hz
  · split at hz
    · rename_i h
      cases hz
      cases ry
      cases rx with
      | scr hp =>
        exact .inl ⟨_, _, _, _, rfl, rfl, hp, by rw [atI_map, h]; rfl, po _ H (Same.refl H) .int⟩
    · cases hz
  · cases hz
theorem j_at (ha : J X Y W .r a fa) (hb : J X Y W .r b fb) (hs : PlainIx b := by exact fun _ _ => rfl) : J X Y W .r (.Subscript a b pos) (x2 oIx fa fb) := j_ix (ix_list.or ix_tup) op2_ix oIx_calm ha hb hs
/-- an item of a new thing -/
theorem Owns.get {K : PySem.W.Frag} {H : Hp} : ∀ {vs : List V} {ds : List D} {fp : List Addr} {i : Nat} {d : D}, Owns K Y H vs ds fp → ds[i]? = some d → ∃ v g, vs[i]? = some v ∧ Own K Y H v d g ∧ g.Sublist fp
  | _, _, _, i, _, .nil, e => by simp at e
  | v :: _, _, _, 0, d, .cons h _, e => by
    have e' := Option.some.inj e
    subst e'
    exact ⟨v, _, rfl, h, List.sublist_append_left _ _⟩
  | _, _, _, i + 1, d, .cons _ r, e => by
    obtain ⟨v, g, h1, h2, h3⟩ := Owns.get (i := i) r e
    exact ⟨v, g, h1, h2, h3.trans (List.sublist_append_right _ _)⟩
theorem Owns.at {K : PySem.W.Frag} {H : Hp} {vs : List V} {ds : List D} {fp : List Addr} {i : Int} {d : D} (r : Owns K Y H vs ds fp) (h : atI ds i = some d) : ∃ v g, atI vs i = some v ∧ Own K Y H v d g ∧ g.Sublist fp := by
  unfold atI at h ⊢
  rw [r.length]
  cases q : ixN ds.length i with
  | none => rw [q] at h; cases h
  | some j =>
    rw [q] at h
    exact r.get (i := j) h
theorem Own.item {K : PySem.W.Frag} {H : Hp} {p : Addr} {ds : List D} {fp : List Addr} {i : Int} {d : D} (r : Own K Y H (.ref p) (.tup ds) fp) (h : atI ds i = some d) : ∃ vs v g, SqT K H p vs ∧ atI vs i = some v ∧ Own K Y H v d g ∧ g.Sublist fp := by
  cases r with
  | pur hp r =>
    cases r with
    | tup hq r =>
      obtain ⟨v, hv, rv⟩ := r.at h
      refine ⟨_, v, [], hq, hv, .pur ?_ rv, List.nil_sublist _⟩
      rw [pureD_tup] at hp
      unfold atI at h
      obtain ⟨j, hj, e⟩ := Option.bind_eq_some_iff.mp h
      exact pureDs_iff.mp hp d (List.mem_of_getElem? e)
  | tup hq r =>
    obtain ⟨v, g, hv, rv, hs⟩ := r.at h
    exact ⟨_, v, g, hq, hv, rv, hs⟩
theorem Own.vref {K : PySem.W.Frag} {H : Hp} {v : V} {ds : List D} {fp : List Addr} (r : Own K Y H v (.tup ds) fp) : ∃ p, v = .ref p := by
  cases r with
  | pur hp r => cases r; exact ⟨_, rfl⟩
  | tup hq r => exact ⟨_, rfl⟩
theorem jn_at (ha : J X Y W .n a fa) (hb : J X Y W .r b fb) (hs : PlainIx b := by exact fun _ _ => rfl) : J X Y W .n (.Subscript a b pos) (x2 oIx fa fb) :=
  PE.imp (pe_ix (ix_list.or ix_tup) ha hb hs) fun σ H Q ⟨en, he, h⟩ => by
    refine ⟨en, he, (WPr.bind h).imp (Same.refl H) fun d p => ?_⟩
    intro v H1 f1 s1 r1 n1 e1
    refine ⟨en, he.mono s1, (WPr.bind p).imp s1 fun e q => ?_⟩
    intro y H2 s2 ry
    obtain ⟨z, hz, po⟩ := WPr.calm (oIx_calm d e) q
    have r2 := r1.mono s2
    unfold oIx at hz
    split at hz
    · split at hz
      · rename_i h
        cases hz
        cases ry
        cases r2 with
        | pur hp _ => rw [pureD_lst] at hp; cases hp
        | lst hp r =>
          obtain ⟨v, g, hv, rv, hsub⟩ := r.at h
          exact .inl ⟨_, _, _, v, rfl, rfl, SqL.of hp, hv, po v H2 g (s1.trans s2) rv ((List.nodup_cons.mp n1).2.sublist hsub) fun p hp => e1 p (List.mem_cons_of_mem _ (hsub.subset hp))⟩
      · cases hz
    · split at hz
      · rename_i h
        cases hz
        cases ry
        obtain ⟨p, rfl⟩ := r2.vref
        obtain ⟨vs, v, g, hq, hv, rv, hsub⟩ := r2.item h
        exact .inr ⟨_, _, _, v, rfl, rfl, hq, hv, po v H2 g (s1.trans s2) rv (n1.sublist hsub) fun p hp => e1 p (hsub.subset hp)⟩
      · cases hz
    · split at hz
      · cases r2 with
        | pur hp _ => rw [pureD_scr] at hp; cases hp
      · cases hz
    · cases hz

/-! ### built-in calls of one and two values -/
theorem j_cb1 {r : List V → Hp → VK → Prop} {o : D → Res D} {id : String} {x : Str} {p : Pos} (hc : CallR X (.builtin id) r) (hr : ∀ H v d Q, Rep X.K Y H v d → (∃ z, o d = .ok z ∧ Po X.K Y k z H Q) → r [v] H Q) (hm : Calm1 o)
    (hg : Gl X x) (hmg : X.mg x = none) (hv : bootBuiltins x = some (.builtin id)) (ha : J X Y W .r a fa) (hn : x ≠ "__name__" := by decide) (hdb : (x == ("__debug__" : Str)) = false := by decide)
    (hs : starEach (a :: []) X.env = (false, eval a X.env) :: starEach [] X.env := by rfl) (hpl : (backTo pos (starEach [] X.env)).any (·.1) = false := by rfl) : J X Y W k (.Call (.Name x p) [a] [] pos) (x1 o fa) :=
  PE.imp (pe_callB hc hg hmg hv (pa_cons ha pa_nil hs) hn hdb hs hpl) fun σ H Q ⟨en, he, h⟩ => ⟨en, he, (WPr.bind h).imp (Same.refl H) fun d p => by
    intro v H1 s1 r1
    obtain ⟨z, ez, pz⟩ := WPr.calm (hm d) p
    exact hr H1 v d Q r1 ⟨z, ez, pz.mono s1⟩⟩
end
end Ow
end
section
set_option linter.all false
set_option maxRecDepth 100000
set_option maxHeartbeats 1000000
/-! Ow4: statements: slots that own, share, or stand for an item of another slot's list. -/
namespace Ow
open PySem L2 PySem.Spec

inductive Slot where
  | un | own (d : D) | fz (d : D) | ali (s j : Nat)
def Slot.dat (S : List Slot) : Slot → Option D
  | .un => none
  | .own d => some d
  | .fz d => some d
  | .ali s j => match S[s]? with
    | some (.own (.lst ds)) => ds[j]?
    | _ => none
def en (S : List Slot) : En := S.map (Slot.dat S)
def Slot.kill (i : Nat) : Slot → Slot
  | .ali s j => if s = i then .un else .ali s j
  | x => x
def setS (S : List Slot) (i : Nat) (x : Slot) : List Slot := (S.map (Slot.kill i)).set i x
/-- a value for a slot -/
def mk (d : D) : Slot := if pureD d = true then .fz d else .own d

section
variable (K : PySem.W.Frag) (Y : Cl)
def SlotOk (G : Hp) (w : Addr → Nat) (fp : Nat → List Addr) (S : List Slot) (σ : St) (H : Hp) (i : Nat) : Slot → Prop
  | .un => True
  | .own d => ∃ v, σ[i]? = some (some v) ∧ Own K Y H v d (fp i) ∧ (fp i).Nodup ∧ ∀ p ∈ fp i, w p = i ∧ G p = none
  | .fz d => ∃ v, σ[i]? = some (some v) ∧ Rep K Y G v d
  | .ali s j => ∃ ds p vs v, S[s]? = some (.own (.lst ds)) ∧ j < ds.length ∧ σ[s]? = some (some (.ref p)) ∧ H p = some (.lst vs) ∧ vs[j]? = some v ∧ σ[i]? = some (some v)
structure SatW (F : Hp) (S : List Slot) (σ : St) (H G : Hp) (w : Addr → Nat) (fp : Nat → List Addr) : Prop where
  fg : Same F G
  gh : Same G H
  fx : ∀ p o, H p = some o → fixO o = true → G p = some o
  len : S.length = σ.length
  ok : ∀ i x, S[i]? = some x → SlotOk K Y G w fp S σ H i x
def Sat (F : Hp) (S : List Slot) (σ : St) (H : Hp) : Prop := ∃ G w fp, SatW K Y F S σ H G w fp
end

section
variable {K : PySem.W.Frag} {Y : Cl} {F H H' : Hp} {S : List Slot} {σ : St}
theorem Sat.same (h : Sat K Y F S σ H) : Same F H := by
  obtain ⟨G, w, fp, s⟩ := h
  exact s.fg.trans s.gh
theorem Sat.len (h : Sat K Y F S σ H) : S.length = σ.length := by
  obtain ⟨G, w, fp, s⟩ := h
  exact s.len
theorem Own.lst_inv {p : Addr} {ds : List D} {fp : List Addr} {v : V} (h : Own K Y H v (.lst ds) fp) : ∃ p vs g, v = .ref p ∧ H p = some (.lst vs) ∧ Owns K Y H vs ds g ∧ fp = p :: g := by
  cases h with
  | pur hp _ => rw [pureD_lst] at hp; cases hp
  | lst hp r => exact ⟨_, _, _, rfl, hp, r, rfl⟩
theorem SatW.dat {G : Hp} {w : Addr → Nat} {fp : Nat → List Addr} (s : SatW K Y F S σ H G w fp) {i : Nat} {x : Slot} {d : D} (hx : S[i]? = some x) (hd : x.dat S = some d) : ∃ v, σ[i]? = some (some v) ∧ Rep K Y H v d := by
  have h := s.ok i x hx
  cases x with
  | un => cases hd
  | own d' =>
    cases hd
    obtain ⟨v, a, b, _⟩ := h
    exact ⟨v, a, b.rep⟩
  | fz d' =>
    cases hd
    obtain ⟨v, a, b⟩ := h
    exact ⟨v, a, b.mono s.gh⟩
  | ali t j =>
    obtain ⟨ds, p, vs, v, h1, h2, h3, h4, h5, h6⟩ := h
    simp only [Slot.dat, h1] at hd
    obtain ⟨v', a, b, _⟩ := s.ok t _ h1
    rw [h3] at a
    cases a
    obtain ⟨p', vs', g, e1, e2, e3, e4⟩ := b.lst_inv (p := p)
    cases e1
    rw [h4] at e2
    cases e2
    obtain ⟨u, hu, ru⟩ := e3.reps.get (i := j) hd
    rw [h5] at hu
    cases hu
    exact ⟨v, h6, ru⟩
theorem en_get {i : Nat} {d : D} (h : (en S)[i]? = some (some d)) : ∃ x, S[i]? = some x ∧ x.dat S = some d := by
  unfold en at h
  rw [List.getElem?_map] at h
  cases q : S[i]? with
  | none => rw [q] at h; cases h
  | some x =>
    rw [q] at h
    exact ⟨x, rfl, Option.some.inj h⟩
theorem Sat.en (h : Sat K Y F S σ H) : EnOk K Y H σ (en S) := ⟨by unfold Ow.en; rw [List.length_map]; exact h.len, fun i d e => by
  obtain ⟨G, w, fp, s⟩ := h
  obtain ⟨x, hx, hd⟩ := en_get e
  exact s.dat hx hd⟩
/-- the shared part, with what never changes of a later heap -/
def grow (G H : Hp) : Hp := fun p => match G p with
  | some o => some o
  | none => match H p with
    | some o => if fixO o = true then some o else none
    | none => none
theorem grow_same {G H : Hp} : Same G (grow G H) := fun p o e => by
  unfold grow
  rw [e]
theorem grow_to {G H : Hp} (s : Same G H) : Same (grow G H) H := fun p o e => by
  unfold grow at e
  cases q : G p with
  | some u =>
    rw [q] at e
    cases e
    exact s p _ q
  | none =>
    rw [q] at e
    cases q2 : H p with
    | none => rw [q2] at e; cases e
    | some u =>
      rw [q2] at e
      dsimp only at e
      by_cases hf : fixO u = true
      · rw [if_pos hf] at e
        exact e
      · rw [if_neg hf] at e
        cases e
theorem grow_fix {G H : Hp} (s : Same G H) {p : Addr} {o : HO} (e : H p = some o) (hf : fixO o = true) : grow G H p = some o := by
  unfold grow
  cases q : G p with
  | some u =>
    have := s p u q
    rw [e] at this
    exact this.symm
  | none =>
    rw [e]
    show (if fixO o = true then some o else none) = some o
    rw [if_pos hf]
theorem grow_none {G H : Hp} {p : Addr} (g : G p = none) (h : ∀ o, H p = some o → fixO o = false) : grow G H p = none := by
  unfold grow
  rw [g]
  cases q : H p with
  | none => rfl
  | some o =>
    show (if fixO o = true then some o else none) = none
    rw [if_neg (by rw [h o q]; exact Bool.false_ne_true)]
theorem kill_ne {i : Nat} {x y : Slot} (h : x.kill i = y) : (y = .un ∧ ∃ j, x = .ali i j) ∨ (x = y ∧ ∀ j, x ≠ .ali i j) := by
  cases x with
  | ali s j =>
    by_cases e : s = i
    · subst e
      refine .inl ⟨?_, j, rfl⟩
      rw [← h]
      exact if_pos rfl
    · refine .inr ⟨?_, fun j' q => ?_⟩
      · rw [← h]
        exact (if_neg e).symm
      · cases q
        exact e rfl
  | un => exact .inr ⟨h, fun j q => nomatch q⟩
  | own d => exact .inr ⟨h, fun j q => nomatch q⟩
  | fz d => exact .inr ⟨h, fun j q => nomatch q⟩
theorem setS_get {i k : Nat} {x y : Slot} (h : (setS S i x)[k]? = some y) : (k = i ∧ y = x ∧ i < S.length) ∨ (k ≠ i ∧ ∃ z, S[k]? = some z ∧ z.kill i = y) := by
  unfold setS at h
  by_cases e : k = i
  · subst e
    by_cases hl : k < S.length
    · rw [List.getElem?_set_self (by simpa using hl)] at h
      exact .inl ⟨rfl, (Option.some.inj h).symm, hl⟩
    · rw [List.getElem?_eq_none (by simpa using Nat.le_of_not_lt hl)] at h
      cases h
  · rw [List.getElem?_set_ne (Ne.symm e), List.getElem?_map] at h
    cases q : S[k]? with
    | none => rw [q] at h; cases h
    | some z =>
      rw [q] at h
      exact .inr ⟨e, z, rfl, Option.some.inj h⟩
theorem setS_len {i : Nat} {x : Slot} : (setS S i x).length = S.length := by simp [setS]
theorem setS_ne {i s : Nat} {x y : Slot} (hs : S[s]? = some y) (hn : ∀ j, y ≠ .ali i j) (e : s ≠ i) : (setS S i x)[s]? = some y := by
  unfold setS
  rw [List.getElem?_set_ne (Ne.symm e), List.getElem?_map, hs]
  show some (y.kill i) = some y
  cases y with
  | ali t j =>
    have : t ≠ i := fun q => hn j (by rw [q])
    show some (if t = i then Slot.un else .ali t j) = some (.ali t j)
    rw [if_neg this]
  | un => rfl
  | own d => rfl
  | fz d => rfl
/-- slots other than i, behind a store to i: the heap grows, the owner's map and the shared part may grow -/
theorem SatW.keep {G G' : Hp} {w w' : Addr → Nat} {fp fp' : Nat → List Addr} (s : SatW K Y F S σ H G w fp) {i k : Nat} {v : V} {x : Slot} (sh : Same H H') (sg : Same G G')
    (hG : ∀ k, k ≠ i → ∀ p ∈ fp k, w p = k → G p = none → (∃ o, H p = some o ∧ fixO o = false) → w' p = k ∧ G' p = none) (hf : ∀ k, k ≠ i → fp' k = fp k) {z y : Slot} (hk : k ≠ i) (hz : S[k]? = some z) (hy : z.kill i = y) :
    SlotOk K Y G' w' fp' (setS S i x) (σ.set i (some v)) H' k y := by
  have h := s.ok k z hz
  rcases kill_ne hy with ⟨e, _⟩ | ⟨e, hn⟩
  · subst e
    trivial
  · subst e
    cases z with
    | un => trivial
    | own d =>
      obtain ⟨u, a, b, c, q⟩ := h
      refine ⟨u, by rw [List.getElem?_set_ne (Ne.symm hk)]; exact a, ?_, ?_, ?_⟩
      · rw [hf k hk]
        exact b.mono sh
      · rw [hf k hk]
        exact c
      · rw [hf k hk]
        exact fun p hp => hG k hk p hp (q p hp).1 (q p hp).2 (b.there p hp)
    | fz d =>
      obtain ⟨u, a, b⟩ := h
      exact ⟨u, by rw [List.getElem?_set_ne (Ne.symm hk)]; exact a, b.mono sg⟩
    | ali t j =>
      obtain ⟨ds, p, vs, u, h1, h2, h3, h4, h5, h6⟩ := h
      have ht : t ≠ i := fun q => hn j (by rw [q])
      refine ⟨ds, p, vs, u, setS_ne h1 (fun j q => nomatch q) ht, h2, ?_, sh _ _ h4, h5, ?_⟩
      · rw [List.getElem?_set_ne (Ne.symm ht)]
        exact h3
      · rw [List.getElem?_set_ne (Ne.symm hk)]
        exact h6
/-- a slot gets a value of its own (or a pure one) -/
theorem Sat.setMk (h : Sat K Y F S σ H) (sh : Same H H') {i : Nat} {v : V} {d : D} {f : List Addr} (o : Own K Y H' v d f) (nd : f.Nodup) (fr : ∀ p ∈ f, H p = none) : Sat K Y F (setS S i (mk d)) (σ.set i (some v)) H' := by
  obtain ⟨G, w, fp, s⟩ := h
  have gh' : Same G H' := s.gh.trans sh
  refine ⟨grow G H', fun p => if p ∈ f then i else w p, fun k => if k = i then f else fp k, s.fg.trans grow_same, grow_to gh', fun p o e hf => grow_fix gh' e hf, by rw [setS_len, List.length_set]; exact s.len, fun k y hy => ?_⟩
  rcases setS_get hy with ⟨rfl, rfl, hl⟩ | ⟨hk, z, hz, hzy⟩
  · have hσ : (σ.set k (some v))[k]? = some (some v) := by rw [List.getElem?_set_self (by rw [← s.len]; exact hl)]
    unfold mk
    by_cases hp : pureD d = true
    · rw [if_pos hp]
      exact ⟨v, hσ, o.rep.fix (fun p u e hf => grow_fix gh' e hf) hp⟩
    · rw [if_neg hp]
      have e1 : (fun k' => if k' = k then f else fp k') k = f := if_pos rfl
      refine ⟨v, hσ, ?_, ?_, ?_⟩
      · rw [e1]; exact o
      · rw [e1]; exact nd
      · rw [e1]
        intro p hm
        refine ⟨if_pos hm, ?_⟩
        obtain ⟨u, hu, hx⟩ := o.there p hm
        refine grow_none ?_ fun u' e => ?_
        · cases q : G p with
          | none => rfl
          | some u2 =>
            have := s.gh p u2 q
            rw [fr p hm] at this
            cases this
        · rw [hu] at e
          cases e
          exact hx
  · refine s.keep sh grow_same (fun k hk p hp hw hg ⟨u, hu, hx⟩ => ?_) (fun k hk => if_neg hk) hk hz hzy
    have hn : p ∉ f := fun hm => by
      rw [fr p hm] at hu
      cases hu
    refine ⟨by rw [if_neg hn]; exact hw, grow_none hg fun u' e => ?_⟩
    rw [sh p u hu] at e
    cases e
    exact hx
/-- nothing but new things -/
theorem Sat.ext (h : Sat K Y F S σ H) (sh : Same H H') : Sat K Y F S σ H' := by
  obtain ⟨G, w, fp, s⟩ := h
  have gh' : Same G H' := s.gh.trans sh
  refine ⟨grow G H', w, fp, s.fg.trans grow_same, grow_to gh', fun p o e hf => grow_fix gh' e hf, s.len, fun k y hy => ?_⟩
  have h := s.ok k y hy
  cases y with
  | un => trivial
  | own d =>
    obtain ⟨u, a, b, c, q⟩ := h
    refine ⟨u, a, b.mono sh, c, fun p hp => ⟨(q p hp).1, grow_none (q p hp).2 fun o e => ?_⟩⟩
    obtain ⟨o', ho, hx⟩ := b.there p hp
    rw [sh p o' ho] at e
    cases e
    exact hx
  | fz d =>
    obtain ⟨u, a, b⟩ := h
    exact ⟨u, a, b.mono grow_same⟩
  | ali t j =>
    obtain ⟨ds, p, vs, u, h1, h2, h3, h4, h5, h6⟩ := h
    exact ⟨ds, p, vs, u, h1, h2, h3, sh _ _ h4, h5, h6⟩
/-- the shared part may be taken for the frame -/
theorem Sat.deep (h : Sat K Y F S σ H) : ∃ G, Same F G ∧ Same G H ∧ Sat K Y G S σ H ∧ ∀ (i : Nat) (d : D), S[i]? = some (Slot.fz d) → ∃ v, σ[i]? = some (some v) ∧ Rep K Y G v d := by
  obtain ⟨G, w, fp, s⟩ := h
  exact ⟨G, s.fg, s.gh, ⟨G, w, fp, Same.refl G, s.gh, s.fx, s.len, s.ok⟩, fun i d e => s.ok i _ e⟩
theorem Sat.shallow {G : Hp} (fg : Same F G) (h : Sat K Y G S σ H) : Sat K Y F S σ H := by
  obtain ⟨G', w, fp, s⟩ := h
  exact ⟨G', w, fp, fg.trans s.fg, s.gh, s.fx, s.len, s.ok⟩
/-- a slot gets a value that stands in the frame -/
theorem Sat.setFz (h : Sat K Y F S σ H) {i : Nat} {v : V} {d : D} (r : Rep K Y F v d) : Sat K Y F (setS S i (.fz d)) (σ.set i (some v)) H := by
  obtain ⟨G, w, fp, s⟩ := h
  refine ⟨G, w, fp, s.fg, s.gh, s.fx, by rw [setS_len, List.length_set]; exact s.len, fun k y hy => ?_⟩
  rcases setS_get hy with ⟨rfl, rfl, hl⟩ | ⟨hk, z, hz, hzy⟩
  · exact ⟨v, by rw [List.getElem?_set_self (by rw [← s.len]; exact hl)], r.mono s.fg⟩
  · exact s.keep (Same.refl H) (Same.refl G) (fun k hk p hp hw hg _ => ⟨hw, hg⟩) (fun k hk => rfl) hk hz hzy
/-- a slot gets a pure value -/
theorem Sat.setPure (h : Sat K Y F S σ H) (sh : Same H H') {i : Nat} {v : V} {d : D} (r : Rep K Y H' v d) (hp : pureD d = true) : Sat K Y F (setS S i (.fz d)) (σ.set i (some v)) H' := by
  have q := h.setMk sh (i := i) (.pur hp r) .nil (fun _ z => nomatch z)
  unfold mk at q
  rw [if_pos hp] at q
  exact q
/-- a slot gets an item of another slot's own list -/
theorem Sat.setAli (h : Sat K Y F S σ H) {i t j : Nat} {ds : List D} {p : Addr} {vs : List V} {v : V} (ht : S[t]? = some (.own (.lst ds))) (hj : j < ds.length) (hσ : σ[t]? = some (some (.ref p))) (hp : H p = some (.lst vs)) (hv : vs[j]? = some v) (hit : t ≠ i) :
    Sat K Y F (setS S i (.ali t j)) (σ.set i (some v)) H := by
  obtain ⟨G, w, fp, s⟩ := h
  refine ⟨G, w, fp, s.fg, s.gh, s.fx, by rw [setS_len, List.length_set]; exact s.len, fun k y hy => ?_⟩
  rcases setS_get hy with ⟨rfl, rfl, hl⟩ | ⟨hk, z, hz, hzy⟩
  · refine ⟨ds, p, vs, v, setS_ne ht (fun j q => nomatch q) hit, hj, ?_, hp, hv, ?_⟩
    · rw [List.getElem?_set_ne (Ne.symm hit)]
      exact hσ
    · rw [List.getElem?_set_self (by rw [← s.len]; exact hl)]
  · exact s.keep (Same.refl H) (Same.refl G) (fun k hk p hp hw hg _ => ⟨hw, hg⟩) (fun k hk => rfl) hk hz hzy
end

/-! ### how a block ends -/
inductive Fl where
  | nx (S : List Slot) | rt (d : D) (S : List Slot) | bk (S : List Slot) | ct (S : List Slot)
def RetOk (K : PySem.W.Frag) (Y : Cl) (F H : Hp) (v : V) (d : D) : Prop := Same F H ∧ ∃ fp, Own K Y H v d fp ∧ fp.Nodup ∧ ∀ p ∈ fp, F p = none
abbrev Md := Nat → Bool
/-- the slots that M does not name stand as they stood -/
def Stay (M : Md) (σ σ' : St) : Prop := ∀ i, M i = false → σ'[i]? = σ[i]?
theorem Stay.refl (M : Md) (σ : St) : Stay M σ σ := fun _ _ => rfl
theorem Stay.trans {M : Md} {σ σ1 σ2 : St} (a : Stay M σ σ1) (b : Stay M σ1 σ2) : Stay M σ σ2 := fun i h => (b i h).trans (a i h)
theorem Stay.set {M : Md} {σ : St} {i : Nat} {v : Option V} (h : M i = true) : Stay M σ (σ.set i v) := fun k hk => by
  by_cases e : k = i
  · subst e
    rw [h] at hk
    cases hk
  · rw [List.getElem?_set_ne (Ne.symm e)]
theorem Stay.mono {M M' : Md} {σ σ' : St} (a : Stay M σ σ') (h : ∀ i, M' i = false → M i = false) : Stay M' σ σ' := fun i hi => a i (h i hi)
/-- a slot more -/
def more (S : List Slot) (x : Slot) : List Slot := setS (S ++ [.un]) S.length x
def moreV (σ : St) (n : Nat) (v : V) : St := (σ ++ [none]).set n (some v)
def RetS (K : PySem.W.Frag) (Y : Cl) (M : Md) (F : Hp) (σ : St) (S' : List Slot) (H' : Hp) (v : V) (d : D) : Prop := ∃ σ', Stay M σ σ' ∧ Sat K Y F (more S' (mk d)) (moreV σ' S'.length v) H'
theorem RetS.stay {K : PySem.W.Frag} {Y : Cl} {M : Md} {F : Hp} {σ0 σ : St} {S' : List Slot} {H' : Hp} {v : V} {d : D} (y : Stay M σ0 σ) (h : RetS K Y M F σ S' H' v d) : RetS K Y M F σ0 S' H' v d := by
  obtain ⟨σ', a, b⟩ := h
  exact ⟨σ', y.trans a, b⟩
theorem RetS.shallow {K : PySem.W.Frag} {Y : Cl} {M : Md} {F G : Hp} {σ : St} {S' : List Slot} {H' : Hp} {v : V} {d : D} (y : Same F G) (h : RetS K Y M G σ S' H' v d) : RetS K Y M F σ S' H' v d := by
  obtain ⟨σ', a, b⟩ := h
  exact ⟨σ', a, b.shallow y⟩
theorem more_get {S : List Slot} {x : Slot} : (more S x)[S.length]? = some x := by
  unfold more setS
  rw [List.getElem?_set_self (by simp)]
theorem RetS.ok {K : PySem.W.Frag} {Y : Cl} {M : Md} {F : Hp} {σ : St} {S' : List Slot} {H' : Hp} {v : V} {d : D} (h : RetS K Y M F σ S' H' v d) : RetOk K Y F H' v d := by
  obtain ⟨σ', _, s⟩ := h
  have s0 := s
  obtain ⟨G, w, fp, sw⟩ := s
  have hl := sw.len
  have hσ : ∀ u, (moreV σ' S'.length v)[S'.length]? = some (some u) → u = v := fun u hu => by
    unfold moreV at hu
    have hl' : S'.length < (σ' ++ [none]).length := by
      simp [more, moreV, setS] at hl
      simp
      omega
    rw [List.getElem?_set_self hl'] at hu
    exact (Option.some.inj (Option.some.inj hu)).symm
  have q := sw.ok S'.length _ more_get
  unfold mk at q
  by_cases hp : pureD d = true
  · rw [if_pos hp] at q
    obtain ⟨u, a, r⟩ := q
    rw [hσ u a] at r
    exact ⟨s0.same, [], .pur hp (r.mono sw.gh), .nil, fun _ z => nomatch z⟩
  · rw [if_neg hp] at q
    obtain ⟨u, a, o, nd, z⟩ := q
    rw [hσ u a] at o
    exact ⟨s0.same, _, o, nd, fun p hp => sw.fg.free (z p hp).2⟩
/-- a slot more that holds nothing -/
theorem Sat.more {K : PySem.W.Frag} {Y : Cl} {F H : Hp} {S : List Slot} {σ : St} (h : Sat K Y F S σ H) : Sat K Y F (S ++ [.un]) (σ ++ [none]) H := by
  obtain ⟨G, w, fp, s⟩ := h
  refine ⟨G, w, fp, s.fg, s.gh, s.fx, by simp [s.len], fun k y hy => ?_⟩
  by_cases hk : k < S.length
  · rw [List.getElem?_append_left hk] at hy
    have hk' : k < σ.length := by rw [← s.len]; exact hk
    have q := s.ok k y hy
    cases y with
    | un => trivial
    | own d =>
      obtain ⟨u, a, b⟩ := q
      exact ⟨u, by rw [List.getElem?_append_left hk']; exact a, b⟩
    | fz d =>
      obtain ⟨u, a, b⟩ := q
      exact ⟨u, by rw [List.getElem?_append_left hk']; exact a, b⟩
    | ali t j =>
      obtain ⟨ds, p, vs, u, h1, h2, h3, h4, h5, h6⟩ := q
      have ht : t < S.length := (List.getElem?_eq_some_iff.mp h1).1
      have ht' : t < σ.length := by rw [← s.len]; exact ht
      exact ⟨ds, p, vs, u, by rw [List.getElem?_append_left ht]; exact h1, h2, by rw [List.getElem?_append_left ht']; exact h3, h4, h5, by rw [List.getElem?_append_left hk']; exact h6⟩
  · have : k = S.length := by
      have := (List.getElem?_eq_some_iff.mp hy).1
      simp at this
      omega
    subst this
    rw [List.getElem?_append_right (Nat.le_refl _)] at hy
    simp at hy
    subst hy
    trivial
/-- a slot forgets -/
theorem Sat.setUn' {K : PySem.W.Frag} {Y : Cl} {F H : Hp} {S : List Slot} {σ : St} (h : Sat K Y F S σ H) (i : Nat) : Sat K Y F (setS S i .un) σ H := by
  obtain ⟨G, w, fp, s⟩ := h
  refine ⟨G, w, fp, s.fg, s.gh, s.fx, by rw [setS_len]; exact s.len, fun k y hy => ?_⟩
  rcases setS_get hy with ⟨rfl, rfl, hl⟩ | ⟨hk, z, hz, hzy⟩
  · trivial
  · rcases kill_ne hzy with ⟨rfl, _⟩ | ⟨rfl, hn⟩
    · trivial
    · have q := s.ok k z hz
      cases z with
      | un => trivial
      | own d => exact q
      | fz d => exact q
      | ali t m =>
        obtain ⟨ds, p, vs, u', h1, h2, h3, h4, h5, h6⟩ := q
        have e2 : t ≠ i := fun e => hn m (by rw [e])
        exact ⟨ds, p, vs, u', setS_ne h1 (fun j q => nomatch q) e2, h2, h3, h4, h5, h6⟩
/-- what a slot owns goes to another one -/
theorem Sat.move {K : PySem.W.Frag} {Y : Cl} {F H : Hp} {S : List Slot} {σ : St} (h : Sat K Y F S σ H) {i k : Nat} {d : D} {v : V} (hi : S[i]? = some (.own d)) (hv : σ[i]? = some (some v)) (hik : k ≠ i) :
    Sat K Y F (setS (setS S i .un) k (.own d)) (σ.set k (some v)) H := by
  obtain ⟨G, w, fp, s⟩ := h
  obtain ⟨u, a, o, nd, z⟩ := s.ok i _ hi
  rw [hv] at a
  cases a
  refine ⟨G, fun p => if p ∈ fp i then k else w p, fun j => if j = k then fp i else fp j, s.fg, s.gh, s.fx, by rw [setS_len, setS_len, List.length_set]; exact s.len, fun j y hy => ?_⟩
  rcases setS_get hy with ⟨rfl, rfl, hl⟩ | ⟨hj, x, hx, hxy⟩
  · rw [setS_len] at hl
    refine ⟨v, by rw [List.getElem?_set_self (by rw [← s.len]; exact hl)], ?_, ?_, ?_⟩
    · simpa using o
    · simpa using nd
    · intro p hp
      have hp' : p ∈ fp i := by simpa using hp
      exact ⟨if_pos hp', (z p hp').2⟩
  · rcases kill_ne hxy with ⟨rfl, _⟩ | ⟨rfl, hn⟩
    · trivial
    · rcases setS_get hx with ⟨rfl, rfl, hl⟩ | ⟨hji, x0, hx0, hxy0⟩
      · trivial
      · rcases kill_ne hxy0 with ⟨rfl, _⟩ | ⟨rfl, hn0⟩
        · trivial
        · have q := s.ok j _ hx0
          cases x0 with
          | un => trivial
          | own d' =>
            obtain ⟨u', a', b', c', q'⟩ := q
            refine ⟨u', by rw [List.getElem?_set_ne (Ne.symm hj)]; exact a', ?_, ?_, ?_⟩
            · simpa [hj] using b'
            · simpa [hj] using c'
            · intro p hp
              have hp : p ∈ fp j := by simpa [hj] using hp
              have hw := (q' p hp).1
              refine ⟨?_, (q' p hp).2⟩
              show (if p ∈ fp i then k else w p) = j
              rw [if_neg (fun hm => hji (by rw [← hw, (z p hm).1]))]
              exact hw
          | fz d' =>
            obtain ⟨u', a', b'⟩ := q
            exact ⟨u', by rw [List.getElem?_set_ne (Ne.symm hj)]; exact a', b'⟩
          | ali t m =>
            obtain ⟨ds, p, vs, u', h1, h2, h3, h4, h5, h6⟩ := q
            have e1 : t ≠ k := fun e => hn m (by rw [e])
            have e2 : t ≠ i := fun e => hn0 m (by rw [e])
            refine ⟨ds, p, vs, u', setS_ne (setS_ne h1 (fun j q => nomatch q) e2) (fun j q => nomatch q) e1, h2, by rw [List.getElem?_set_ne (Ne.symm e1)]; exact h3, h4, h5, by rw [List.getElem?_set_ne (Ne.symm hj)]; exact h6⟩
def WPs (K : PySem.W.Frag) (Y : Cl) (W : Wh) (M : Md) (F : Hp) (D' : Ends) (σ : St) (r : Res Fl) : Prop :=
  match r with
  | .ok (.nx S') => ∀ σ' H', Sat K Y F S' σ' H' → Stay M σ σ' → D'.nx σ' H'
  | .ok (.rt d S') => ∀ v H', RetS K Y M F σ S' H' v d → D'.rt v H'
  | .ok (.bk S') => ∀ σ' H', Sat K Y F S' σ' H' → Stay M σ σ' → D'.bk σ' H'
  | .ok (.ct S') => ∀ σ' H', Sat K Y F S' σ' H' → Stay M σ σ' → D'.ct σ' H'
  | .exc e => ∃ w, W = some w ∧ ∀ cls d σ' H', Same F H' → ExRep K Y H' e cls d → w cls d σ' H'
  | .stuck => False
def tS (K : PySem.W.Frag) (Y : Cl) (W : Wh) (M : Md) (g : List Slot → Res Fl) : TS := fun D σ H => ∃ F S, Sat K Y F S σ H ∧ WPs K Y W M F D σ (g S)
def JS (X : Cx) (Y : Cl) (W : Wh) (M : Md) (st : Stmt) (g : List Slot → Res Fl) : Prop := PS X st (tS X.K Y W M g)
def JB (X : Cx) (Y : Cl) (W : Wh) (M : Md) (st : List Stmt) (g : List Slot → Res Fl) : Prop := PSs X st (tS X.K Y W M g)

section
variable {K : PySem.W.Frag} {Y : Cl} {W : Wh} {M : Md} {F H H' : Hp} {S : List Slot} {σ : St} {Dn : Ends}
/-- an expression ahead -/
theorem WPs.bind {σ0 : St} {r : Res D} {g : D → Res Fl} (h : WPs K Y W M F Dn σ0 (r >>= g)) (sf : Same F H) : WPr K Y W σ H r fun d => WPs K Y W M F Dn σ0 (g d) := by
  cases r with
  | ok d => exact h
  | exc e =>
    obtain ⟨w, a, b⟩ := h
    exact ⟨w, a, fun cls d H' s' x => b cls d σ H' (sf.trans s') x⟩
  | stuck => exact h
theorem WPs.bindB {σ0 : St} {r : Res Bool} {g : Bool → Res Fl} (h : WPs K Y W M F Dn σ0 (r >>= g)) (sf : Same F H) : WPr K Y W σ H r fun d => WPs K Y W M F Dn σ0 (g d) := by
  cases r with
  | ok d => exact h
  | exc e =>
    obtain ⟨w, a, b⟩ := h
    exact ⟨w, a, fun cls d H' s' x => b cls d σ H' (sf.trans s') x⟩
  | stuck => exact h
theorem WPs.bindL {σ0 : St} {r : Res (List D)} {g : List D → Res Fl} (h : WPs K Y W M F Dn σ0 (r >>= g)) (sf : Same F H) : WPr K Y W σ H r fun d => WPs K Y W M F Dn σ0 (g d) := by
  cases r with
  | ok d => exact h
  | exc e =>
    obtain ⟨w, a, b⟩ := h
    exact ⟨w, a, fun cls d H' s' x => b cls d σ H' (sf.trans s') x⟩
  | stuck => exact h
end

/-! ### the statements' words -/
def bN : List Slot → Res Fl := fun S => .ok (.nx S)
def bSeq (f g : List Slot → Res Fl) : List Slot → Res Fl := fun S => f S >>= fun r => match r with
  | .nx S' => g S'
  | r => .ok r
def sSet (i : Nat) (f : En → Res D) : List Slot → Res Fl := fun S => f (en S) >>= fun d => .ok (.nx (setS S i (mk d)))
def sRet (f : En → Res D) : List Slot → Res Fl := fun S => f (en S) >>= fun d => .ok (.rt d S)
def sDo (f : En → Res D) : List Slot → Res Fl := fun S => f (en S) >>= fun _ => .ok (.nx S)
def sIf (c : En → Res Bool) (f g : List Slot → Res Fl) : List Slot → Res Fl := fun S => c (en S) >>= fun b => if b = true then f S else g S
def sRetV (i : Nat) : List Slot → Res Fl := fun S => match S[i]? with
  | some (.own d) => .ok (.rt d (setS S i .un))
  | some (.fz d) => if pureD d = true then .ok (.rt d S) else .stuck
  | _ => .stuck
def sPar (i j : Nat) (f g : En → Res D) : List Slot → Res Fl := fun S => f (en S) >>= fun d => g (en S) >>= fun e =>
  if (pureD d && pureD e) = true then .ok (.nx (setS (setS S i (.fz d)) j (.fz e))) else .stuck

section
variable {X : Cx} {Y : Cl} {W : Wh} {M : Md} {st : Stmt} {rest : List Stmt} {pos : Pos} {f g h : List Slot → Res Fl} {e a b : Expr} {fe fa fb : En → Res D}
theorem b_nil : JB X Y W M [] bN := PSs.imp pss_nil fun D σ H ⟨F, S, s, h⟩ => h σ H s (Stay.refl M σ)
theorem b_cons (h1 : JS X Y W M st f) (h2 : JB X Y W M rest g) : JB X Y W M (st :: rest) (bSeq f g) :=
  PSs.imp (pss_cons h1 h2) fun D σ H ⟨F, S, s, h⟩ => ⟨F, S, s, by
    unfold bSeq at h
    cases q : f S with
    | stuck => rw [q] at h; exact h
    | exc x => rw [q] at h; exact h
    | ok r =>
      rw [q] at h
      cases r with
      | rt d S2 => exact h
      | bk S' => exact h
      | ct S' => exact h
      | nx S' =>
        intro σ' H' s' st'
        refine ⟨F, S', s', ?_⟩
        have h' : WPs X.K Y W M F D σ (g S') := h
        cases q2 : g S' with
        | stuck => rw [q2] at h'; exact h'
        | exc x => rw [q2] at h'; exact h'
        | ok r2 =>
          rw [q2] at h'
          cases r2 with
          | rt d S2 => exact fun v H2 r => h' v H2 (r.stay st')
          | nx S2 => exact fun σ2 H2 s2 t2 => h' σ2 H2 s2 (st'.trans t2)
          | bk S2 => exact fun σ2 H2 s2 t2 => h' σ2 H2 s2 (st'.trans t2)
          | ct S2 => exact fun σ2 H2 s2 t2 => h' σ2 H2 s2 (st'.trans t2)⟩
theorem b_one (h1 : JS X Y W M st f) : JB X Y W M [st] f := pss_one h1
theorem s_pass : JS X Y W M (.Pass pos) bN := PS.imp ps_pass fun D σ H ⟨F, S, s, h⟩ => h σ H s (Stay.refl M σ)
theorem s_break : JS X Y W M (.Break pos) (fun S => .ok (.bk S)) := PS.imp ps_break fun D σ H ⟨F, S, s, h⟩ => h σ H s (Stay.refl M σ)
theorem s_cont : JS X Y W M (.Continue pos) (fun S => .ok (.ct S)) := PS.imp ps_continue fun D σ H ⟨F, S, s, h⟩ => h σ H s (Stay.refl M σ)
theorem Sat.put {K : PySem.W.Frag} {F H H' : Hp} {S : List Slot} {σ : St} {i : Nat} {d : D} {D' : Ends} (s : Sat K Y F S σ H) (hM : M i = true) (p : WPs K Y W M F D' σ (.ok (.nx (setS S i (mk d))))) :
    Po K Y .n d H fun v H1 => D'.nx (σ.set i (some v)) H1 := fun v H1 fp sh o nd fr => p _ _ (s.setMk sh o nd fr) (Stay.set hM)
theorem s_set (i : Nat) {x : Str} {p' : Pos} (hN : X.N.Nodup) (he : J X Y W .n e fe) (hi : X.N[i]? = some x := by rfl) (hx : Loc X.env.scope x := by first | exact Or.inl rfl | exact Or.inr rfl) (hM : M i = true := by rfl) (hs : swapsWith e (some (.Name x p')) pos.line X.env = pure false := by rfl)
    (hf : X.fn x = true ∨ X.env.scope.names.lookup x = some .local := by first | exact .inl rfl | exact .inr rfl) : JS X Y W M (.Assign [.Name x p'] e pos) (sSet i fe) :=
  PS.imp (ps_set hN hi hx he hs hf) fun D σ H ⟨F, S, s, h⟩ => ⟨en S, s.en, (WPs.bind h s.same).imp (Same.refl H) fun d p => s.put (H' := H) hM p⟩
theorem s_ret (he : J X Y W .n e fe) : JS X Y W M (.Return (some e) pos) (sRet fe) :=
  PS.imp (ps_ret he) fun D σ H ⟨F, S, s, h⟩ => ⟨en S, s.en, (WPs.bind h s.same).imp (Same.refl H) fun d p => fun v H1 fp sh o nd fr => p v H1 ⟨σ, Stay.refl M σ, (s.more.setMk (i := S.length) sh o nd fr)⟩⟩
theorem s_retN : JS X Y W M (.Return none pos) (fun S => .ok (.rt .non S)) :=
  PS.imp ps_retN fun D σ H ⟨F, S, s, h⟩ => h .non H ⟨σ, Stay.refl M σ, s.more.setMk (i := S.length) (Same.refl H) (.pur pureD_non .non) .nil (fun _ z => nomatch z)⟩
theorem s_do (he : J X Y W .r e fe) (hs : swapsWith e none pos.line X.env = pure false := by rfl) : JS X Y W M (.Expr e pos) (sDo fe) :=
  PS.imp (ps_expr he hs) fun D σ H ⟨F, S, s, h⟩ => ⟨en S, s.en, (WPs.bind h s.same).imp (Same.refl H) fun d p => fun v H1 sh r => p σ H1 (s.ext sh) (Stay.refl M σ)⟩
theorem s_if {c : Expr} {ga : En → Res Bool} {sa sb : List Stmt} (hc : T X Y W c ga) (ha : JB X Y W M sa f) (hb : JB X Y W M sb g) : JS X Y W M (.If c sa sb pos) (sIf ga f g) :=
  PS.imp (ps_if hc ha hb) fun D σ H ⟨F, S, s, h⟩ => ⟨en S, s.en, (WPs.bindB h s.same).imp (Same.refl H) fun d p => fun H1 sh => by
    cases d with
    | true =>
      rw [if_pos rfl] at p ⊢
      exact ⟨F, S, s.ext sh, p⟩
    | false =>
      rw [if_neg Bool.false_ne_true] at p ⊢
      exact ⟨F, S, s.ext sh, p⟩⟩
theorem s_retV (i : Nat) {x : Str} {p' : Pos} (hN : X.N[i]? = some x := by rfl) (hv : Vis X.env.scope x := by first | exact Or.inl rfl | exact Or.inr (Or.inl rfl) | exact Or.inr (Or.inr rfl)) (hd : (x == ("__debug__" : Str)) = false := by decide)
    (hcd : (x == ("__classdict__" : Str)) = false := by decide) : JS X Y W M (.Return (some (.Name x p')) pos) (sRetV i) :=
  PS.imp (ps_ret (pe_var hN hv hd hcd)) fun D σ H ⟨F, S, s, h⟩ => by
    have s0 := s
    obtain ⟨G, w, fp, sw⟩ := s
    unfold sRetV at h
    cases q : S[i]? with
    | none => rw [q] at h; exact h.elim
    | some x =>
      rw [q] at h
      cases x with
      | un => exact h.elim
      | ali s j => exact h.elim
      | own d =>
        obtain ⟨v, a, o, nd, z⟩ := sw.ok i _ q
        refine ⟨v, a, h v H ⟨σ, Stay.refl M σ, ?_⟩⟩
        have hi : i < S.length := (List.getElem?_eq_some_iff.mp q).1
        have hi' : i < σ.length := by rw [← s0.len]; exact hi
        have e0 : setS S i .un ++ [.un] = setS (S ++ [.un]) i .un := by simp [setS, Slot.kill, List.set_append, hi]
        unfold more
        rw [setS_len, e0]
        have sm := s0.more.move (i := i) (k := S.length) (by rw [List.getElem?_append_left hi]; exact q) (by rw [List.getElem?_append_left hi']; exact a) (by omega)
        unfold mk moreV
        by_cases hp : pureD d = true
        · rw [if_pos hp]
          have su := s0.more.setUn' i
          exact su.setPure (Same.refl H) o.rep hp
        · rw [if_neg hp]
          exact sm
      | fz d =>
        obtain ⟨v, a, r⟩ := sw.ok i _ q
        dsimp only at h
        by_cases hp : pureD d = true
        · rw [if_pos hp] at h
          exact ⟨v, a, h v H ⟨σ, Stay.refl M σ, s0.more.setMk (i := S.length) (Same.refl H) (.pur hp (r.mono sw.gh)) .nil (fun _ z => nomatch z)⟩⟩
        · rw [if_neg hp] at h
          exact h.elim
theorem s_par (i j : Nat) {x y : Str} {px py pt : Pos} {kt k2 pt2} (hc : X.calm = true) (hN : X.N.Nodup) (ha : J X Y W .r a fa) (hb : J X Y W .r b fb) (hi : X.N[i]? = some x := by rfl) (hj : X.N[j]? = some y := by rfl) (hij : i ≠ j := by decide)
    (hx : X.env.scope.names.lookup x = some .local := by rfl) (hy : X.env.scope.names.lookup y = some .local := by rfl) (hMi : M i = true := by rfl) (hMj : M j = true := by rfl)
    (hw : swappedStores [.Tuple [.Name x px, .Name y py] kt pt] (.Tuple [a, b] k2 pt2) X.env = pure (some [x, y]) := by rfl)
    (hs : swapsWithSole [.Tuple [.Name x px, .Name y py] kt pt] (.Tuple [a, b] k2 pt2) pos.line X.env = pure false := by rfl)
    (h1 : starEach (a :: [b]) X.env = (false, eval a X.env) :: starEach [b] X.env := by rfl) (h2 : starEach (b :: []) X.env = (false, eval b X.env) :: starEach [] X.env := by rfl) :
    JS X Y W M (.Assign [.Tuple [.Name x px, .Name y py] kt pt] (.Tuple [a, b] k2 pt2) pos) (sPar i j fa fb) :=
  PS.imp (ps_par hc hN hi hj hij hx hy (pa_cons ha (pa_cons hb pa_nil h2) h1) hw hs) fun D σ H ⟨F, S, s, h⟩ => by
    refine ⟨en S, s.en, (WPs.bind h s.same).imp (Same.refl H) fun d p => ?_⟩
    intro v H1 s1 r1
    refine ⟨en S, s.en.mono s1, (WPs.bind p (s.same.trans s1)).imp (Same.refl H1) fun e q => ?_⟩
    intro u H2 s2 r2
    by_cases hp : (pureD d && pureD e) = true
    · rw [if_pos hp] at q
      have hp' := Bool.and_eq_true_iff.mp hp
      refine ⟨v, u, rfl, q _ _ (((s.ext s1).setPure s2 (r1.mono s2) hp'.1).setPure (Same.refl H2) r2 hp'.2) ((Stay.set hMi).trans (Stay.set hMj))⟩
    · rw [if_neg hp] at q
      exact q.elim
end

/-! ### while -/
def whS (c : En → Res Bool) (b : List Slot → Res Fl) : Nat → List Slot → Res Fl
  | 0, _ => .stuck
  | n + 1, S => c (en S) >>= fun t => if t = true then b S >>= fun r => match r with
    | .nx S' => whS c b n S'
    | .ct S' => whS c b n S'
    | .bk S' => .ok (.nx S')
    | .rt d S' => .ok (.rt d S') else .ok (.nx S)
open Classical in
noncomputable def sWhile (c : En → Res Bool) (b : List Slot → Res Fl) (S : List Slot) : Res Fl :=
  if h : ∃ n, whS c b n S ≠ .stuck then whS c b (Classical.choose h) S else .stuck
theorem whS_more {c : En → Res Bool} {b : List Slot → Res Fl} : ∀ (n : Nat) (S : List Slot), whS c b n S ≠ .stuck → whS c b (n + 1) S = whS c b n S
  | 0, S, h => absurd rfl h
  | n + 1, S, h => by
    show (c (en S) >>= fun t => if t = true then b S >>= fun r => match r with
      | .nx S' => whS c b (n + 1) S'
      | .ct S' => whS c b (n + 1) S'
      | .bk S' => .ok (.nx S')
      | .rt d S' => .ok (.rt d S') else .ok (.nx S)) = (c (en S) >>= fun t => if t = true then b S >>= fun r => match r with
      | .nx S' => whS c b n S'
      | .ct S' => whS c b n S'
      | .bk S' => .ok (.nx S')
      | .rt d S' => .ok (.rt d S') else .ok (.nx S))
    unfold whS at h
    cases q : c (en S) with
    | stuck => rfl
    | exc e => rfl
    | ok t =>
      rw [q] at h
      show (if t = true then _ else _) = (if t = true then _ else _)
      cases t with
      | false => rfl
      | true =>
        rw [if_pos rfl, if_pos rfl]
        have h' : (b S >>= fun r => match r with
          | .nx S' => whS c b n S'
          | .ct S' => whS c b n S'
          | .bk S' => .ok (.nx S')
          | .rt d S' => .ok (.rt d S')) ≠ Res.stuck := h
        cases q2 : b S with
        | stuck => rfl
        | exc e => rfl
        | ok r =>
          rw [q2] at h'
          cases r with
          | rt d S2 => rfl
          | bk S' => rfl
          | nx S' => exact whS_more n S' h'
          | ct S' => exact whS_more n S' h'
theorem whS_le {c : En → Res Bool} {b : List Slot → Res Fl} {n m : Nat} {S : List Slot} (h : whS c b n S ≠ .stuck) (hm : n ≤ m) : whS c b m S = whS c b n S := by
  induction m with
  | zero =>
    have : n = 0 := by omega
    rw [this]
  | succ m ih =>
    by_cases e : n = m + 1
    · rw [e]
    · have q := ih (by omega)
      rw [whS_more m S (by rw [q]; exact h), q]
theorem sWhile_is {c : En → Res Bool} {b : List Slot → Res Fl} {n : Nat} {S : List Slot} (h : whS c b n S ≠ .stuck) : sWhile c b S = whS c b n S := by
  unfold sWhile
  have hx : ∃ n, whS c b n S ≠ .stuck := ⟨n, h⟩
  rw [dif_pos hx]
  have h2 := Classical.choose_spec hx
  rcases Nat.le_total n (Classical.choose hx) with z | z
  · exact whS_le h z
  · exact (whS_le h2 z).symm
theorem sWhile_eq {c : En → Res Bool} {b : List Slot → Res Fl} {S : List Slot} : sWhile c b S = (c (en S) >>= fun t => if t = true then b S >>= fun r => match r with
    | .nx S' => sWhile c b S'
    | .ct S' => sWhile c b S'
    | .bk S' => .ok (.nx S')
    | .rt d S' => .ok (.rt d S') else .ok (.nx S)) := by
  by_cases hx : ∃ n, whS c b n S ≠ .stuck
  · obtain ⟨n, hn⟩ := hx
    rw [sWhile_is hn]
    cases n with
    | zero => exact absurd rfl hn
    | succ n =>
      unfold whS at hn ⊢
      cases q : c (en S) with
      | stuck => rfl
      | exc e => rfl
      | ok t =>
        rw [q] at hn
        show (if t = true then _ else _) = (if t = true then _ else _)
        cases t with
        | false => rfl
        | true =>
          rw [if_pos rfl, if_pos rfl]
          have hn' : (b S >>= fun r => match r with
            | .nx S' => whS c b n S'
            | .ct S' => whS c b n S'
            | .bk S' => .ok (.nx S')
            | .rt d S' => .ok (.rt d S')) ≠ Res.stuck := hn
          cases q2 : b S with
          | stuck => rfl
          | exc e => rfl
          | ok r =>
            rw [q2] at hn'
            cases r with
            | rt d S2 => rfl
            | bk S' => rfl
            | nx S' => exact (sWhile_is hn').symm
            | ct S' => exact (sWhile_is hn').symm
  · unfold sWhile
    rw [dif_neg hx]
    have hn : ∀ n, whS c b n S = .stuck := fun n => Classical.byContradiction fun z => hx ⟨n, z⟩
    cases q : c (en S) with
    | stuck => rfl
    | exc e =>
      have := hn 1
      unfold whS at this
      rw [q] at this
      cases this
    | ok t =>
      cases t with
      | false =>
        have := hn 1
        unfold whS at this
        rw [q] at this
        cases this
      | true =>
        show Res.stuck = (b S >>= _)
        cases q2 : b S with
        | stuck => rfl
        | exc e =>
          have := hn 1
          unfold whS at this
          rw [q] at this
          simp [q2] at this
        | ok r =>
          have hn2 : ∀ n, (match r with
            | .nx S' => whS c b n S'
            | .ct S' => whS c b n S'
            | .bk S' => .ok (.nx S')
            | .rt d S' => .ok (.rt d S')) = Res.stuck := fun n => by
            have := hn (n + 1)
            unfold whS at this
            rw [q] at this
            simp [q2] at this
            exact this
          cases r with
          | rt d S2 => cases hn2 0
          | bk S' => cases hn2 0
          | nx S' =>
            show Res.stuck = sWhile c b S'
            unfold sWhile
            rw [dif_neg (fun ⟨n, z⟩ => z (hn2 n))]
          | ct S' =>
            show Res.stuck = sWhile c b S'
            unfold sWhile
            rw [dif_neg (fun ⟨n, z⟩ => z (hn2 n))]
section
variable {X : Cx} {Y : Cl} {W : Wh} {M : Md} {pos : Pos} {c : Expr} {body : List Stmt} {gc : En → Res Bool} {gb : List Slot → Res Fl}
theorem s_while (hp : PassesOwn (model X.prog X.w) X.A X.env X.xe) (hc : T X Y W c gc) (hb : JB X Y W M body gb) : JS X Y W M (.While c body [] pos) (sWhile gc gb) :=
  PS.imp (ps_while hp hc hb) fun D σ0 H0 ⟨F, S0, s0, h0⟩ => by
    have hx : ∃ n, whS gc gb n S0 ≠ .stuck := Classical.byContradiction fun z => by
      unfold sWhile at h0
      rw [dif_neg z] at h0
      exact h0
    obtain ⟨n0, hn0⟩ := hx
    rw [sWhile_is hn0] at h0
    refine ⟨fun m σ H => ∃ S, Sat X.K Y F S σ H ∧ Stay M σ0 σ ∧ WPs X.K Y W M F D σ0 (whS gc gb m S), ⟨n0, S0, s0, Stay.refl M σ0, h0⟩, ?_⟩
    rintro m σ H ⟨S, s, sy, h⟩
    cases m with
    | zero => exact h.elim
    | succ m =>
      unfold whS at h
      refine ⟨en S, s.en, (WPs.bindB (σ := σ) h s.same).imp (Same.refl H) fun t p H1 sh => ?_⟩
      cases t with
      | false =>
        rw [if_neg Bool.false_ne_true] at p ⊢
        exact p σ H1 (s.ext sh) sy
      | true =>
        rw [if_pos rfl] at p ⊢
        refine ⟨fun σ' H' => ∃ m', m' < m + 1 ∧ ∃ S, Sat X.K Y F S σ' H' ∧ Stay M σ0 σ' ∧ WPs X.K Y W M F D σ0 (whS gc gb m' S), fun σ' H' z => z, F, S, s.ext sh, ?_⟩
        cases q : gb S with
        | stuck => rw [q] at p; exact p
        | exc e => rw [q] at p; exact p
        | ok r =>
          rw [q] at p
          cases r with
          | rt d S2 => exact fun v H2 r => p v H2 (r.stay sy)
          | bk S' => exact fun σ' H' s' st' => p σ' H' s' (sy.trans st')
          | nx S' => exact fun σ' H' s' st' => ⟨m, Nat.lt_succ_self m, S', s', sy.trans st', p⟩
          | ct S' => exact fun σ' H' s' st' => ⟨m, Nat.lt_succ_self m, S', s', sy.trans st', p⟩
end
end Ow
end
section
set_option linter.all false
set_option maxRecDepth 100000
set_option maxHeartbeats 2000000
/-! Ow5: defs, calls, raise, try. -/
namespace Ow
open PySem L2 PySem.Spec

/-- what a def comes to: its body over its slots, the parameters first -/
def runB (m : Nat) (g : List Slot → Res Fl) (ds : List D) : Res D := g (ds.map Slot.fz ++ List.replicate m Slot.un) >>= fun r => match r with
  | .rt d _ => .ok d
  | .nx _ => .ok .non
  | _ => .stuck
def spFn (K : PySem.W.Frag) (Y : Cl) (x : Bool) (n : Nat) (sem : List D → Res D) : Sp := fun vs H Q E => ∃ ds, vs.length = n ∧ Reps K Y H vs ds ∧ match sem ds with
  | .ok d => ∀ v H', RetOk K Y H H' v d → Q v H'
  | .exc e => x = true ∧ ∀ cls d H', Same H H' → ExRep K Y H' e cls d → E cls d H'
  | .stuck => False
theorem reps_slots {K : PySem.W.Frag} {Y : Cl} {H : Hp} : ∀ {vs : List V} {ds : List D}, Reps K Y H vs ds → ∀ (i : Nat) (x : Slot), (ds.map Slot.fz)[i]? = some x → ∃ v d, vs[i]? = some v ∧ x = .fz d ∧ Rep K Y H v d := fun {vs ds} r i x hx => by
  rw [List.getElem?_map] at hx
  cases q : ds[i]? with
  | none => rw [q] at hx; cases hx
  | some d =>
    rw [q] at hx
    obtain ⟨v, hv, rv⟩ := r.get q
    exact ⟨v, d, hv, (Option.some.inj hx).symm, rv⟩
theorem sat_start {K : PySem.W.Frag} {Y : Cl} {H : Hp} {N : List Str} {vs : List V} {ds : List D} {n m : Nat} (r : Reps K Y H vs ds) (hv : vs.length = n) (hN : N.length = n + m) : Sat K Y H (ds.map Slot.fz ++ List.replicate m Slot.un) (L2.start N vs) H := by
  have hl := r.length
  refine ⟨H, fun _ => 0, fun _ => [], Same.refl H, Same.refl H, fun _ _ e _ => e, ?_, fun i x hx => ?_⟩
  · unfold L2.start
    simp
    omega
  · by_cases hi : i < ds.length
    · rw [List.getElem?_append_left (by simpa using hi)] at hx
      obtain ⟨v, d, h1, rfl, h3⟩ := reps_slots r i x hx
      refine ⟨v, ?_, h3⟩
      unfold L2.start
      rw [List.getElem?_append_left (by simpa [hl] using hi), List.getElem?_map, h1]
      rfl
    · rw [List.getElem?_append_right (by simpa using Nat.le_of_not_lt hi)] at hx
      have := List.mem_of_getElem? hx
      rw [List.eq_of_mem_replicate this]
      trivial
section
variable {P : Program} {w : World} {K : PySem.W.Frag} {mg : Str → Option Value} {base : Heap} {Y : Cl} {M : Md}
/-- a def that raises nothing -/
theorem fn0 {x qual : Str} {st : Stmt} {f : Addr} {fd : FuncData} {N ps : List Str} {k n m : Nat} {g : List Slot → Res Fl} (F : Fun K x qual st f fd) (S : FnScope N ps (defScope st)) (hn : ps.length = n) (hm : N.length = n + m)
    (hb : ∀ (cdv : Value) (A : Around) (outer : List Env) (s : Shared) (H : Hp) (E : XK), Room k (A.deeper (PyProof.Rows.envOfC qual (defScope st) s.heap.objs.size f cdv)) →
      JB (cxOf CX0 P w K mg base N qual (defScope st) f cdv A outer s H E).nox Y none M (defBody st) g) : FnOk P w K mg base CX0 (k + 1) f fd ps (spFn K Y false n (runB m g)) := by
  refine F.ok S (fun vs H Q E ⟨ds, h, _⟩ => by rw [h, hn]) fun cdv A outer s H vs Q E hr ⟨ds, hv, r, h⟩ => ⟨_, hb cdv A outer s H E hr, H, _, sat_start r hv hm, ?_⟩
  unfold runB at h
  show WPs K Y none M H _ _ (g (ds.map Slot.fz ++ List.replicate m Slot.un))
  cases q : g (ds.map Slot.fz ++ List.replicate m Slot.un) with
  | stuck => rw [q] at h; exact h
  | exc e =>
    rw [q] at h
    cases h.1
  | ok r =>
    rw [q] at h
    cases r with
    | rt d S2 => exact fun v H2 r => h v H2 r.ok
    | nx S' => exact fun σ' H' s' _ => h .non H' ⟨s'.same, [], .pur pureD_non .non, .nil, fun _ z => nomatch z⟩
    | bk S' => exact h.elim
    | ct S' => exact h.elim
/-- a def that may raise -/
theorem fnX {x qual : Str} {st : Stmt} {f : Addr} {fd : FuncData} {N ps : List Str} {k n m : Nat} {g : List Slot → Res Fl} (F : Fun K x qual st f fd) (S : FnScope N ps (defScope st)) (hn : ps.length = n) (hm : N.length = n + m)
    (hb : ∀ (cdv : Value) (A : Around) (outer : List Env) (s : Shared) (H : Hp) (E : XK), Room k (A.deeper (PyProof.Rows.envOfC qual (defScope st) s.heap.objs.size f cdv)) →
      JB (cxOf (L2.CX P w) P w K mg base N qual (defScope st) f cdv A outer s H E) Y (some fun cls d _ H' => E cls d H') M (defBody st) g) : FnOk P w K mg base (L2.CX P w) (k + 1) f fd ps (spFn K Y true n (runB m g)) := by
  refine F.okX S (fun vs H Q E ⟨ds, h, _⟩ => by rw [h, hn]) fun cdv A outer s H vs Q E hr ⟨ds, hv, r, h⟩ => ⟨_, hb cdv A outer s H E hr, H, _, sat_start r hv hm, ?_⟩
  unfold runB at h
  show WPs K Y _ M H _ _ (g (ds.map Slot.fz ++ List.replicate m Slot.un))
  cases q : g (ds.map Slot.fz ++ List.replicate m Slot.un) with
  | stuck => rw [q] at h; exact h
  | exc e =>
    rw [q] at h
    exact ⟨_, rfl, fun cls d σ' H' s' x => h.2 cls d H' s' x⟩
  | ok r =>
    rw [q] at h
    cases r with
    | rt d S2 => exact fun v H2 r => h v H2 r.ok
    | nx S' => exact fun σ' H' s' _ => h .non H' ⟨s'.same, [], .pur pureD_non .non, .nil, fun _ z => nomatch z⟩
    | bk S' => exact h.elim
    | ct S' => exact h.elim
end
/-! ### calls -/
def noX {α : Type} : Res α → Res α
  | .exc _ => .stuck
  | r => r
@[simp] theorem noX_ok {α : Type} (a : α) : noX (.ok a) = .ok a := rfl
def xCall (sem : List D → Res D) (fs : En → Res (List D)) : En → Res D := fun en => fs en >>= fun ds => noX (sem ds)
def xCallX (sem : List D → Res D) (fs : En → Res (List D)) : En → Res D := fun en => fs en >>= sem
section
variable {X : Cx} {Y : Cl} {W : Wh} {M : Md} {CX : CXT} {k n : Nat} {f : Addr} {fd : FuncData} {ps : List Str} {sem : List D → Res D} {x : Str} {p pos : Pos} {e : Expr} {es : List Expr} {fs : En → Res (List D)}
theorem WPr.bindL {K : PySem.W.Frag} {σ : St} {H : Hp} {r : Res (List D)} {g : List D → Res D} {Q : D → Prop} (h : WPr K Y W σ H (r >>= g) Q) : WPr K Y W σ H r fun a => WPr K Y W σ H (g a) Q := by
  cases r with
  | ok a => exact h
  | exc e => exact h
  | stuck => exact h
theorem po_ret {K : PySem.W.Frag} {H H1 : Hp} {Q : VK} {d : D} (p : Po K Y .n d H Q) (s1 : Same H H1) (v : V) (H' : Hp) (h : RetOk K Y H1 H' v d) : Q v H' := by
  obtain ⟨s2, fp, o, nd, fr⟩ := h
  exact p v H' fp (s1.trans s2) o nd fun q hq => s1.free (fr q hq)
theorem j_call (F : FnOk X.prog X.w X.K X.mg X.base CX0 k f fd ps (spFn X.K Y false n sem)) (hr : Room k X.A) (hm : X.mg x = some (.ref f)) (hk : PySem.W.keepIn X.K (.ref f) = true) (hb : Binds X.K fd ps []) (ha : A X Y W (e :: es) fs) (hl : (e :: es).length = n := by rfl) (hg : Gl X x := by rfl)
    (hdb : (x == ("__debug__" : Str)) = false := by decide) (he : starEach (e :: es) X.env = (false, eval e X.env) :: starEach es X.env := by rfl) (hpl : (backTo pos (starEach es X.env)).any (·.1) = false := by rfl) :
    J X Y W .n (.Call (.Name x p) (e :: es) [] pos) (xCall sem fs) :=
  PE.imp (pe_call F hr hg hm hk hb .nil pass0 ha hdb he hpl) fun σ H Q ⟨en, hE, h⟩ => ⟨en, hE, (WPr.bindL h).imp (Same.refl H) fun ds p => by
    intro vs H1 s1 r1 l1
    rw [List.append_nil]
    refine ⟨ds, l1.trans hl, r1, ?_⟩
    cases q : sem ds with
    | stuck => rw [q] at p; exact p.elim
    | exc e => rw [q] at p; exact p.elim
    | ok d =>
      rw [q] at p
      exact fun v H' h => po_ret p s1 v H' h⟩
/-- a callee that may raise, where the wish is w -/
theorem j_callX {w : WX} (F : FnOk X.prog X.w X.K X.mg X.base (L2.CX X.prog X.w) k f fd ps (spFn X.K Y true n sem)) (hr : Room k X.A) (hm : X.mg x = some (.ref f)) (hk : PySem.W.keepIn X.K (.ref f) = true) (hb : Binds X.K fd ps []) (tk : Takes X w) (ha : A X Y (some w) (e :: es) fs) (hl : (e :: es).length = n := by rfl) (hg : Gl X x := by rfl)
    (hdb : (x == ("__debug__" : Str)) = false := by decide) (he : starEach (e :: es) X.env = (false, eval e X.env) :: starEach es X.env := by rfl) (hpl : (backTo pos (starEach es X.env)).any (·.1) = false := by rfl) :
    J X Y (some w) .n (.Call (.Name x p) (e :: es) [] pos) (xCallX sem fs) :=
  PE.imp (pe_callS F hr hg hm hk hb (fun σ => passAt tk σ) ha hdb he hpl) fun σ H Q ⟨en, hE, h⟩ => ⟨en, hE, (WPr.bindL h).imp (Same.refl H) fun ds p => by
    intro vs H1 s1 r1 l1
    refine ⟨ds, l1.trans hl, r1, ?_⟩
    cases q : sem ds with
    | stuck => rw [q] at p; exact p.elim
    | exc e =>
      rw [q] at p
      obtain ⟨w', hw, b⟩ := p
      cases hw
      exact ⟨rfl, fun cls d H' s' x => b cls d H' (s1.trans s') x⟩
    | ok d =>
      rw [q] at p
      exact fun v H' h => po_ret p s1 v H' h⟩
end

/-! ### raise -/
def sRaise (c : Nat) : List Slot → Res Fl := fun _ => .exc ⟨c, []⟩
def sRaise1 (c : Nat) (f : En → Res D) : List Slot → Res Fl := fun S => f (en S) >>= fun d => .exc ⟨c, [d]⟩
section
variable {X : Cx} {Y : Cl} {M : Md} {st : Stmt} {pos : Pos} {f : En → Res D} {c : Nat}
theorem s_raise0 : JS X Y none M st (sRaise c) := PS.imp ps_never fun D σ H ⟨F, S, s, h⟩ => by
  obtain ⟨w, a, _⟩ := h
  cases a
theorem s_raise0' : JS X Y none M st (sRaise1 c f) := PS.imp ps_never fun D σ H ⟨F, S, s, h⟩ => by
  unfold sRaise1 at h
  cases q : f (en S) with
  | stuck => rw [q] at h; exact h
  | exc e =>
    rw [q] at h
    obtain ⟨w, a, _⟩ := h
    cases a
  | ok d =>
    rw [q] at h
    obtain ⟨w, a, _⟩ := h
    cases a
theorem s_raise {w : WX} {x m : Str} {j : Nat} {p p2 pc : Pos} {B newId initId : String} {bmB : List Value} (hc : X.calm = true) (tk : Takes X w) (Fb : ExcBaseFacts B newId initId bmB) (q : PySem.W.excIn X.K (Y.at_ c) bmB newId = true) (gC : X.mg x = some (.ref (Y.at_ c)))
    (kC : PySem.W.keepIn X.K (.ref (Y.at_ c)) = true) (r : Raises X (.ref (Y.at_ c))) (hg : Gl X x := by rfl) (hdb : (x == ("__debug__" : Str)) = false := by decide) :
    JS X Y (some w) M (.Raise (some (.Call (.Name x p) [.Constant (.str m) j p2] [] pc)) none pos) (sRaise c) :=
  PS.imp (ps_raise hc tk (pmk_own Fb q gC kC r hg hdb)) fun D σ H ⟨F, S, s, h⟩ => by
    obtain ⟨w', hw, b⟩ := h
    cases hw
    exact b _ _ σ H s.same ⟨rfl, .inl ⟨rfl, rfl⟩⟩
end

/-! ### try: a call, its error kept under a name -/
section
variable {X : Cx} {pins : List (Addr × Obj)} {σ : St} {H : Hp} {s : Shared}
/-- an exception object of ours that nobody tracks is tracked from now on -/
theorem inv_track {a : Addr} {oe : Obj} {vs : Array Value} {cls : Value} {d : Option Addr} (I : Inv X pins σ H s) (ha : s.heap.get? a = some oe) (hz : Zc cls d oe) (hd : oe.data = .fields vs) (h0 : X.s_0.heap.get? a = none) (hn : H a = none) (hL : a ≠ X.env.locals)
    (hp : ∀ p ∈ X.pn ++ pins, p.1 ≠ a) : Inv X pins σ (upd H a (ExV cls d a)) s := by
  have ne0 : ∀ b o, X.s_0.heap.get? b = some o → b ≠ a := fun b o e z => by rw [z, h0] at e; cases e
  have neH : ∀ b o, H b = some o → b ≠ a := fun b o e => ne_of_none e hn
  refine ⟨I.ok, I.os, I.bare, ⟨I.base.keep, I.base.slot, fun b o e n hx => ?_, I.base.there, fun b xs e => ?_, fun b o xs e => ?_, fun b ps e => ?_⟩, I.loc, I.cell, ?_, fun x c e => ?_, fun p hq => ?_, fun b u e => ?_, I.len⟩
  · rw [upd_ne (ne0 b o e)]
    exact I.base.free b o e n hx
  · have q := I.base.tups b xs e
    rw [upd_ne (neH b _ q)]
    exact q
  · have q := I.base.frzs b o xs e
    rw [upd_ne (neH b _ q)]
    exact q
  · obtain ⟨m, q⟩ := I.base.tbls b ps e
    exact ⟨m, by rw [upd_ne (neH b _ q)]; exact q⟩
  · rw [upd_ne hL.symm]
    exact I.free
  · have hc : c ≠ a := fun z => by
      obtain ⟨v, o, ho, hdc⟩ := I.cell x c e
      rw [z, ha] at ho
      cases ho
      rw [hd] at hdc
      cases hdc
    rw [upd_ne hc]
    exact I.freeC x c e
  · obtain ⟨e, n, ne, nf, dd⟩ := I.pin p hq
    exact ⟨e, by rw [upd_ne (hp p hq)]; exact n, ne, nf, dd⟩
  · by_cases hb : b = a
    · subst hb
      rw [upd_same] at e
      cases e
      exact ⟨⟨oe, vs, ha, hz, hd⟩, ⟨oe, ha⟩, fun h1 h2 ⟨o, v, q, z, r⟩ k => ⟨o, v, k o q, z, r⟩⟩
    · rw [upd_ne hb] at e
      exact (I.hok b u e).stay (fun c v hc q => q) (fun c q => by rw [upd_ne (neH c _ q)]; exact q) fun c xs q => by rw [upd_ne (neH c _ q)]; exact q
end
/-- as wAs, the exception tracked behind the suite -/
def wKeep (K : PySem.W.Frag) (c : Value) (i : Nat) (ts : Addr → Value → Option Addr → TS) (D : Ends) : WX := fun cls d σ H =>
  PySem.W.exmOne K cls c = some true ∧ ∀ a, H a = none → ts a cls d { nx := fun σ' H' => D.nx (σ'.set i none) (upd H' a (ExV cls d a)), rt := fun _ _ => False, bk := fun _ _ => False, ct := fun _ _ => False } (σ.set i (some (.ref a))) H
section
variable {X : Cx} {x n : Str} {c : Value} {i : Nat} {body suite : List Stmt} {b₀ : Stmt} {np pos pos' : Pos} {tb : WX → TS} {ts : Addr → Value → Option Addr → TS}
theorem ps_try_keep (hs : X.stack = X.env :: X.outer) (hf : X.env.frame = some X.env.locals) (hex : X.ex = []) (hN : X.N.Nodup) (hi : X.N[i]? = some n) (hln : X.env.kindOf n = some .local) (hc : Names X x c)
    (hb : ∀ (W : WX) (pn : List (Addr × Obj)) (xe : Value → Shared → Prop), Takes (X.tr pn xe) W → PassesOwn (model X.prog X.w) X.A X.env xe → PSs (X.tr pn xe) body (tb W))
    (hsu : ∀ (a : Addr) (oe : Obj) (cls : Value) (d : Option Addr) (pn : List (Addr × Obj)), Zc cls d oe → (∃ vs, oe.data = .fields vs) → PSs (X.suite a ((a, oe) :: pn)) (b₀ :: suite) (ts a cls d)) :
    PS X (.Try body [.ExceptHandler (some (.Name x np)) (some n) (b₀ :: suite) pos'] [] [] pos) (fun D σ H => tb (wKeep X.K c i ts D) D σ H) := by
  refine ⟨fun pins s σ H D I h => ?_⟩
  have ok := I.ok
  have hfr : X.A.frames = some (X.env :: X.outer) := by rw [ok.frames, hs]
  have hloc : Loc X.env.scope n := .inl hln
  refine wpAny_Try_except ?_
  refine wpAny_mono ((hb (wKeep X.K c i ts D) (X.pn ++ pins) (fun e s₁ => wpAny (model X.prog X.w) X.A (noteFrame e X.env) (fun _ s₂ => wpAny (model X.prog X.w) X.A (setFlight e none) (fun _ s₃ =>
    wpAny (model X.prog X.w) X.A (handleBy e X.env [.ExceptHandler (some (.Name x np)) (some n) (b₀ :: suite) pos']) (SP X pins D) X.xe s₃) X.xe s₂) X.xe s₁) (fun u s' xx => ?_) PassesOwn.looking).run [] s σ H D (I.toTry _) h) (fun f s1 hsp => ?_) (fun e s1 he => he)
  · -- the catch
    obtain ⟨a, B, sI, pins', σ', H', cls, d, rfl, J', nb, up, sky, na, os, ag, hb1, hyes⟩ := xx
    have J : Inv X pins σ' H' sI := J'.ofTry ok
    have sky' : Sky B (X.env :: X.outer) a (Zc cls d) X.env.locals s'.heap := by rw [← hs]; exact sky
    show wpAny (model X.prog X.w) X.A (noteFrame (.ref a) X.env) _ _ _
    refine Sky.land Zc.steady hfr hf sky' fun h3 fl3 up3 => ?_
    have J3 : Inv X pins σ' H' { s' with heap := h3 } := J.landed nb fl3.1 (up.trans up3) os ag
    obtain ⟨oe3, vs3, he3, hz3, hd3⟩ := fl3.there
    have notFr : ∀ {h : Heap} {o : Obj} {vs : Array Value}, h.FunFrames B (X.env :: X.outer) → h.get? a = some o → o.data = .fields vs → a ∉ frs (X.env :: X.outer) := fun {h o vs} ff e dd hm => by
      obtain ⟨_, o', e', hnf⟩ := ff.mem hm
      rw [e] at e'; cases e'
      exact hnf _ dd
    have nfr := notFr fl3.2.2.1 he3 hd3
    have nL : a ≠ X.env.locals := fun z => nfr (List.mem_filterMap.mpr ⟨X.env, List.mem_cons_self, by rw [hf, z]⟩)
    have nF : a ∉ X.fs := fun hm => by
      obtain ⟨e, he, q⟩ := List.mem_filterMap.mp hm
      exact nfr (List.mem_filterMap.mpr ⟨e, List.mem_cons_of_mem _ he, q⟩)
    have nI : sI.heap.get? a = none := by
      cases q : sI.heap.get? a with
      | none => rfl
      | some o =>
        have z := nb a o q (by rw [hs]; exact nfr)
        rw [fl3.2.1] at z
        cases z
    have n0 : X.s_0.heap.get? a = none := by
      cases q : X.s_0.heap.get? a with
      | none => rfl
      | some o =>
        obtain ⟨o', e'⟩ := J.base.there a o q (by rw [hex]; exact fun z => nomatch z)
        rw [nI] at e'
        cases e'
    have npin : ∀ p ∈ X.pn ++ pins, p.1 ≠ a := fun p hp z => by
      have q := (J.pin p hp).1
      rw [z, nI] at q
      cases q
    have S3 := J3.suite he3 hd3 na nL nF
    refine wpAny_handleBy_cons (codeAny_handlers_test ?_) (by intro q; cases q)
    have LT : PySem.W.Looks (model X.prog X.w) h3 (typeOf (.ref a)) cls := fun A Q E s k q => wpAny_typeOf_ref (k _ _ he3) (by rw [hz3.1]; exact q)
    have LM := PySem.W.exm_one (M := model X.prog X.w) (J3.kIn) LT hb1
    have test : ∀ {Q : Value → Shared → Prop} {E : Value → Shared → Prop}, Q c { s' with heap := h3 } → wpAny (model X.prog X.w) (X.A.mark (some (.ref a))) (eval (.Name x np) X.env) Q E { s' with heap := h3 } := fun {Q E} q => by
      obtain ⟨hg, hdbg, hm | ⟨hm, hv, hnn⟩⟩ := hc
      · exact ld_glob (X := X.suite a ((a, oe3) :: (X.pn ++ pins))) S3 hg hm q hdbg
      · exact ld_blt (X := X.suite a ((a, oe3) :: (X.pn ++ pins))) S3 hg hm hv q hnn hdbg
    refine test (LM.here ?_)
    refine codeAny_handlers_suite_as ?_
    refine HandSPX.lands_againZ fl3 fun h4 fl4 up4 => ?_
    have J4 : Inv X pins σ' H' { s' with heap := h4 } := J.landed nb fl4.1 ((up.trans up3).trans up4) os ag
    obtain ⟨oe4, vs4, he4, hz4, hd4⟩ := fl4.there
    have S4 := J4.suite he4 hd4 na nL nF
    refine store_ok (X := X.suite a ((a, oe4) :: (X.pn ++ pins))) (v := .ref a) S4 hN hi hloc rfl (fun s5 S5 => ?_) (.inr hln)
    refine wpAny_mono ((hsu a oe4 cls d (X.pn ++ pins) hz4 ⟨_, hd4⟩).run [] s5 _ H' _ S5 (hyes a na)) (fun f s6 hsp => ?_) (fun _ _ z => False.elim z)
    cases f with
    | next =>
      obtain ⟨σ6, H6, S6, q6⟩ := hsp
      have P6 : Inv X (pins ++ [(a, oe4)]) σ6 H6 s6 := ⟨ok, S6.os, S6.bare, S6.base, S6.loc, S6.cell, S6.free, S6.freeC, fun p hp => S6.pin p (by
        rw [List.append_nil]
        show p ∈ (a, oe4) :: (X.pn ++ pins)
        rcases List.mem_append.mp hp with h1 | h1
        · exact List.mem_cons_of_mem _ (List.mem_append_left _ h1)
        · rcases List.mem_append.mp h1 with h2 | h2
          · exact List.mem_cons_of_mem _ (List.mem_append_right _ h2)
          · rw [List.mem_singleton.mp h2]
            exact List.mem_cons_self), S6.hok, S6.len⟩
      refine gone_ok P6 hN hi hln fun s7 J7 => ?_
      have pa := J7.pin (a, oe4) (List.mem_append_right _ (List.mem_append_right _ (List.mem_singleton.mpr rfl)))
      have K7 : Inv X pins (σ6.set i none) H6 s7 := J7.unpinned
      exact ⟨_, _, inv_track K7 pa.1 hz4 hd4 n0 pa.2.1 nL npin, q6⟩
    | brk =>
      obtain ⟨σ6, H6, S6, q6⟩ := hsp
      exact q6.elim
    | cont =>
      obtain ⟨σ6, H6, S6, q6⟩ := hsp
      exact q6.elim
    | ret u =>
      obtain ⟨v6, σ6, H6, S6, r6, q6⟩ := hsp
      exact q6.elim
  · cases f with
    | next =>
      obtain ⟨σ', H', J', q⟩ := hsp
      exact wpAny_execs_nil ⟨σ', H', J'.ofTry ok, q⟩
    | brk =>
      obtain ⟨σ', H', J', q⟩ := hsp
      exact ⟨σ', H', J'.ofTry ok, q⟩
    | cont =>
      obtain ⟨σ', H', J', q⟩ := hsp
      exact ⟨σ', H', J'.ofTry ok, q⟩
    | ret u =>
      obtain ⟨v, σ', H', J', r, q⟩ := hsp
      exact ⟨v, σ', H', J'.ofTry ok, r, q⟩
end
theorem PS.impL {X : Cx} {e : Stmt} {t t' : TS} (h : PS X e t) (f : ∀ D σ H, σ.length = X.N.length → t' D σ H → t D σ H) : PS X e t' := ⟨fun pins s σ H D I q => h.run pins s σ H D I (f D σ H I.len q)⟩
/-- what is told of a caught error -/
def sTry (i v : Nat) (ex : Nat → Bool) (f : En → Res D) : List Slot → Res Fl := fun S => match f (en S) with
  | .ok _ => .ok (.nx S)
  | .exc e => if (ex e.c && pureDs e.xs) = true then .ok (.nx (setS (setS (setS S i .un) v (.fz (.exc e.c e.xs))) i .un)) else .stuck
  | .stuck => .stuck
section
variable {K : PySem.W.Frag} {Y : Cl} {F H H' : Hp} {S : List Slot} {σ : St}
theorem Sat.setUn (h : Sat K Y F S σ H) (i : Nat) (v : Option V) : Sat K Y F (setS S i .un) (σ.set i v) H := by
  obtain ⟨G, w, fp, s⟩ := h
  refine ⟨G, w, fp, s.fg, s.gh, s.fx, by rw [setS_len, List.length_set]; exact s.len, fun k y hy => ?_⟩
  rcases setS_get hy with ⟨rfl, rfl, hl⟩ | ⟨hk, z, hz, hzy⟩
  · trivial
  · have h := s.ok k z hz
    rcases kill_ne hzy with ⟨e, _⟩ | ⟨e, hn⟩
    · subst e
      trivial
    · subst e
      cases z with
      | un => trivial
      | own d =>
        obtain ⟨u, a, b⟩ := h
        exact ⟨u, by rw [List.getElem?_set_ne (Ne.symm hk)]; exact a, b⟩
      | fz d =>
        obtain ⟨u, a, b⟩ := h
        exact ⟨u, by rw [List.getElem?_set_ne (Ne.symm hk)]; exact a, b⟩
      | ali t j =>
        obtain ⟨ds, p, vs, u, h1, h2, h3, h4, h5, h6⟩ := h
        have ht : t ≠ i := fun q => hn j (by rw [q])
        exact ⟨ds, p, vs, u, setS_ne h1 (fun j q => nomatch q) ht, h2, by rw [List.getElem?_set_ne (Ne.symm ht)]; exact h3, h4, h5, by rw [List.getElem?_set_ne (Ne.symm hk)]; exact h6⟩
/-- an error that lies behind a raise, held at a -/
theorem ExRep.held {e : Err} {cls : Value} {d : Option Addr} {a : Addr} (h : ExRep K Y H e cls d) (ha : H a = none) : Rep K Y (upd H a (ExV cls d a)) (.ref a) (.exc e.c e.xs) := by
  have sm : Same H (upd H a (ExV cls d a)) := fun b o q => by rw [upd_ne (ne_of_none q ha)]; exact q
  obtain ⟨rfl, h⟩ := h
  rcases h with ⟨h1, rfl⟩ | ⟨x, dd, v, h1, rfl, h3, h4⟩
  · rw [h1]
    exact .exc0 upd_same
  · rw [h1]
    exact .exc1 upd_same (sm _ _ h3) (h4.mono sm)
end
section
variable {X : Cx} {Y : Cl} {W : Wh} {M : Md} {i v : Nat} {x n y : Str} {call : Expr} {f : En → Res D} {ex : Nat → Bool} {C : Value} {np p1 p2 p3 pos pos' pe : Pos}
theorem s_try (hs : X.stack = X.env :: X.outer) (hf : X.env.frame = some X.env.locals) (hex : X.ex = []) (hN : X.N.Nodup) (hc : Names X x C) (he : ∀ c, ex c = true → PySem.W.exmOne X.K (.ref (Y.at_ c)) C = some true)
    (hb : ∀ (w : WX) (pn : List (Addr × Obj)) (xe : Value → Shared → Prop), Takes (X.tr pn xe) w → J (X.tr pn xe) Y (some w) .r call f)
    (hi : X.N[i]? = some n := by rfl) (hv : X.N[v]? = some y := by rfl) (hiv : i ≠ v := by decide) (hln : X.env.kindOf n = some .local := by rfl) (hly : X.env.scope.names.lookup y = some .local := by rfl)
    (hMi : M i = true := by rfl) (hMv : M v = true := by rfl) (hsw : ∀ pn xe, swapsWith call none pe.line (X.tr pn xe).env = pure false := by exact fun _ _ => rfl)
    (hd : (n == ("__debug__" : Str)) = false := by decide) (hcd : (n == ("__classdict__" : Str)) = false := by decide)
    (hsv : ∀ a pn, swapsWith (.Name n p2) (some (.Name y p1)) p3.line (X.suite a pn).env = pure false := by exact fun _ _ => rfl) :
    JS X Y W M (.Try [.Expr call pe] [.ExceptHandler (some (.Name x np)) (some n) [.Assign [.Name y p1] (.Name n p2) p3] pos'] [] [] pos) (sTry i v ex f) :=
  PS.impL (ps_try_keep (tb := fun w => tDrop (tJ X.K Y (some w) .r f)) (ts := fun _ _ _ => tAsg (tVar i) (gName v)) hs hf hex hN hi hln hc
    (fun w pn xe tk _ => pss_one (ps_expr (hb w pn xe tk) (hsw pn xe)))
    (fun a oe cls d pn _ _ => pss_one (ps_set (X := X.suite a ((a, oe) :: pn)) hN hv (.inl hly) (pe_var hi (.inl hln) hd hcd) (hsv _ _) (.inr hly)))) fun D σ H hlen ⟨F, S, s, h⟩ => by
    unfold sTry at h
    refine ⟨en S, s.en, ?_⟩
    cases q : f (en S) with
    | stuck => rw [q] at h; exact h
    | ok d =>
      rw [q] at h
      exact fun v H' sh r => h σ H' (s.ext sh) (Stay.refl M σ)
    | exc e =>
      rw [q] at h
      dsimp only at h
      by_cases hp : (ex e.c && pureDs e.xs) = true
      · rw [if_pos hp] at h
        have hp' := Bool.and_eq_true_iff.mp hp
        refine ⟨_, rfl, fun cls d H' sh xr => ⟨?_, fun a ha => ?_⟩⟩
        · obtain ⟨rfl, _⟩ := xr
          exact he e.c hp'.1
        · have hil : i < σ.length := by
            rw [hlen]
            exact (List.getElem?_eq_some_iff.mp hi).1
          refine ⟨.ref a, List.getElem?_set_self hil, ?_⟩
          have sm : Same H' (upd H' a (ExV cls d a)) := fun b o z => by rw [upd_ne (ne_of_none z ha)]; exact z
          refine h _ _ ((((s.ext sh).setUn i _).setPure sm (xr.held ha) ?_).setUn i none) ?_
          · rw [pureD_exc]
            exact hp'.2
          · exact ((Stay.set hMi).trans (Stay.set hMv)).trans (Stay.set hMi)
      · rw [if_neg hp] at h
        exact h.elim
end
end Ow
end
section
set_option linter.all false
set_option maxRecDepth 100000
set_option maxHeartbeats 2000000
/-! Ow6: built-in calls, slices, loops. -/
namespace Ow
open PySem L2 PySem.Spec

section
variable {X : Cx} {Y : Cl} {W : Wh} {k : Kd} {a b : Expr} {fa fb : En → Res D} {pos p : Pos} {x : Str}
/-- a built-in type called with one value -/
theorem j_ct1 {r : List V → Hp → VK → Prop} {o : D → Res D} {id : String} (hc : CallR X (.type id) r) (hr : ∀ H v d Q, Rep X.K Y H v d → (∃ z, o d = .ok z ∧ Po X.K Y k z H Q) → r [v] H Q) (hm : Calm1 o)
    (hg : Gl X x) (hmg : X.mg x = none) (hv : bootBuiltins x = some (.type id)) (ha : J X Y W .r a fa) (hn : x ≠ "__name__" := by decide) (hdb : (x == ("__debug__" : Str)) = false := by decide)
    (hs : starEach (a :: []) X.env = (false, eval a X.env) :: starEach [] X.env := by rfl) (hpl : (backTo pos (starEach [] X.env)).any (·.1) = false := by rfl) : J X Y W k (.Call (.Name x p) [a] [] pos) (x1 o fa) :=
  PE.imp (pe_callTy hc hg hmg hv (pa_cons ha pa_nil hs) hn hdb hs hpl) fun σ H Q ⟨en, he, h⟩ => ⟨en, he, (WPr.bind h).imp (Same.refl H) fun d p => by
    intro v H1 s1 r1
    obtain ⟨z, ez, pz⟩ := WPr.calm (hm d) p
    exact hr H1 v d Q r1 ⟨z, ez, pz.mono s1⟩⟩
/-- .. with two -/
theorem j_cb2 {r : List V → Hp → VK → Prop} {o : D → D → Res D} {id : String} (hc : CallR X (.builtin id) r) (hr : ∀ H v u d e Q, Rep X.K Y H v d → Rep X.K Y H u e → (∃ z, o d e = .ok z ∧ Po X.K Y k z H Q) → r [v, u] H Q) (hm : Calm2 o)
    (hg : Gl X x) (hmg : X.mg x = none) (hv : bootBuiltins x = some (.builtin id)) (ha : J X Y W .r a fa) (hb : J X Y W .r b fb) (hn : x ≠ "__name__" := by decide) (hdb : (x == ("__debug__" : Str)) = false := by decide)
    (hs : starEach (a :: [b]) X.env = (false, eval a X.env) :: starEach [b] X.env := by rfl) (hs2 : starEach (b :: []) X.env = (false, eval b X.env) :: starEach [] X.env := by rfl) (hpl : (backTo pos (starEach [b] X.env)).any (·.1) = false := by rfl) :
    J X Y W k (.Call (.Name x p) [a, b] [] pos) (x2 o fa fb) :=
  PE.imp (pe_callB hc hg hmg hv (pa_cons ha (pa_cons hb pa_nil hs2) hs) hn hdb hs hpl) fun σ H Q ⟨en, he, h⟩ => by
    refine ⟨en, he, (WPr.bind h).imp (Same.refl H) fun d p => ?_⟩
    intro v H1 s1 r1
    refine ⟨en, he.mono s1, (WPr.bind p).imp s1 fun e q => ?_⟩
    intro u H2 s2 r2
    obtain ⟨z, ez, pz⟩ := WPr.calm (hm d e) q
    exact hr H2 v u d e Q (r1.mono s2) r2 ⟨z, ez, pz.mono (s1.trans s2)⟩
def oLen : D → Res D
  | .lst ds => .ok (.int ds.length)
  | .tup ds => .ok (.int ds.length)
  | .scr ns => .ok (.int ns.length)
  | .str z => if szOk z.length = true then .ok (.int z.length) else .stuck
  | _ => .stuck
theorem oLen_calm : Calm1 oLen := fun d x => by
  unfold oLen
  split <;> first | (intro h; cases h; done) | (split <;> (intro h; cases h))
theorem j_len (hg : Gl X "len") (hm : X.mg "len" = none) (ha : J X Y W .r a fa) (hs : starEach (a :: []) X.env = (false, eval a X.env) :: starEach [] X.env := by rfl) (hpl : (backTo pos (starEach [] X.env)).any (·.1) = false := by rfl) : J X Y W k (.Call (.Name "len" p) [a] [] pos) (x1 oLen fa) :=
  j_cb1 call_len (fun H v d Q r ⟨z, hz, po⟩ => by
    unfold oLen at hz
    split at hz
    · cases hz
      cases r with
      | lst h q => exact ⟨_, _, rfl, .inl ⟨_, SqL.of h, rfl⟩, by rw [q.length]; exact po.pure (Same.refl H) .int (pureD_int _)⟩
    · cases hz
      cases r with
      | tup h q => exact ⟨_, _, rfl, .inr ⟨_, h, rfl⟩, by rw [q.length]; exact po.pure (Same.refl H) .int (pureD_int _)⟩
    · cases hz
      cases r with
      | scr h => exact ⟨_, _, rfl, .inl ⟨_, h, rfl⟩, by rw [List.length_map]; exact po.pure (Same.refl H) .int (pureD_int _)⟩
    · split at hz
      · rename_i hs
        cases hz
        cases r with
        | str => exact ⟨_, _, rfl, ⟨szOk_le hs, rfl⟩, po.pure (Same.refl H) .int (pureD_int _)⟩
      · cases hz
    · cases hz) oLen_calm hg hm PySem.boot_len ha (by decide) (by decide) hs hpl
def oAbs : D → Res D
  | .int i => .ok (.int (if i < 0 then -i else i))
  | _ => .stuck
theorem oAbs_calm : Calm1 oAbs := fun d x => by
  unfold oAbs
  split <;> exact fun h => nomatch h
theorem j_abs (hg : Gl X "abs") (hm : X.mg "abs" = none) (ha : J X Y W .r a fa) (hs : starEach (a :: []) X.env = (false, eval a X.env) :: starEach [] X.env := by rfl) (hpl : (backTo pos (starEach [] X.env)).any (·.1) = false := by rfl) : J X Y W k (.Call (.Name "abs" p) [a] [] pos) (x1 oAbs fa) :=
  j_cb1 call_abs (fun H v d Q r ⟨z, hz, po⟩ => by
    unfold oAbs at hz
    split at hz
    · cases hz
      cases r
      exact ⟨_, rfl, po.pure (Same.refl H) .int (pureD_int _)⟩
    · cases hz) oAbs_calm hg hm (by decide +kernel) ha (by decide) (by decide) hs hpl
def oInt : D → Res D
  | .int i => .ok (.int i)
  | .bl c => .ok (.int (if c then 1 else 0))
  | _ => .stuck
theorem oInt_calm : Calm1 oInt := fun d x => by
  unfold oInt
  split <;> exact fun h => nomatch h
theorem j_intc (hg : Gl X "int") (hm : X.mg "int" = none) (ha : J X Y W .r a fa) (hs : starEach (a :: []) X.env = (false, eval a X.env) :: starEach [] X.env := by rfl) (hpl : (backTo pos (starEach [] X.env)).any (·.1) = false := by rfl) : J X Y W k (.Call (.Name "int" p) [a] [] pos) (x1 oInt fa) :=
  j_ct1 call_int1 (fun H v d Q r ⟨z, hz, po⟩ => by
    unfold oInt at hz
    split at hz
    · cases hz
      cases r
      exact .inl ⟨_, rfl, po.pure (Same.refl H) .int (pureD_int _)⟩
    · cases hz
      cases r
      exact .inr ⟨_, rfl, po.pure (Same.refl H) .int (pureD_int _)⟩
    · cases hz) oInt_calm hg hm (by decide +kernel) ha (by decide) (by decide) hs hpl
def oMin : D → D → Res D := oI (fun _ _ => true) (iI fun i j => if j < i then j else i)
def oMax : D → D → Res D := oI (fun _ _ => true) (iI fun i j => if j > i then j else i)
theorem j_min2 (hc : X.calm = true) (hg : Gl X "min") (hm : X.mg "min" = none) (ha : J X Y W .r a fa) (hb : J X Y W .r b fb) (hs : starEach (a :: [b]) X.env = (false, eval a X.env) :: starEach [b] X.env := by rfl) (hs2 : starEach (b :: []) X.env = (false, eval b X.env) :: starEach [] X.env := by rfl) (hpl : (backTo pos (starEach [b] X.env)).any (·.1) = false := by rfl) :
    J X Y W k (.Call (.Name "min" p) [a, b] [] pos) (x2 oMin fa fb) :=
  j_cb2 (call_min2 hc) (fun H v u d e Q r q ⟨z, hz, po⟩ => by
    unfold oMin oI at hz
    split at hz
    · rw [if_pos rfl] at hz
      cases hz
      cases r
      cases q
      exact ⟨_, _, rfl, po.pure (Same.refl H) .int (pureD_int _)⟩
    · cases hz) (oI_calm _ _) hg hm (by decide +kernel) ha hb (by decide) (by decide) hs hs2 hpl
theorem j_max2 (hc : X.calm = true) (hg : Gl X "max") (hm : X.mg "max" = none) (ha : J X Y W .r a fa) (hb : J X Y W .r b fb) (hs : starEach (a :: [b]) X.env = (false, eval a X.env) :: starEach [b] X.env := by rfl) (hs2 : starEach (b :: []) X.env = (false, eval b X.env) :: starEach [] X.env := by rfl) (hpl : (backTo pos (starEach [b] X.env)).any (·.1) = false := by rfl) :
    J X Y W k (.Call (.Name "max" p) [a, b] [] pos) (x2 oMax fa fb) :=
  j_cb2 (call_max2 hc) (fun H v u d e Q r q ⟨z, hz, po⟩ => by
    unfold oMax oI at hz
    split at hz
    · rw [if_pos rfl] at hz
      cases hz
      cases r
      cases q
      exact ⟨_, _, rfl, po.pure (Same.refl H) .int (pureD_int _)⟩
    · cases hz) (oI_calm _ _) hg hm (by decide +kernel) ha hb (by decide) (by decide) hs hs2 hpl

/-! ### list(..), slices, + -/
theorem same_new {H : Hp} {q : Addr} {o : HO} (hq : H q = none) : Same H (upd H q o) := fun b u e => by rw [upd_ne (ne_of_none e hq)]; exact e
/-- a new list of pure items, at q -/
theorem po_new {K : PySem.W.Frag} {H : Hp} {Q : VK} {q : Addr} {vs : List V} {ds : List D} (po : Po K Y k (.lst ds) H Q) (r : Reps K Y H vs ds) (hp : pureDs ds = true) (hq : H q = none) : Q (.ref q) (upd H q (.lst vs)) := by
  cases k with
  | r => exact po _ _ (same_new hq) (.lst upd_same (r.mono (same_new hq)))
  | n => exact po _ _ [q] (same_new hq) (.lst upd_same (.pur (r.mono (same_new hq)) hp)) (by simp) fun p hm => by rw [List.mem_singleton.mp hm]; exact hq
theorem pureDs_ints (ns : List Int) : pureDs (ns.map D.int) = true := by
  rw [pureDs_iff]
  intro d hd
  obtain ⟨n, _, rfl⟩ := List.mem_map.mp hd
  exact pureD_int n
def oList : D → Res D
  | .lst ds => if pureDs ds = true then .ok (.lst ds) else .stuck
  | .tup ds => if pureDs ds = true then .ok (.lst ds) else .stuck
  | .scr ns => .ok (.lst (ns.map .int))
  | _ => .stuck
theorem oList_calm : Calm1 oList := fun d x => by
  unfold oList
  split <;> first | (intro h; cases h; done) | (split <;> (intro h; cases h))
theorem j_list (hg : Gl X "list") (hm : X.mg "list" = none) (ha : J X Y W .r a fa) (hs : starEach (a :: []) X.env = (false, eval a X.env) :: starEach [] X.env := by rfl) (hpl : (backTo pos (starEach [] X.env)).any (·.1) = false := by rfl) : J X Y W k (.Call (.Name "list" p) [a] [] pos) (x1 oList fa) :=
  j_ct1 call_list_of (fun H v d Q r ⟨z, hz, po⟩ => by
    unfold oList at hz
    split at hz
    · split at hz
      · rename_i hp
        cases hz
        cases r with
        | lst h q => exact ⟨_, _, rfl, .inl (SqL.of h), fun l hl => po_new po q hp hl⟩
      · cases hz
    · split at hz
      · rename_i hp
        cases hz
        cases r with
        | tup h q => exact ⟨_, _, rfl, .inr h, fun l hl => po_new po q hp hl⟩
      · cases hz
    · cases hz
      cases r with
      | scr h => exact ⟨_, _, rfl, .inl h, fun l hl => po_new po (.of_ints _) (pureDs_ints _) hl⟩
    · cases hz) oList_calm hg hm (by decide +kernel) ha (by decide) (by decide) hs hpl
def cutG {α : Type} (xs : List α) (lo hi : Option Int) : List α := (xs.drop (HT.sIx xs.length 0 lo)).take (HT.sIx xs.length xs.length hi - HT.sIx xs.length 0 lo)
theorem cutV_eq (xs : List V) (lo hi : Option Int) : cutV xs lo hi = cutG xs lo hi := rfl
theorem Reps.cut {K : PySem.W.Frag} {H : Hp} {vs : List V} {ds : List D} (r : Reps K Y H vs ds) (lo hi : Option Int) : Reps K Y H (cutG vs lo hi) (cutG ds lo hi) := by
  unfold cutG
  rw [r.length]
  exact (r.drop _).take _
theorem cutG_map {α β : Type} (f : α → β) (xs : List α) (lo hi : Option Int) : cutG (xs.map f) lo hi = (cutG xs lo hi).map f := by
  unfold cutG
  rw [List.length_map, ← List.map_drop, ← List.map_take]
theorem pureDs_sub {ds es : List D} (h : pureDs ds = true) (hs : ∀ d ∈ es, d ∈ ds) : pureDs es = true := pureDs_iff.mpr fun d hd => pureDs_iff.mp h d (hs d hd)
theorem cutG_mem {α : Type} {xs : List α} {lo hi : Option Int} {x : α} (h : x ∈ cutG xs lo hi) : x ∈ xs := List.mem_of_mem_drop (List.mem_of_mem_take h)
/-- a part of a slice -/
def pN : En → Res (Option Int) := fun _ => .ok none
def pS (f : En → Res D) : En → Res (Option Int) := fun en => f en >>= fun d => match d with
  | .int i => .ok (some i)
  | _ => .stuck
def tO (K : PySem.W.Frag) (Y : Cl) (W : Wh) (f : En → Res (Option Int)) : TO := fun σ H Q => ∃ en, EnOk K Y H σ en ∧ WPr K Y W σ H (f en) fun o => ∀ H', Same H H' → Q o H'
def O (X : Cx) (Y : Cl) (W : Wh) (e : Option Expr) (f : En → Res (Option Int)) : Prop := PO X e (tO X.K Y W f)
theorem PO.imp {e : Option Expr} {t t' : TO} (h : PO X e t) (f : ∀ σ H Q, t' σ H Q → t σ H Q) : PO X e t' := ⟨fun pins s σ H Q I q => h.run pins s σ H Q I (f σ H Q q)⟩
theorem o_none : O X Y W none pN := PO.imp po_none fun σ H Q ⟨en, he, h⟩ => h H (Same.refl H)
theorem o_some (ha : J X Y W .r a fa) : O X Y W (some a) (pS fa) := PO.imp (po_some ha) fun σ H Q ⟨en, he, h⟩ => ⟨en, he, (WPr.bind h).imp (Same.refl H) fun d p => by
  intro v H' s r
  cases r with
  | int => exact ⟨_, rfl, p H' s⟩
  | _ => exact p.elim⟩
theorem WPr.bindO {K : PySem.W.Frag} {σ : St} {H : Hp} {r : Res (Option Int)} {g : Option Int → Res D} {Q : D → Prop} (h : WPr K Y W σ H (r >>= g) Q) : WPr K Y W σ H r fun a => WPr K Y W σ H (g a) Q := by
  cases r with
  | ok a => exact h
  | exc e => exact h
  | stuck => exact h
def xSl (f : En → Res D) (l h : En → Res (Option Int)) : En → Res D := fun en => f en >>= fun d => l en >>= fun lo => h en >>= fun hi => match d with
  | .lst ds => if pureDs ds = true then .ok (.lst (cutG ds lo hi)) else .stuck
  | .scr ns => .ok (.lst ((cutG ns lo hi).map .int))
  | _ => .stuck
variable {lo hi : Option Expr} {fl fh : En → Res (Option Int)} {p2 : Pos}
theorem j_slice (ha : J X Y W .r a fa) (hl : O X Y W lo fl) (hh : O X Y W hi fh) : J X Y W k (.Subscript a (.Slice lo hi none p2) pos) (xSl fa fl fh) :=
  PE.imp (pe_slice sl_list ha hl hh) fun σ H Q ⟨en, he, h⟩ => by
    refine ⟨en, he, (WPr.bind h).imp (Same.refl H) fun d p => ?_⟩
    intro v H1 s1 r1
    refine ⟨en, he.mono s1, (WPr.bindO p).imp s1 fun l q => ?_⟩
    intro H2 s2
    refine ⟨en, he.mono (s1.trans s2), (WPr.bindO q).imp (s1.trans s2) fun h q2 => ?_⟩
    intro H3 s3
    have r3 := r1.mono (s2.trans s3)
    have s13 := s1.trans (s2.trans s3)
    cases r3 with
    | lst hp r =>
      dsimp only at q2
      split at q2
      · rename_i hpu
        exact ⟨_, _, rfl, SqL.of hp, fun x hx => po_new (Po.mono (show Po X.K Y k _ H Q from q2) s13) (r.cut l h) (pureDs_sub hpu fun d hd => cutG_mem hd) hx⟩
      · exact q2.elim
    | @scr _ ns hp =>
      refine ⟨_, _, rfl, hp, fun x hx => ?_⟩
      have : Reps X.K Y H3 (cutV (List.map V.int ns) l h) ((cutG ns l h).map D.int) := by
        rw [cutV_eq, cutG_map]
        exact .of_ints _
      exact po_new (Po.mono (show Po X.K Y k _ H Q from q2) s13) this (pureDs_ints _) hx
    | _ => exact q2.elim
def oCat : D → D → Res D
  | .lst as, .lst bs => if (pureDs as && pureDs bs && szOk (as.length + bs.length)) = true then .ok (.lst (as ++ bs)) else .stuck
  | _, _ => .stuck
theorem oCat_calm : Calm2 oCat := fun d e x => by
  unfold oCat
  split
  · exact ite_calm
  · exact fun h => nomatch h
theorem j_cat (ha : J X Y W .r a fa) (hb : J X Y W .r b fb) : J X Y W k (.BinOp a .Add b pos) (x2 oCat fa fb) :=
  j_op op_cat (fun H x y d e Q rx ry ⟨z, hz, po⟩ => by
    unfold oCat at hz
    split at hz
    · split at hz
      · rename_i hc
        cases hz
        have hc1 := Bool.and_eq_true_iff.mp hc
        have hc2 := Bool.and_eq_true_iff.mp hc1.1
        cases rx with
        | lst hp r =>
          cases ry with
          | lst hq q =>
            exact ⟨_, _, _, _, rfl, rfl, hp, hq, by rw [r.length, q.length]; exact szOk_le hc1.2, fun x hx => po_new po (r.append q) (by rw [pureDs_append, hc2.1, hc2.2]; rfl) hx⟩
      · cases hz
    · cases hz) oCat_calm ha hb
end

/-! ### isinstance -/
/-- the kinds of data, for isinstance -/
def tyN : D → String
  | .non => "NoneType"
  | .bl _ => "bool"
  | .int _ => "int"
  | .str _ => "str"
  | .tup _ => "tuple"
  | .lst _ => "list"
  | .scr _ => "list"
  | .dI _ => "dict"
  | .dT _ => "dict"
  | .exc _ _ => ""
def isBI (t : String) : D → Res D := fun d => match d with
  | .exc _ _ => .stuck
  | d => match kitB (tyN d) t with
    | some b => .ok (.bl b)
    | none => .stuck
/-- what the head says of an exception class, so that its instances may be asked -/
structure ExCl (K : PySem.W.Frag) (C : Addr) : Prop where
  cl : (PySem.W.clsIn K C).isSome = true
  ga : PySem.W.findIn K (.ref C) "__getattribute__" = some (some (.builtin "BaseException.__getattribute__"))
  gt : PySem.W.findIn K (.ref C) "__getattr__" = some none
  sub : PySem.W.subIn K (.ref C) (.type "BaseException") = some true
  ca : PySem.W.findIn K (.ref C) "__class__" = some (some (.builtin "object.__class__"))
  cn : PySem.W.specialIn K (.builtin "object.__class__") "__get__" = some (some (.builtin "getset_descriptor.__get__"))
  ct : PySem.W.takesIn K (.builtin "object.__class__") = some true
  cm : PySem.W.mroIn K C (.type "object") = some true
section
variable {X : Cx} {Y : Cl} {W : Wh} {k : Kd} {a : Expr} {fa : En → Res D} {pos p p1 : Pos}
theorem rep_ty {K : PySem.W.Frag} {H : Hp} {v : V} {d : D} (r : Rep K Y H v d) (hn : ∀ c xs, d ≠ .exc c xs) : TyX K H v (.type (tyN d)) := by
  cases r with
  | non => exact .base .non
  | bl => exact .base (.bl _)
  | int => exact .base (.int _)
  | str => exact .base (.str _)
  | tup h _ =>
    rcases h with (h | ⟨o, h⟩) | ⟨o, its, n, h1, h2, _⟩
    · exact .base (.tup h)
    · exact .fTuple h
    · exact .kTuple h1 h2
  | lst h _ => exact .base (.lst h)
  | scr h =>
    rcases h with (h | ⟨o, h⟩) | ⟨o, its, n, h1, h2, _⟩
    · exact .base (.lst h)
    · exact .base (.frz h)
    · exact .kList h1 h2
  | dI h _ => exact .base (.dK h)
  | dT h _ => exact .base (.dT h)
  | exc0 _ => exact absurd rfl (hn _ _)
  | exc1 _ _ _ => exact absurd rfl (hn _ _)
theorem isBI_calm (t : String) : Calm1 (isBI t) := fun d x => by
  unfold isBI
  split
  · exact fun h => nomatch h
  · split <;> exact fun h => nomatch h
/-- isinstance(x, int) and its like -/
theorem j_isB {n : Str} {t : String} (hg : Gl X "isinstance") (hm : X.mg "isinstance" = none) (hg2 : Gl X n) (hm2 : X.mg n = none) (hv : bootBuiltins n = some (.type t)) (ha : J X Y W .r a fa) (hn : n ≠ "__name__" := by decide) (hdb : (n == ("__debug__" : Str)) = false := by decide)
    (hs : starEach (a :: [.Name n p1]) X.env = (false, eval a X.env) :: starEach [.Name n p1] X.env := by rfl) (hs2 : starEach (.Name n p1 :: []) X.env = (false, eval (.Name n p1) X.env) :: starEach [] X.env := by rfl) (hpl : (backTo pos (starEach [.Name n p1] X.env)).any (·.1) = false := by rfl) :
    J X Y W k (.Call (.Name "isinstance" p) [a, .Name n p1] [] pos) (x1 (isBI t) fa) :=
  PE.imp (pe_callB call_isi hg hm (by decide +kernel) (pa_cons ha (pa_cons (pe_bltn (v := .ty t) hg2 hm2 hv rfl hn hdb) pa_nil hs2) hs) (by decide) (by decide) hs hpl) fun σ H Q ⟨en, he, h⟩ => ⟨en, he, (WPr.bind h).imp (Same.refl H) fun d p => by
    intro v H1 s1 r1
    obtain ⟨z, ez, pz⟩ := WPr.calm (isBI_calm t d) p
    have hne : ∀ c xs, d ≠ .exc c xs := fun c xs e => by
      subst e
      cases ez
    have hk : ∃ b, kitB (tyN d) t = some b ∧ z = .bl b := by
      unfold isBI at ez
      split at ez
      · cases ez
      · split at ez
        · rename_i b hb
          cases ez
          exact ⟨b, hb, rfl⟩
        · cases ez
    obtain ⟨b, hb, rfl⟩ := hk
    exact ⟨v, .ty t, _, _, b, rfl, .ty t, rep_ty r1 hne, kit_ty hb, pz.pure s1 .bl (pureD_bl b)⟩⟩
/-- whether an error of class c is one of class c' (0: any) -/
def isC (c' : Nat) (c : Nat) : Bool := c == c' || c' == 0
/-- what the head says of the classes that may be met (ok) and asked for -/
structure ExAsk (K : PySem.W.Frag) (Y : Cl) (ok : Nat → Bool) (c' : Nat) : Prop where
  non : PySem.W.kitOne K (.type "NoneType") (.ref (Y.at_ c')) = some false
  exc : ∀ c, ok c = true → PySem.W.kitOne K (.ref (Y.at_ c)) (.ref (Y.at_ c')) = some (isC c' c)
def isCl (ok : Nat → Bool) (cs : List Nat) : D → Res D
  | .non => .ok (.bl false)
  | .exc c _ => if ok c = true then .ok (.bl (cs.any fun c' => isC c' c)) else .stuck
  | _ => .stuck
theorem isCl_calm (ok : Nat → Bool) (cs : List Nat) : Calm1 (isCl ok cs) := fun d x => by
  unfold isCl
  split
  · exact fun h => nomatch h
  · exact ite_calm
  · exact fun h => nomatch h
/-- isinstance of an exception object, by values -/
theorem exv_kit {pins : List (Addr × Obj)} {σ : St} {H : Hp} {s : Shared} {a C : Addr} {d : Option Addr} (I : Inv X pins σ H s) (E : ExCl X.K C) (h : H a = some (ExV (.ref C) d a)) (hd : ∀ dd, d = some dd → ∃ o, s.heap.get? dd = some o) :
    ∃ P : Heap → Prop, PySem.W.KitX X.K (.ref a) (.ref C) P ∧ P s.heap := by
  obtain ⟨⟨oe, vs, ho, ⟨hc, hdd⟩, hdat⟩, _, _⟩ := I.hok a _ h
  obtain ⟨oc, od, dt, sl⟩ := oe
  dsimp only at hc hdd hdat
  subst hc hdd hdat
  cases od with
  | none => exact ⟨_, PySem.W.kitx_exc E.cl E.ga E.gt E.sub E.ca E.cn E.ct E.cm (od := none), ⟨ho, rfl, rfl, trivial⟩⟩
  | some dd =>
    obtain ⟨o, hq⟩ := hd dd rfl
    exact ⟨_, PySem.W.kitx_exc E.cl E.ga E.gt E.sub E.ca E.cn E.ct E.cm (od := some o), ⟨ho, rfl, rfl, hq⟩⟩
theorem rep_kit {pins : List (Addr × Obj)} {σ : St} {H : Hp} {s : Shared} {v : V} {u : Value} {c : Nat} {xs : List D} (I : Inv X pins σ H s) (E : ExCl X.K (Y.at_ c)) (r : Rep X.K Y H v (.exc c xs)) (rv : RelV v u) : ∃ P : Heap → Prop, PySem.W.KitX X.K u (.ref (Y.at_ c)) P ∧ P s.heap ∧ u ≠ .builtin "__main__.__loader__#opaque" := by
  cases r with
  | exc0 h =>
    obtain rfl : u = .ref _ := rv
    obtain ⟨P, h1, h2⟩ := exv_kit I E h (fun dd e => nomatch e)
    exact ⟨P, h1, h2, fun z => nomatch z⟩
  | exc1 h h' _ =>
    obtain rfl : u = .ref _ := rv
    obtain ⟨P, h1, h2⟩ := exv_kit I E h (fun dd e => by
      cases e
      obtain ⟨mA, ⟨o, _, _, ho, _⟩, _⟩ := I.hok _ _ h'
      exact ⟨o, ho⟩)
    exact ⟨P, h1, h2, fun z => nomatch z⟩
/-- isinstance(x, c) where x may be an error: one class of the program -/
def rIsX (K : PySem.W.Frag) (Y : Cl) (ok : Nat → Bool) (c' : Nat) : List V → Hp → VK → Prop := fun xs H Q => ∃ (x : V) (d : D) (b : Bool), xs = [x, .ref (Y.at_ c')] ∧ Rep K Y H x d ∧ isCl ok [c'] d = .ok (.bl b) ∧ Q (.bl b) H
theorem call_isX {ok : Nat → Bool} {c' : Nat} (hE : ∀ c, ok c = true → ExCl X.K (Y.at_ c)) (hA : ExAsk X.K Y ok c') : CallR X (.builtin "isinstance") (rIsX X.K Y ok c') := by
  intro pins s σ H xs us Q I r h
  obtain ⟨x, d, b, rfl, rx, hb, q⟩ := h
  obtain ⟨u1, u2, rfl, r1, r2⟩ := vals2 r
  obtain rfl : u2 = .ref (Y.at_ c') := r2
  cases d with
  | non =>
    cases hb
    obtain ⟨P, Z, p, hx⟩ := kit_of I r1 (rep_ty rx fun _ _ e => nomatch e)
    exact PySem.W.kia_one Z I.kIn p hA.non hx fun tk => ⟨.bl false, H, I.tok tk, rfl, q⟩
  | exc c ys =>
    have hb' : (if ok c = true then Res.ok (D.bl ([c'].any fun c' => isC c' c)) else Res.stuck) = Res.ok (D.bl b) := hb
    by_cases hc : ok c = true
    · rw [if_pos hc] at hb'
      cases hb'
      obtain ⟨P, Z, p, hx⟩ := rep_kit I (hE c hc) rx r1
      have e : ([c'].any fun c' => isC c' c) = isC c' c := by simp
      rw [e] at q
      exact PySem.W.kia_one Z I.kIn p (hA.exc c hc) hx fun tk => ⟨.bl _, H, I.tok tk, rfl, q⟩
    · rw [if_neg hc] at hb'
      cases hb'
  | _ => cases hb
theorem isCl_bl {ok : Nat → Bool} {cs : List Nat} {d z : D} (h : isCl ok cs d = .ok z) : ∃ b, z = .bl b := by
  unfold isCl at h
  split at h
  · cases h; exact ⟨_, rfl⟩
  · split at h
    · cases h; exact ⟨_, rfl⟩
    · cases h
  · cases h
theorem j_isX {ok : Nat → Bool} {c' : Nat} {n : Str} (hE : ∀ c, ok c = true → ExCl X.K (Y.at_ c)) (hA : ExAsk X.K Y ok c') (hg : Gl X "isinstance") (hm : X.mg "isinstance" = none) (hg2 : Gl X n) (hm2 : X.mg n = some (.ref (Y.at_ c'))) (ha : J X Y W .r a fa) (hdb : (n == ("__debug__" : Str)) = false := by decide)
    (hs : starEach (a :: [.Name n p1]) X.env = (false, eval a X.env) :: starEach [.Name n p1] X.env := by rfl) (hs2 : starEach (.Name n p1 :: []) X.env = (false, eval (.Name n p1) X.env) :: starEach [] X.env := by rfl) (hpl : (backTo pos (starEach [.Name n p1] X.env)).any (·.1) = false := by rfl) :
    J X Y W k (.Call (.Name "isinstance" p) [a, .Name n p1] [] pos) (x1 (isCl ok [c']) fa) :=
  PE.imp (pe_callB (call_isX hE hA) hg hm (by decide +kernel) (pa_cons ha (pa_cons (pe_glob (v := .ref (Y.at_ c')) hg2 hm2 rfl hdb) pa_nil hs2) hs) (by decide) (by decide) hs hpl) fun σ H Q ⟨en, he, h⟩ => ⟨en, he, (WPr.bind h).imp (Same.refl H) fun d p => by
    intro v H1 s1 r1
    obtain ⟨z, ez, pz⟩ := WPr.calm (isCl_calm ok [c'] d) p
    obtain ⟨b, rfl⟩ := isCl_bl ez
    exact ⟨v, d, b, rfl, r1, ez, pz.pure s1 .bl (pureD_bl b)⟩⟩
/-- .. several classes, written as a tuple -/
def rIsT (K : PySem.W.Frag) (Y : Cl) (ok : Nat → Bool) (cs : List Nat) : List V → Hp → VK → Prop := fun xs H Q => ∃ (x : V) (tp : Addr) (d : D) (b : Bool), xs = [x, .ref tp] ∧ H tp = some (.tup (cs.map fun c => .ref (Y.at_ c))) ∧ Rep K Y H x d ∧ isCl ok cs d = .ok (.bl b) ∧ Q (.bl b) H
theorem kitAny_non {K : PySem.W.Frag} {ok : Nat → Bool} : ∀ {cs : List Nat}, (∀ c ∈ cs, ExAsk K Y ok c) → PySem.W.kitAny K (.type "NoneType") (cs.map fun c => .ref (Y.at_ c)) = some false
  | [], _ => rfl
  | c :: cs, h => kitAny_cons (h c List.mem_cons_self).non (fun _ => kitAny_non fun c hc => h c (List.mem_cons_of_mem _ hc)) (fun z => nomatch z)
theorem kitAny_exc {K : PySem.W.Frag} {ok : Nat → Bool} {c : Nat} (hc : ok c = true) : ∀ {cs : List Nat}, (∀ c ∈ cs, ExAsk K Y ok c) → PySem.W.kitAny K (.ref (Y.at_ c)) (cs.map fun c => .ref (Y.at_ c)) = some (cs.any fun c' => isC c' c)
  | [], _ => rfl
  | c' :: cs, h => by
    have ih := kitAny_exc hc fun c hc => h c (List.mem_cons_of_mem c' hc)
    refine kitAny_cons ((h c' List.mem_cons_self).exc c hc) (fun e => ?_) (fun e => ?_)
    · rw [List.any_cons, e, ih]; rfl
    · rw [List.any_cons, e]; rfl
theorem vals_refs {cs : List Nat} : ∀ {us : List Value}, Vals (cs.map fun c => V.ref (Y.at_ c)) us → us = cs.map fun c => .ref (Y.at_ c) := by
  induction cs with
  | nil => intro us r; cases r; rfl
  | cons c cs ih =>
    intro us r
    cases r with
    | cons r1 r2 =>
      obtain rfl : _ = Value.ref _ := r1
      rw [ih r2]
      rfl
theorem call_isT {ok : Nat → Bool} {cs : List Nat} (hE : ∀ c, ok c = true → ExCl X.K (Y.at_ c)) (hA : ∀ c ∈ cs, ExAsk X.K Y ok c) : CallR X (.builtin "isinstance") (rIsT X.K Y ok cs) := by
  intro pins s σ H xs us Q I r h
  obtain ⟨x, tp, d, b, rfl, hT, rx, hb, q⟩ := h
  obtain ⟨u1, u2, rfl, r1, r2⟩ := vals2 r
  obtain rfl : u2 = .ref tp := r2
  obtain ⟨_, its, rv, o, h1, h2, n, h3⟩ := (show ObjOk X.prog X.w H s.heap tp (.tup _) from I.hok tp _ hT)
  have e3 := vals_refs rv
  subst e3
  obtain ⟨oc, od, dt, sl⟩ := o
  simp only at h2 h3
  subst h2 h3
  cases d with
  | non =>
    cases hb
    obtain ⟨P, Z, p, hx⟩ := kit_of I r1 (rep_ty rx fun _ _ e => nomatch e)
    exact PySem.W.kia_tup Z I.kIn p h1 (kitAny_non hA) hx fun tk => ⟨.bl false, H, I.tok tk, rfl, q⟩
  | exc c ys =>
    have hb' : (if ok c = true then Res.ok (D.bl (cs.any fun c' => isC c' c)) else Res.stuck) = Res.ok (D.bl b) := hb
    by_cases hc : ok c = true
    · rw [if_pos hc] at hb'
      cases hb'
      obtain ⟨P, Z, p, hx⟩ := rep_kit I (hE c hc) rx r1
      exact PySem.W.kia_tup Z I.kIn p h1 (kitAny_exc hc hA) hx fun tk => ⟨.bl _, H, I.tok tk, rfl, q⟩
    · rw [if_neg hc] at hb'
      cases hb'
  | _ => cases hb
/-- the classes of the tuple, as arguments -/
def PCs (X : Cx) (Y : Cl) (es : List Expr) (cs : List Nat) : Prop := ∃ t : TA, PA X es t ∧ ∀ σ H Q, Q (cs.map fun c => V.ref (Y.at_ c)) H → t σ H Q
theorem cs_nil : PCs X Y [] [] := ⟨_, pa_nil, fun σ H Q q => q⟩
theorem cs_cons {n : Str} {c : Nat} {es : List Expr} {cs : List Nat} (hm : X.mg n = some (.ref (Y.at_ c))) (h : PCs X Y es cs) (hg : Gl X n := by rfl) (hdb : (n == ("__debug__" : Str)) = false := by decide)
    (hs : starEach (.Name n p1 :: es) X.env = (false, eval (.Name n p1) X.env) :: starEach es X.env := by rfl) : PCs X Y (.Name n p1 :: es) (c :: cs) := by
  obtain ⟨t, h1, h2⟩ := h
  exact ⟨_, pa_cons (pe_glob (v := .ref (Y.at_ c)) hg hm rfl hdb) h1 hs, fun σ H Q q => h2 σ H _ q⟩
theorem j_isT {ok : Nat → Bool} {cs : List Nat} {es : List Expr} {k1 : Nat} {pt : Pos} (hE : ∀ c, ok c = true → ExCl X.K (Y.at_ c)) (hA : ∀ c ∈ cs, ExAsk X.K Y ok c) (hg : Gl X "isinstance") (hm : X.mg "isinstance" = none) (ha : J X Y W .r a fa) (hc : PCs X Y es cs) (hz : cs.length ≤ 1000 := by decide)
    (hs : starEach (a :: [.Tuple es k1 pt]) X.env = (false, eval a X.env) :: starEach [.Tuple es k1 pt] X.env := by rfl) (hs2 : starEach (.Tuple es k1 pt :: []) X.env = (false, eval (.Tuple es k1 pt) X.env) :: starEach [] X.env := by rfl) (hpl : (backTo pos (starEach [.Tuple es k1 pt] X.env)).any (·.1) = false := by rfl) :
    J X Y W k (.Call (.Name "isinstance" p) [a, .Tuple es k1 pt] [] pos) (x1 (isCl ok cs) fa) := by
  obtain ⟨t, h1, h2⟩ := hc
  exact PE.imp (pe_callB (call_isT hE hA) hg hm (by decide +kernel) (pa_cons ha (pa_cons (pe_tup h1) pa_nil hs2) hs) (by decide) (by decide) hs hpl) fun σ H Q ⟨en, he, h⟩ => ⟨en, he, (WPr.bind h).imp (Same.refl H) fun d p => by
    intro v H1 s1 r1
    refine h2 σ H1 _ ?_
    refine ⟨by rw [List.length_map]; exact Nat.le_of_lt (small1000 hz), fun tp htp => ?_⟩
    obtain ⟨z, ez, pz⟩ := WPr.calm (isCl_calm ok cs d) p
    obtain ⟨b, rfl⟩ := isCl_bl ez
    exact ⟨v, tp, d, b, rfl, upd_same, r1.mono (same_new htp), ez, pz.pure (s1.trans (same_new htp)) .bl (pureD_bl b)⟩⟩
/-- isinstance(x, ValueError), x an error or None -/
structure ExVe (K : PySem.W.Frag) (Y : Cl) (ok : Nat → Bool) : Prop where
  non : PySem.W.kitOne K (.type "NoneType") (.type "ValueError") = some false
  exc : ∀ c, ok c = true → PySem.W.kitOne K (.ref (Y.at_ c)) (.type "ValueError") = some true
def isVe (ok : Nat → Bool) : D → Res D
  | .non => .ok (.bl false)
  | .exc c _ => if ok c = true then .ok (.bl true) else .stuck
  | _ => .stuck
theorem isVe_calm (ok : Nat → Bool) : Calm1 (isVe ok) := fun d x => by
  unfold isVe
  split
  · exact fun h => nomatch h
  · exact ite_calm
  · exact fun h => nomatch h
def rIsV (K : PySem.W.Frag) (Y : Cl) (ok : Nat → Bool) : List V → Hp → VK → Prop := fun xs H Q => ∃ (x : V) (d : D) (b : Bool), xs = [x, .ty "ValueError"] ∧ Rep K Y H x d ∧ isVe ok d = .ok (.bl b) ∧ Q (.bl b) H
theorem call_isV {ok : Nat → Bool} (hE : ∀ c, ok c = true → ExCl X.K (Y.at_ c)) (hA : ExVe X.K Y ok) : CallR X (.builtin "isinstance") (rIsV X.K Y ok) := by
  intro pins s σ H xs us Q I r h
  obtain ⟨x, d, b, rfl, rx, hb, q⟩ := h
  obtain ⟨u1, u2, rfl, r1, r2⟩ := vals2 r
  obtain rfl : u2 = .type "ValueError" := r2
  cases d with
  | non =>
    cases hb
    obtain ⟨P, Z, p, hx⟩ := kit_of I r1 (rep_ty rx fun _ _ e => nomatch e)
    exact PySem.W.kia_one Z I.kIn p hA.non hx fun tk => ⟨.bl false, H, I.tok tk, rfl, q⟩
  | exc c ys =>
    have hb' : (if ok c = true then Res.ok (D.bl true) else Res.stuck) = Res.ok (D.bl b) := hb
    by_cases hc : ok c = true
    · rw [if_pos hc] at hb'
      cases hb'
      obtain ⟨P, Z, p, hx⟩ := rep_kit I (hE c hc) rx r1
      exact PySem.W.kia_one Z I.kIn p (hA.exc c hc) hx fun tk => ⟨.bl true, H, I.tok tk, rfl, q⟩
    · rw [if_neg hc] at hb'
      cases hb'
  | _ => cases hb
theorem isVe_bl {ok : Nat → Bool} {d z : D} (h : isVe ok d = .ok z) : ∃ b, z = .bl b := by
  unfold isVe at h
  split at h
  · cases h; exact ⟨_, rfl⟩
  · split at h
    · cases h; exact ⟨_, rfl⟩
    · cases h
  · cases h
theorem j_isV {ok : Nat → Bool} (hE : ∀ c, ok c = true → ExCl X.K (Y.at_ c)) (hA : ExVe X.K Y ok) (hg : Gl X "isinstance") (hm : X.mg "isinstance" = none) (hg2 : Gl X "ValueError") (hm2 : X.mg "ValueError" = none) (ha : J X Y W .r a fa)
    (hs : starEach (a :: [.Name "ValueError" p1]) X.env = (false, eval a X.env) :: starEach [.Name "ValueError" p1] X.env := by rfl) (hs2 : starEach (.Name "ValueError" p1 :: []) X.env = (false, eval (.Name "ValueError" p1) X.env) :: starEach [] X.env := by rfl) (hpl : (backTo pos (starEach [.Name "ValueError" p1] X.env)).any (·.1) = false := by rfl) :
    J X Y W k (.Call (.Name "isinstance" p) [a, .Name "ValueError" p1] [] pos) (x1 (isVe ok) fa) :=
  PE.imp (pe_callB (call_isV hE hA) hg hm (by decide +kernel) (pa_cons ha (pa_cons (pe_bltn (v := .ty "ValueError") hg2 hm2 (by decide +kernel) rfl) pa_nil hs2) hs) (by decide) (by decide) hs hpl) fun σ H Q ⟨en, he, h⟩ => ⟨en, he, (WPr.bind h).imp (Same.refl H) fun d p => by
    intro v H1 s1 r1
    obtain ⟨z, ez, pz⟩ := WPr.calm (isVe_calm ok d) p
    obtain ⟨b, rfl⟩ := isVe_bl ez
    exact ⟨v, d, b, rfl, r1, ez, pz.pure s1 .bl (pureD_bl b)⟩⟩
end
end Ow
end
section
set_option linter.all false
set_option maxRecDepth 100000
set_option maxHeartbeats 2000000
/-! Ow7: for loops over new lists, shared lists, ranges. -/
namespace Ow
open PySem L2 PySem.Spec

/-- a loop over items: b behind the binding of each -/
def forS {α : Type} (bind : α → List Slot → Res (List Slot)) (b : List Slot → Res Fl) : List α → List Slot → Res Fl
  | [], S => .ok (.nx S)
  | d :: ds, S => bind d S >>= fun S1 => b S1 >>= fun r => match r with
    | .nx S' => forS bind b ds S'
    | .ct S' => forS bind b ds S'
    | .bk S' => .ok (.nx S')
    | .rt d S' => .ok (.rt d S')
def bindF (i : Nat) (d : D) (S : List Slot) : Res (List Slot) := .ok (setS S i (.fz d))
def intsUpTo (lo : Int) (n : Nat) : List D := (List.range n).map fun k => .int (lo + (k : Nat))

section
variable {K : PySem.W.Frag} {Y : Cl} {F H H' : Hp} {S : List Slot} {σ : St}
/-- a new thing is shared from now on -/
theorem Sat.freeze (h : Sat K Y F S σ H) (sh : Same H H') {v : V} {d : D} {f : List Addr} (o : Own K Y H' v d f) (fr : ∀ p ∈ f, H p = none) : ∃ F', Same F F' ∧ Same F' H' ∧ Sat K Y F' S σ H' ∧ Rep K Y F' v d := by
  obtain ⟨G, w, fp, s⟩ := h
  have gh' : Same G H' := s.gh.trans sh
  let G' : Hp := fun p => if p ∈ f then H' p else grow G H' p
  have sg : Same (grow G H') G' := fun p u e => by
    show (if p ∈ f then H' p else grow G H' p) = some u
    by_cases hp : p ∈ f
    · rw [if_pos hp]; exact grow_to gh' p u e
    · rw [if_neg hp]; exact e
  have gh2 : Same G' H' := fun p u e => by
    have e' : (if p ∈ f then H' p else grow G H' p) = some u := e
    by_cases hp : p ∈ f
    · rw [if_pos hp] at e'; exact e'
    · rw [if_neg hp] at e'; exact grow_to gh' p u e'
  have keepR : ∀ {v : V} {d : D} {f' : List Addr}, Own K Y H' v d f' → (∀ p ∈ f', p ∈ f) → Own K Y G' v d f' := by
    have fx : Fix H' G' := fun p u e hf => sg p u (grow_fix gh' e hf)
    intro v d f' o' hs
    exact o'.frame fx fun p hp => if_pos (hs p hp)
  refine ⟨G', s.fg.trans (grow_same.trans sg), gh2, ⟨G', w, fp, Same.refl G', gh2, fun p u e hf => sg p u (grow_fix gh' e hf), s.len, fun k y hy => ?_⟩, (keepR o fun p hp => hp).rep⟩
  have h := s.ok k y hy
  cases y with
  | un => trivial
  | own d =>
    obtain ⟨u, a, b, c, q⟩ := h
    refine ⟨u, a, b.mono sh, c, fun p hp => ⟨(q p hp).1, ?_⟩⟩
    obtain ⟨o', ho, hx⟩ := b.there p hp
    have nf : p ∉ f := fun hm => by
      rw [fr p hm] at ho
      cases ho
    show (if p ∈ f then H' p else grow G H' p) = none
    rw [if_neg nf]
    refine grow_none (q p hp).2 fun u' e => ?_
    rw [sh p o' ho] at e
    cases e
    exact hx
  | fz d =>
    obtain ⟨u, a, b⟩ := h
    exact ⟨u, a, b.mono (grow_same.trans sg)⟩
  | ali t j =>
    obtain ⟨ds, p, vs, u, h1, h2, h3, h4, h5, h6⟩ := h
    exact ⟨ds, p, vs, u, h1, h2, h3, sh _ _ h4, h5, h6⟩
theorem WPs.shallow {W : Wh} {M : Md} {D' : Ends} {σ0 : St} {r : Res Fl} {F' : Hp} (h : WPs K Y W M F D' σ0 r) (f : Same F F') : WPs K Y W M F' D' σ0 r := by
  cases r with
  | stuck => exact h
  | exc e =>
    obtain ⟨w, a, b⟩ := h
    exact ⟨w, a, fun cls d σ' H' s x => b cls d σ' H' (f.trans s) x⟩
  | ok r =>
    cases r with
    | nx S' => exact fun σ' H' s st => h σ' H' (s.shallow f) st
    | bk S' => exact fun σ' H' s st => h σ' H' (s.shallow f) st
    | ct S' => exact fun σ' H' s st => h σ' H' (s.shallow f) st
    | rt d S2 => exact fun v H' r => h v H' (r.shallow f)
/-- the walk over items that stand in the frame -/
theorem for_run {W : Wh} {M : Md} {D' : Ends} {J : It} {b : List Slot → Res Fl} {i : Nat} {L : List D} (hM : M i = true) (hgo : ∀ (k : Nat) (H' : Hp), Same F H' → k < L.length → J.go k H' ∧ ∀ x H'', J.yld k H' x H'' → H'' = H' ∧ ∃ d, L[k]? = some d ∧ Rep K Y F x d)
    (hst : ∀ (k : Nat) (H' : Hp), Same F H' → L.length ≤ k → J.stop k H') (s : Sat K Y F S σ H) (h : WPs K Y W M F D' σ (forS (bindF i) b L S)) :
    ∃ W' : Nat → Nat → St → Hp → Prop, (∃ m, W' 0 m σ H) ∧ ∀ k m σ1 H1, W' k m σ1 H1 → (J.stop k H1 ∧ D'.nx σ1 H1) ∨ (J.go k H1 ∧ ∃ N : St → Hp → Prop, (∀ σ' H', N σ' H' → ∃ m', m' < m ∧ W' (k + 1) m' σ' H') ∧
      ∀ x H', J.yld k H1 x H' → gName i x σ1 H' fun σ2 H2 => tS K Y W M b { D' with nx := N, ct := N, bk := D'.nx } σ2 H2) := by
  refine ⟨fun k m σ1 H1 => m = L.length - k ∧ k ≤ L.length ∧ ∃ S1, Sat K Y F S1 σ1 H1 ∧ Stay M σ σ1 ∧ WPs K Y W M F D' σ (forS (bindF i) b (L.drop k) S1), ⟨_, rfl, Nat.zero_le _, S, s, Stay.refl M σ, h⟩, ?_⟩
  rintro k m σ1 H1 ⟨rfl, hk, S1, s1, y1, p⟩
  by_cases hlt : k < L.length
  · obtain ⟨g1, g2⟩ := hgo k H1 s1.same hlt
    refine .inr ⟨g1, fun σ' H' => ∃ S', Sat K Y F S' σ' H' ∧ Stay M σ σ' ∧ WPs K Y W M F D' σ (forS (bindF i) b (L.drop (k + 1)) S'), fun σ' H' ⟨S', a1, a2, a3⟩ => ⟨_, by omega, rfl, hlt, S', a1, a2, a3⟩, fun x H' hy => ?_⟩
    obtain ⟨rfl, d, hd, rx⟩ := g2 x H' hy
    have ed : L.drop k = d :: L.drop (k + 1) := by
      rw [List.drop_eq_getElem_cons hlt]
      congr 1
      rw [List.getElem?_eq_getElem hlt] at hd
      exact Option.some.inj hd
    rw [ed] at p
    have p' : WPs K Y W M F D' σ (b (setS S1 i (.fz d)) >>= fun r => match r with
      | .nx S' => forS (bindF i) b (L.drop (k + 1)) S'
      | .ct S' => forS (bindF i) b (L.drop (k + 1)) S'
      | .bk S' => .ok (.nx S')
      | .rt d S' => .ok (.rt d S')) := p
    refine ⟨F, setS S1 i (.fz d), s1.setFz rx, ?_⟩
    have y2 : Stay M σ (σ1.set i (some x)) := y1.trans (Stay.set hM)
    cases q : b (setS S1 i (.fz d)) with
    | stuck => rw [q] at p'; exact p'
    | exc e => rw [q] at p'; exact p'
    | ok r =>
      rw [q] at p'
      cases r with
      | rt d S2 => exact fun v H2 r => p' v H2 (r.stay y2)
      | nx S' => exact fun σ' H' s' st => ⟨S', s', y2.trans st, p'⟩
      | ct S' => exact fun σ' H' s' st => ⟨S', s', y2.trans st, p'⟩
      | bk S' => exact fun σ' H' s' st => p' σ' H' s' (y2.trans st)
  · have ed : L.drop k = [] := List.drop_of_length_le (by omega)
    rw [ed] at p
    exact .inl ⟨hst k H1 s1.same (by omega), p σ1 H1 s1 y1⟩
end

/-- for x in a new list -/
def sForN (i : Nat) (f : En → Res D) (b : List Slot → Res Fl) : List Slot → Res Fl := fun S => f (en S) >>= fun d => match d with
  | .lst ds => forS (bindF i) b ds S
  | _ => .stuck
def sForR1 (i : Nat) (f : En → Res D) (b : List Slot → Res Fl) : List Slot → Res Fl := fun S => f (en S) >>= fun d => match d with
  | .int n => if (decide (-4611686018427387904 ≤ n) && decide (n < 4611686018427387904)) = true then forS (bindF i) b (intsUpTo 0 n.toNat) S else .stuck
  | _ => .stuck
def rgOk (n : Int) : Bool := decide (-4611686018427387904 ≤ n) && decide (n < 4611686018427387904)
theorem rgOk_iff {n : Int} (h : rgOk n = true) : -(2 ^ 62) ≤ n ∧ n < 2 ^ 62 := by
  have h' := Bool.and_eq_true_iff.mp h
  exact ⟨by have := of_decide_eq_true h'.1; omega, by have := of_decide_eq_true h'.2; omega⟩
def sForR2 (i : Nat) (f g : En → Res D) (b : List Slot → Res Fl) : List Slot → Res Fl := fun S => f (en S) >>= fun d => g (en S) >>= fun e => match d, e with
  | .int lo, .int hi => if (rgOk lo && rgOk hi) = true then forS (bindF i) b (intsUpTo lo (hi - lo).toNat) S else .stuck
  | _, _ => .stuck
/-- for x in v, the name v's slot shared -/
def sForV (i v : Nat) (b : List Slot → Res Fl) : List Slot → Res Fl := fun S => match S[v]? with
  | some (.fz (.lst ds)) => forS (bindF i) b ds S
  | some (.fz (.scr ns)) => forS (bindF i) b (ns.map .int) S
  | _ => .stuck
/-- for x in v[e], v's slot shared -/
def sForP (i v : Nat) (f : En → Res D) (b : List Slot → Res Fl) : List Slot → Res Fl := fun S => match S[v]? with
  | some (.fz (.lst ds)) => f (en S) >>= fun e => match e with
    | .int j => match atI ds j with
      | some (.lst es) => forS (bindF i) b es S
      | _ => .stuck
    | _ => .stuck
  | _ => .stuck

section
variable {X : Cx} {Y : Cl} {W : Wh} {M : Md} {i : Nat} {x : Str} {px pos p : Pos} {e a : Expr} {body : List Stmt} {f fa : En → Res D} {b : List Slot → Res Fl}
theorem pg_fr (hN : X.N.Nodup) (hi : X.N[i]? = some x) (hx : Loc X.env.scope x) (hf : X.fn x = true ∨ X.env.scope.names.lookup x = some .local) : PG X (.Name x px) (gName i) := pg_name hN hi hx hf
theorem itl_run {F : Hp} {p : Addr} {vs : List V} {L : List D} (hs : SqL X.K F p vs) (r : Reps X.K Y F vs L) : (∀ (k : Nat) (H' : Hp), Same F H' → k < L.length → (Itl X.K p).go k H' ∧ ∀ x H'', (Itl X.K p).yld k H' x H'' → H'' = H' ∧ ∃ d, L[k]? = some d ∧ Rep X.K Y F x d) ∧
    (∀ (k : Nat) (H' : Hp), Same F H' → L.length ≤ k → (Itl X.K p).stop k H') := by
  refine ⟨fun k H' s hk => ?_, fun k H' s hk => ⟨vs, s.seq hs, by rw [r.length]; exact hk⟩⟩
  have hd : L[k]? = some L[k] := List.getElem?_eq_getElem hk
  obtain ⟨v, hv, rv⟩ := r.get hd
  refine ⟨⟨vs, v, s.seq hs, hv⟩, fun x H'' hy => ?_⟩
  obtain ⟨rfl, hx⟩ := hy
  have := hx vs (s.seq hs)
  rw [hv] at this
  cases this
  exact ⟨rfl, _, hd, rv⟩
theorem s_forN (i : Nat) (hp : PassesOwn (model X.prog X.w) X.A X.env X.xe) (hc : X.calm = true) (hN : X.N.Nodup) (he : J X Y W .n e f) (hb : JB X Y W M body b) (hi : X.N[i]? = some x := by rfl) (hx : Loc X.env.scope x := by first | exact Or.inl rfl | exact Or.inr rfl) (hM : M i = true := by rfl)
    (hf : X.fn x = true ∨ X.env.scope.names.lookup x = some .local := by first | exact .inl rfl | exact .inr rfl) (hfs : ∀ x, foldedSetIterable e X.env x = pure x := by intro _; rfl) : JS X Y W M (.For (.Name x px) e body [] pos) (sForN i f b) :=
  PS.imp (ps_for hp hc (pi_list he) (pg_fr hN hi hx hf) hb hfs) fun D σ H ⟨F, S, s, h⟩ => by
    refine ⟨en S, s.en, (WPs.bind h s.same).imp (Same.refl H) fun d q => ?_⟩
    intro v H1 fp sh o nd fr
    cases d with
    | lst ds =>
      obtain ⟨F', f1, f2, s', r⟩ := s.freeze sh o fr
      cases r with
      | @lst a vs _ ha r =>
        refine ⟨a, rfl, ⟨vs, SqL.of (f2 _ _ ha)⟩, ?_⟩
        obtain ⟨g1, g2⟩ := itl_run (X := X) (SqL.of ha) r
        exact for_run hM g1 g2 s' (WPs.shallow (show WPs X.K Y W M F D σ (forS (bindF i) b ds S) from q) f1)
    | _ => exact q.elim
theorem itr_run {F : Hp} {lo : Int} {n : Nat} : (∀ (k : Nat) (H' : Hp), Same F H' → k < (intsUpTo lo n).length → (Itr lo n).go k H' ∧ ∀ x H'', (Itr lo n).yld k H' x H'' → H'' = H' ∧ ∃ d, (intsUpTo lo n)[k]? = some d ∧ Rep X.K Y F x d) ∧
    (∀ (k : Nat) (H' : Hp), Same F H' → (intsUpTo lo n).length ≤ k → (Itr lo n).stop k H') := by
  have el : (intsUpTo lo n).length = n := by simp [intsUpTo]
  rw [el]
  refine ⟨fun k H' s hk => ⟨hk, fun x H'' hy => ?_⟩, fun k H' s hk => hk⟩
  obtain ⟨rfl, rfl⟩ := hy
  refine ⟨rfl, .int (lo + (k : Nat)), ?_, .int⟩
  unfold intsUpTo
  rw [List.getElem?_map, List.getElem?_range hk]
  rfl
theorem s_forR1 (i : Nat) (hp : PassesOwn (model X.prog X.w) X.A X.env X.xe) (hc : X.calm = true) (hN : X.N.Nodup) (hm : X.mg "range" = none) (he : J X Y W .r e f) (hb : JB X Y W M body b) (hg : Gl X "range" := by rfl) (hi : X.N[i]? = some x := by rfl) (hx : Loc X.env.scope x := by first | exact Or.inl rfl | exact Or.inr rfl) (hM : M i = true := by rfl)
    (hf : X.fn x = true ∨ X.env.scope.names.lookup x = some .local := by first | exact .inl rfl | exact .inr rfl) (hs : starEach [e] X.env = [(false, eval e X.env)] := by rfl) (hs1 : starEach (e :: []) X.env = (false, eval e X.env) :: starEach [] X.env := by rfl) : JS X Y W M (.For (.Name x px) (.Call (.Name "range" p) [e] [] pos) body [] pos') (sForR1 i f b) :=
  PS.imp (ps_for hp hc (pi_range1 hg hm (pa_cons he pa_nil hs1) hs) (pg_fr hN hi hx hf) hb) fun D σ H ⟨F, S, s, h⟩ => by
    refine ⟨en S, s.en, (WPs.bind h s.same).imp (Same.refl H) fun d q => ?_⟩
    intro v H1 sh r
    cases r with
    | @int n =>
      have q' : WPs X.K Y W M F D σ (if rgOk n = true then forS (bindF i) b (intsUpTo 0 n.toNat) S else .stuck) := q
      by_cases hr : rgOk n = true
      · rw [if_pos hr] at q'
        obtain ⟨z1, z2⟩ := rgOk_iff hr
        refine ⟨n, rfl, z1, z2, ?_⟩
        obtain ⟨g1, g2⟩ := itr_run (X := X) (Y := Y) (F := F) (lo := 0) (n := n.toNat)
        exact for_run hM g1 g2 (s.ext sh) q'
      · rw [if_neg hr] at q'
        exact q'.elim
    | _ => exact q.elim
theorem s_forR2 (i : Nat) (hp : PassesOwn (model X.prog X.w) X.A X.env X.xe) (hc : X.calm = true) (hN : X.N.Nodup) (hm : X.mg "range" = none) (ha : J X Y W .r a fa) (he : J X Y W .r e f) (hb : JB X Y W M body b) (hg : Gl X "range" := by rfl) (hi : X.N[i]? = some x := by rfl) (hx : Loc X.env.scope x := by first | exact Or.inl rfl | exact Or.inr rfl) (hM : M i = true := by rfl)
    (hf : X.fn x = true ∨ X.env.scope.names.lookup x = some .local := by first | exact .inl rfl | exact .inr rfl) (hs : starEach [a, e] X.env = [(false, eval a X.env), (false, eval e X.env)] := by rfl) (hs2 : starEach [e] X.env = [(false, eval e X.env)] := by rfl)
    (hs1 : starEach (a :: [e]) X.env = (false, eval a X.env) :: starEach [e] X.env := by rfl) (hs3 : starEach (e :: []) X.env = (false, eval e X.env) :: starEach [] X.env := by rfl) : JS X Y W M (.For (.Name x px) (.Call (.Name "range" p) [a, e] [] pos) body [] pos') (sForR2 i fa f b) :=
  PS.imp (ps_for hp hc (pi_range2 hg hm (pa_cons ha (pa_cons he pa_nil hs3) hs1) hs hs2) (pg_fr hN hi hx hf) hb) fun D σ H ⟨F, S, s, h⟩ => by
    refine ⟨en S, s.en, (WPs.bind h s.same).imp (Same.refl H) fun d q => ?_⟩
    intro v H1 sh r
    refine ⟨en S, s.en.mono sh, (WPs.bind q (s.same.trans sh)).imp (Same.refl H1) fun d2 q2 => ?_⟩
    intro v2 H2 sh2 r2
    cases r with
    | @int lo =>
      cases r2 with
      | @int hi =>
        have q' : WPs X.K Y W M F D σ (if (rgOk lo && rgOk hi) = true then forS (bindF i) b (intsUpTo lo (hi - lo).toNat) S else .stuck) := q2
        by_cases hr : (rgOk lo && rgOk hi) = true
        · rw [if_pos hr] at q'
          have hr' := Bool.and_eq_true_iff.mp hr
          obtain ⟨z1, z2⟩ := rgOk_iff hr'.1
          obtain ⟨z3, z4⟩ := rgOk_iff hr'.2
          refine ⟨lo, hi, rfl, ⟨z1, z2, z3, z4⟩, ?_⟩
          obtain ⟨g1, g2⟩ := itr_run (X := X) (Y := Y) (F := F) (lo := lo) (n := (hi - lo).toNat)
          exact for_run hM g1 g2 (s.ext (sh.trans sh2)) q'
        · rw [if_neg hr] at q'
          exact q'.elim
      | _ => exact q2.elim
    | _ =>
      cases d2 <;> exact q2.elim
theorem s_forV (i v : Nat) {y : Str} {py : Pos} (hp : PassesOwn (model X.prog X.w) X.A X.env X.xe) (hc : X.calm = true) (hN : X.N.Nodup) (hb : JB X Y W M body b) (hi : X.N[i]? = some x := by rfl) (hx : Loc X.env.scope x := by first | exact Or.inl rfl | exact Or.inr rfl) (hM : M i = true := by rfl)
    (hf : X.fn x = true ∨ X.env.scope.names.lookup x = some .local := by first | exact .inl rfl | exact .inr rfl)
    (hv : X.N[v]? = some y := by rfl) (hvy : Vis X.env.scope y := by first | exact Or.inl rfl | exact Or.inr (Or.inl rfl) | exact Or.inr (Or.inr rfl)) (hd : (y == ("__debug__" : Str)) = false := by decide) (hcd : (y == ("__classdict__" : Str)) = false := by decide) :
    JS X Y W M (.For (.Name x px) (.Name y py) body [] pos) (sForV i v b) :=
  PS.imp (ps_for hp hc (pi_list (pe_var hv hvy hd hcd)) (pg_fr hN hi hx hf) hb) fun D σ H ⟨F, S, s, h⟩ => by
    obtain ⟨G, f1, f2, s', hz⟩ := s.deep
    unfold sForV at h
    cases q : S[v]? with
    | none => rw [q] at h; exact h.elim
    | some z =>
      rw [q] at h
      cases z with
      | un => exact h.elim
      | own d => exact h.elim
      | ali s j => exact h.elim
      | fz d =>
        obtain ⟨u, hu, ru⟩ := hz v d q
        cases d with
        | lst ds =>
          cases ru with
          | @lst a vs _ ha r =>
            refine ⟨.ref a, hu, a, rfl, ⟨vs, SqL.of (f2 _ _ ha)⟩, ?_⟩
            obtain ⟨g1, g2⟩ := itl_run (X := X) (SqL.of ha) r
            exact for_run hM g1 g2 s' (WPs.shallow (show WPs X.K Y W M F D σ (forS (bindF i) b ds S) from h) f1)
        | scr ns =>
          cases ru with
          | @scr a _ ha =>
            refine ⟨.ref a, hu, a, rfl, ⟨_, f2.seq ha⟩, ?_⟩
            obtain ⟨g1, g2⟩ := itl_run (X := X) ha (.of_ints (Y := Y) ns)
            exact for_run hM g1 g2 s' (WPs.shallow (show WPs X.K Y W M F D σ (forS (bindF i) b (ns.map .int) S) from h) f1)
        | _ => exact h.elim
theorem s_forP (i v : Nat) {y : Str} {py : Pos} (hp : PassesOwn (model X.prog X.w) X.A X.env X.xe) (hc : X.calm = true) (hN : X.N.Nodup) (he : J X Y W .r e f) (hb : JB X Y W M body b) (hi : X.N[i]? = some x := by rfl) (hx : Loc X.env.scope x := by first | exact Or.inl rfl | exact Or.inr rfl) (hM : M i = true := by rfl)
    (hf : X.fn x = true ∨ X.env.scope.names.lookup x = some .local := by first | exact .inl rfl | exact .inr rfl) (hs : PlainIx e := by exact fun _ _ => rfl)
    (hv : X.N[v]? = some y := by rfl) (hvy : Vis X.env.scope y := by first | exact Or.inl rfl | exact Or.inr (Or.inl rfl) | exact Or.inr (Or.inr rfl)) (hd : (y == ("__debug__" : Str)) = false := by decide) (hcd : (y == ("__classdict__" : Str)) = false := by decide) :
    JS X Y W M (.For (.Name x px) (.Subscript (.Name y py) e p) body [] pos) (sForP i v f b) :=
  PS.imp (ps_for hp hc (pi_list (pe_ix ix_list (pe_var hv hvy hd hcd) he hs)) (pg_fr hN hi hx hf) hb) fun D σ H ⟨F, S, s, h⟩ => by
    obtain ⟨G, f1, f2, s', hz⟩ := s.deep
    unfold sForP at h
    cases q : S[v]? with
    | none => rw [q] at h; exact h.elim
    | some z =>
      rw [q] at h
      cases z with
      | un => exact h.elim
      | own d => exact h.elim
      | ali s j => exact h.elim
      | fz d =>
        obtain ⟨u, hu, ru⟩ := hz v d q
        cases d with
        | lst ds =>
          cases ru with
          | @lst a vs _ ha r =>
            refine ⟨.ref a, hu, ?_⟩
            have h' : WPs X.K Y W M F D σ (f (en S) >>= fun e => match e with
              | .int j => match atI ds j with
                | some (.lst es) => forS (bindF i) b es S
                | _ => .stuck
              | _ => .stuck) := h
            refine ⟨en S, s.en, (WPs.bind h' s.same).imp (Same.refl H) fun d2 q2 => ?_⟩
            intro v2 H2 sh2 r2
            cases r2 with
            | @int j =>
              cases q3 : atI ds j with
              | none =>
                simp only [q3] at q2
                exact q2.elim
              | some d3 =>
                simp only [q3] at q2
                obtain ⟨u3, hu3, ru3⟩ := r.at q3
                cases d3 with
                | lst es =>
                  cases ru3 with
                  | @lst a3 vs3 _ ha3 r3 =>
                    have f2' := f2.trans sh2
                    refine ⟨a, vs, j, .ref a3, rfl, rfl, SqL.of (f2' _ _ ha), hu3, a3, rfl, ⟨vs3, SqL.of (f2' _ _ ha3)⟩, ?_⟩
                    obtain ⟨g1, g2⟩ := itl_run (X := X) (SqL.of ha3) r3
                    exact for_run hM g1 g2 (s'.ext sh2) (WPs.shallow (show WPs X.K Y W M F D σ (forS (bindF i) b es S) from q2) f1)
                | _ => exact q2.elim
            | _ => exact q2.elim
        | _ => exact h.elim
end
end Ow
end
section
set_option linter.all false
set_option maxRecDepth 100000
set_option maxHeartbeats 1000000
/-! Ow8: reckoning with the plain functions. -/
namespace Ow
open PySem L2
@[simp] theorem map_fz_cons (d : D) (ds : List D) : (d :: ds).map Slot.fz = Slot.fz d :: ds.map Slot.fz := rfl
@[simp] theorem dat_fz (S : List Slot) (d : D) : Slot.dat S (.fz d) = some d := rfl
@[simp] theorem dat_own (S : List Slot) (d : D) : Slot.dat S (.own d) = some d := rfl
@[simp] theorem dat_un (S : List Slot) : Slot.dat S .un = none := rfl
@[simp] theorem kill_fz (i : Nat) (d : D) : Slot.kill i (.fz d) = .fz d := rfl
@[simp] theorem kill_own (i : Nat) (d : D) : Slot.kill i (.own d) = .own d := rfl
@[simp] theorem kill_un (i : Nat) : Slot.kill i .un = .un := rfl
@[simp] theorem mk_int (i : Int) : mk (.int i) = .fz (.int i) := by simp [mk, pureD]
@[simp] theorem mk_bl (i : Bool) : mk (.bl i) = .fz (.bl i) := by simp [mk, pureD]
@[simp] theorem mk_non : mk .non = .fz .non := by simp [mk, pureD]
@[simp] theorem mk_str (x : Str) : mk (.str x) = .fz (.str x) := by simp [mk, pureD]
@[simp] theorem mk_lst (x : List D) : mk (.lst x) = .own (.lst x) := by simp [mk, pureD]
@[simp] theorem mk_dI (x : List (Int × D)) : mk (.dI x) = .own (.dI x) := by simp [mk, pureD]
@[simp] theorem mk_dT (x : List (List Int × D)) : mk (.dT x) = .own (.dT x) := by simp [mk, pureD]
theorem mk_pure {d : D} (h : pureD d = true) : mk d = .fz d := by simp [mk, h]
/-- a fraction -/
abbrev fr (a b : Int) : D := .tup [.int a, .int b]
@[simp] theorem pure_fr (a b : Int) : pureD (fr a b) = true := by simp [pureD, pureDs]
@[simp] theorem mk_fr (a b : Int) : mk (.tup [.int a, .int b]) = .fz (.tup [.int a, .int b]) := mk_pure (pure_fr a b)
@[simp] theorem pureD_int' (i : Int) : pureD (.int i) = true := pureD_int i
@[simp] theorem pureD_bl' (i : Bool) : pureD (.bl i) = true := pureD_bl i
@[simp] theorem pureD_non' : pureD .non = true := pureD_non
@[simp] theorem pureD_str' (x : Str) : pureD (.str x) = true := pureD_str x
@[simp] theorem pureD_lst' (x : List D) : pureD (.lst x) = false := pureD_lst x
@[simp] theorem pureD_tup' (x : List D) : pureD (.tup x) = pureDs x := pureD_tup x
@[simp] theorem pureDs_nil' : pureDs [] = true := pureDs_nil
@[simp] theorem pureDs_cons' (d : D) (ds : List D) : pureDs (d :: ds) = (pureD d && pureDs ds) := pureDs_cons d ds

@[simp] theorem oAdd_int (a b : Int) : oAdd (.int a) (.int b) = .ok (.int (a + b)) := rfl
@[simp] theorem oSub_int (a b : Int) : oSub (.int a) (.int b) = .ok (.int (a - b)) := rfl
@[simp] theorem oLt_int (a b : Int) : oLt (.int a) (.int b) = .ok (.bl (decide (a < b))) := rfl
@[simp] theorem oLe_int (a b : Int) : oLe (.int a) (.int b) = .ok (.bl (decide (a ≤ b))) := rfl
@[simp] theorem oGt_int (a b : Int) : oGt (.int a) (.int b) = .ok (.bl (decide (b < a))) := rfl
@[simp] theorem oGe_int (a b : Int) : oGe (.int a) (.int b) = .ok (.bl (decide (b ≤ a))) := rfl
@[simp] theorem oMin_int (a b : Int) : oMin (.int a) (.int b) = .ok (.int (if b < a then b else a)) := rfl
@[simp] theorem oMax_int (a b : Int) : oMax (.int a) (.int b) = .ok (.int (if b > a then b else a)) := rfl
@[simp] theorem oNeg_int (a : Int) : oNeg (.int a) = .ok (.int (-a)) := rfl
@[simp] theorem oAbs_int (a : Int) : oAbs (.int a) = .ok (.int (if a < 0 then -a else a)) := rfl
/-- the size of a number: below two to the n -/
abbrev Sz (n : Nat) (a : Int) : Prop := a.natAbs < 2 ^ n
theorem log2_lt {n k : Nat} (h : n < 2 ^ k) (hk : 0 < k) : n.log2 < k := by
  by_cases e : n = 0
  · subst e
    simpa using hk
  · exact (Nat.log2_lt e).mpr h
theorem oMul_ok {a b : Int} {n m : Nat} (ha : Sz n a) (hb : Sz m b) (h : n + m ≤ 999000) : oMul (.int a) (.int b) = .ok (.int (a * b)) := by
  have h1 : a.natAbs.log2 < n + 1 := log2_lt (Nat.lt_of_lt_of_le ha (Nat.pow_le_pow_right (by decide) (Nat.le_succ n))) (Nat.succ_pos n)
  have h2 : b.natAbs.log2 < m + 1 := log2_lt (Nat.lt_of_lt_of_le hb (Nat.pow_le_pow_right (by decide) (Nat.le_succ m))) (Nat.succ_pos m)
  have : cMul a b = true := decide_eq_true (by omega)
  show (if cMul a b = true then Res.ok (D.int (a * b)) else .stuck) = _
  rw [if_pos this]
theorem oDiv_ok {a b : Int} {n : Nat} (h0 : b ≠ 0) (hb : Sz n b) (h : n ≤ 8999) : oDiv (.int a) (.int b) = .ok (.int (a.fdiv b)) := by
  have h2 : b.natAbs.log2 < n + 1 := log2_lt (Nat.lt_of_lt_of_le hb (Nat.pow_le_pow_right (by decide) (Nat.le_succ n))) (Nat.succ_pos n)
  have : cDiv a b = true := by
    unfold cDiv
    rw [decide_eq_true h0, decide_eq_true (show b.natAbs.log2 < 9000 by omega)]
    rfl
  show (if cDiv a b = true then Res.ok (D.int (a.fdiv b)) else .stuck) = _
  rw [if_pos this]
theorem oMod_ok {a b : Int} (h0 : b ≠ 0) : oMod (.int a) (.int b) = .ok (.int (a.fmod b)) := by
  have : cMod a b = true := decide_eq_true h0
  show (if cMod a b = true then Res.ok (D.int (a.fmod b)) else .stuck) = _
  rw [if_pos this]
/-- by a positive number -/
theorem oDiv_pos {a b : Int} (h0 : 0 < b) (hb : Sz 8000 b) : oDiv (.int a) (.int b) = .ok (.int (a / b)) := by
  rw [oDiv_ok (n := 8000) (by omega) hb (by decide), Int.fdiv_eq_ediv_of_nonneg a (by omega)]
/-- by a written number -/
theorem oDiv_c {a b : Int} (h0 : 0 < b) (hb : Sz 250 b) : oDiv (.int a) (.int b) = .ok (.int (a / b)) :=
  oDiv_pos h0 (Nat.lt_of_lt_of_le hb (Nat.pow_le_pow_right (by decide) (by decide)))
theorem oMod_pos {a b : Int} (h0 : 0 < b) : oMod (.int a) (.int b) = .ok (.int (a % b)) := by
  rw [oMod_ok (by omega), Int.fmod_eq_emod_of_nonneg a (by omega)]
/-- == of ints -/
theorem shp_int (a : Int) : shp (.int a) = true := by
  unfold shp
  rw [toP]
  rfl
@[simp] theorem oEq_int (a b : Int) : oEq (.int a) (.int b) = .ok (.bl (decide (a = b))) := by
  unfold oEq
  rw [shp_int, shp_int, toP, toP, PyData.eqv]
  rfl
@[simp] theorem oNe_int (a b : Int) : oNe (.int a) (.int b) = .ok (.bl (!decide (a = b))) := by
  unfold oNe
  rw [shp_int, shp_int, toP, toP, PyData.eqv]
  rfl
@[simp] theorem isNon_tup (x : List D) : isNon (.tup x) = false := rfl
@[simp] theorem isNon_lst (x : List D) : isNon (.lst x) = false := rfl
@[simp] theorem isNon_int (x : Int) : isNon (.int x) = false := rfl
@[simp] theorem isNon_non : isNon .non = true := rfl
@[simp] theorem oLen_lst (x : List D) : oLen (.lst x) = .ok (.int x.length) := rfl
@[simp] theorem oLen_tup (x : List D) : oLen (.tup x) = .ok (.int x.length) := rfl
@[simp] theorem oLen_scr (x : List Int) : oLen (.scr x) = .ok (.int x.length) := rfl
theorem oIx_lst (x : List D) (i : Int) : oIx (.lst x) (.int i) = match atI x i with
    | some d => .ok d
    | none => .stuck := rfl
theorem oIx_tup (x : List D) (i : Int) : oIx (.tup x) (.int i) = match atI x i with
    | some d => .ok d
    | none => .stuck := rfl
theorem oIx_scr (x : List Int) (i : Int) : oIx (.scr x) (.int i) = match atI x i with
    | some d => .ok (.int d)
    | none => .stuck := rfl
@[simp] theorem oIx_p0 (a b : D) : oIx (.tup [a, b]) (.int 0) = .ok a := rfl
@[simp] theorem oIx_p1 (a b : D) : oIx (.tup [a, b]) (.int 1) = .ok b := rfl
theorem atI_nat' {α : Type} {xs : List α} {i : Int} (h : 0 ≤ i) : atI xs i = xs[i.toNat]? := by
  unfold atI ixN
  rw [if_pos h]
  by_cases e : i < xs.length
  · rw [if_pos e]; rfl
  · rw [if_neg e]
    have : xs.length ≤ i.toNat := by omega
    rw [List.getElem?_eq_none this]
    rfl
end Ow
end
section
set_option linter.all false
set_option maxRecDepth 100000
set_option maxHeartbeats 1000000
/-! Ow9: loops, slices, in plain. -/
namespace Ow
open PySem L2
theorem forS_all {α : Type} {bind : α → List Slot → Res (List Slot)} {b : List Slot → Res Fl} (I : Nat → List Slot → Prop) : ∀ (L : List α) (S : List Slot), I 0 S → (∀ (k : Nat) (d : α) S, L[k]? = some d → I k S → ∃ S1 S', bind d S = .ok S1 ∧ b S1 = .ok (.nx S') ∧ I (k + 1) S') →
    ∃ S', forS bind b L S = .ok (.nx S') ∧ I L.length S'
  | [], S, h0, _ => ⟨S, rfl, h0⟩
  | d :: L, S, h0, hs => by
    obtain ⟨S1, S', e1, e2, h1⟩ := hs 0 d S rfl h0
    obtain ⟨S2, e3, h2⟩ := forS_all (fun k => I (k + 1)) L S' h1 (fun k d S hd hI => hs (k + 1) d S hd hI)
    refine ⟨S2, ?_, h2⟩
    unfold forS
    rw [e1]
    simp only [ok_bind]
    rw [e2]
    exact e3
theorem cutG_to {α : Type} (xs : List α) (n : Nat) : cutG xs none (some (n : Int)) = xs.take n := by
  unfold cutG
  rw [HT.sIx_nat, HT.sIx_none]
  simp only [Nat.sub_zero, List.drop_zero]
  exact List.take_eq_take_iff.mpr (by omega)
theorem cutG_from {α : Type} (xs : List α) (n : Nat) : cutG xs (some (n : Int)) none = xs.drop n := by
  unfold cutG
  rw [HT.sIx_nat, HT.sIx_none]
  apply List.ext_getElem?
  intro i
  rw [List.getElem?_take, List.getElem?_drop, List.getElem?_drop]
  by_cases h : i < xs.length - min n xs.length
  · rw [if_pos h]
    congr 1
    omega
  · rw [if_neg h]
    exact (List.getElem?_eq_none (by omega)).symm
/-! ### divisors -/
/-- what the while of divisor does -/
def dvC : En → Res Bool := tBl (x2 oGt (xVar 1) (xC (.int 0)))
def dvB : List Slot → Res Fl := sPar 0 1 (xVar 1) (x2 oMod (xVar 0) (xVar 1))
theorem dv_while : ∀ (n : Nat) (x y : Int), y.toNat ≤ n → 0 ≤ x → 0 ≤ y → sWhile dvC dvB [.fz (.int x), .fz (.int y)] = .ok (.nx [.fz (.int (Int.gcd x y)), .fz (.int 0)]) := by
  intro n
  induction n with
  | zero =>
    intro x y h hx hy
    have e : y = 0 := by omega
    subst e
    rw [sWhile_eq]
    simp [dvC, tBl, x2, xVar, xC, en]
    omega
  | succ n ih =>
    intro x y h hx hy
    rw [sWhile_eq]
    by_cases e : y = 0
    · subst e
      simp [dvC, tBl, x2, xVar, xC, en]
      omega
    · have hy0 : 0 < y := by omega
      have hlt := Int.emod_lt_of_pos x hy0
      have hge := Int.emod_nonneg x e
      have hb : dvB [.fz (.int x), .fz (.int y)] = .ok (.nx [.fz (.int y), .fz (.int (x % y))]) := by
        simp [dvB, sPar, xVar, x2, en, oMod_pos hy0, setS]
      have hc : dvC (en [.fz (.int x), .fz (.int y)]) = .ok true := by
        simp [dvC, tBl, x2, xVar, xC, en, hy0]
      rw [hc, ok_bind, if_pos rfl, hb, ok_bind]
      show sWhile dvC dvB [.fz (.int y), .fz (.int (x % y))] = _
      have eg : Int.gcd y (x % y) = Int.gcd x y := by
        rw [Int.gcd_comm x y]
        have := Int.gcd_add_mul_left_right y (x % y) (x / y)
        rw [Int.emod_add_mul_ediv] at this
        exact this.symm
      rw [ih y (x % y) (by omega) hy hge, eg]
end Ow
end
section
set_option linter.all false
set_option maxRecDepth 100000
set_option maxHeartbeats 2000000
/-! Ow10: loops with any target: enumerate, zip; tuples unpacked. -/
namespace Ow
open PySem L2 PySem.Spec
section
variable {K : PySem.W.Frag} {Y : Cl} {F H H' : Hp} {S : List Slot} {σ : St}
/-- the walk over items, any binding -/
theorem for_gen {α : Type} {W : Wh} {M : Md} {D' : Ends} {J : It} {g : TG} {b : List Slot → Res Fl} {bind : α → List Slot → Res (List Slot)} {L : List α}
    (hgo : ∀ (k : Nat) (a : α) (S1 : List Slot) (σ1 : St) (H1 : Hp) (S2 : List Slot), L[k]? = some a → Sat K Y F S1 σ1 H1 → Stay M σ σ1 → bind a S1 = .ok S2 → J.go k H1 ∧ ∀ x H2, J.yld k H1 x H2 → ∀ Q : St → Hp → Prop, (∀ σ2 H3, Sat K Y F S2 σ2 H3 → Stay M σ1 σ2 → Q σ2 H3) → g x σ1 H2 Q)
    (hst : ∀ (S1 : List Slot) (σ1 : St) (H1 : Hp), Sat K Y F S1 σ1 H1 → Stay M σ σ1 → J.stop L.length H1) (hcalm : ∀ a S1 e, bind a S1 ≠ .exc e) (s : Sat K Y F S σ H) (h : WPs K Y W M F D' σ (forS bind b L S)) :
    ∃ W' : Nat → Nat → St → Hp → Prop, (∃ m, W' 0 m σ H) ∧ ∀ k m σ1 H1, W' k m σ1 H1 → (J.stop k H1 ∧ D'.nx σ1 H1) ∨ (J.go k H1 ∧ ∃ N : St → Hp → Prop, (∀ σ' H', N σ' H' → ∃ m', m' < m ∧ W' (k + 1) m' σ' H') ∧
      ∀ x H', J.yld k H1 x H' → g x σ1 H' fun σ2 H2 => tS K Y W M b { D' with nx := N, ct := N, bk := D'.nx } σ2 H2) := by
  refine ⟨fun k m σ1 H1 => m = L.length - k ∧ k ≤ L.length ∧ ∃ S1, Sat K Y F S1 σ1 H1 ∧ Stay M σ σ1 ∧ WPs K Y W M F D' σ (forS bind b (L.drop k) S1), ⟨_, rfl, Nat.zero_le _, S, s, Stay.refl M σ, h⟩, ?_⟩
  rintro k m σ1 H1 ⟨rfl, hk, S1, s1, y1, p⟩
  by_cases hlt : k < L.length
  · have hd : L[k]? = some L[k] := List.getElem?_eq_getElem hlt
    have ed : L.drop k = L[k] :: L.drop (k + 1) := List.drop_eq_getElem_cons hlt
    rw [ed] at p
    have p' : WPs K Y W M F D' σ (bind L[k] S1 >>= fun S2 => b S2 >>= fun r => match r with
      | .nx S' => forS bind b (L.drop (k + 1)) S'
      | .ct S' => forS bind b (L.drop (k + 1)) S'
      | .bk S' => .ok (.nx S')
      | .rt d S' => .ok (.rt d S')) := p
    cases qb : bind L[k] S1 with
    | stuck => rw [qb] at p'; exact p'.elim
    | exc e => exact absurd qb (hcalm _ _ e)
    | ok S2 =>
      rw [qb, ok_bind] at p'
      obtain ⟨g1, g2⟩ := hgo k L[k] S1 σ1 H1 S2 hd s1 y1 qb
      refine .inr ⟨g1, fun σ' H' => ∃ S', Sat K Y F S' σ' H' ∧ Stay M σ σ' ∧ WPs K Y W M F D' σ (forS bind b (L.drop (k + 1)) S'), fun σ' H' ⟨S', a1, a2, a3⟩ => ⟨_, by omega, rfl, hlt, S', a1, a2, a3⟩, fun x H' hy => ?_⟩
      refine g2 x H' hy _ fun σ2 H2 s2 y2 => ⟨F, S2, s2, ?_⟩
      have y3 : Stay M σ σ2 := y1.trans y2
      cases q : b S2 with
      | stuck => rw [q] at p'; exact p'
      | exc e => rw [q] at p'; exact p'
      | ok r =>
        rw [q] at p'
        cases r with
        | rt d S2 => exact fun v H2 r => p' v H2 (r.stay y3)
        | nx S' => exact fun σ' H' s' st => ⟨S', s', y3.trans st, p'⟩
        | ct S' => exact fun σ' H' s' st => ⟨S', s', y3.trans st, p'⟩
        | bk S' => exact fun σ' H' s' st => p' σ' H' s' (y3.trans st)
  · have ed : L.drop k = [] := List.drop_of_length_le (by omega)
    rw [ed] at p
    have ek : k = L.length := by omega
    subst ek
    exact .inl ⟨hst S1 σ1 H1 s1 y1, p σ1 H1 s1 y1⟩
end
/-- the items with their numbers -/
def enumD (k : Nat) : List D → List (Nat × D)
  | [] => []
  | d :: ds => (k, d) :: enumD (k + 1) ds
theorem enumD_len : ∀ (k : Nat) (ds : List D), (enumD k ds).length = ds.length
  | _, [] => rfl
  | k, d :: ds => by simp [enumD, enumD_len (k + 1) ds]
theorem enumD_get : ∀ (ds : List D) (k i : Nat), (enumD k ds)[i]? = (ds[i]?).map fun d => (k + i, d)
  | [], k, i => by simp [enumD]
  | d :: ds, k, 0 => by simp [enumD]
  | d :: ds, k, i + 1 => by
    simp only [enumD, List.getElem?_cons_succ]
    rw [enumD_get ds (k + 1) i]
    simp [Nat.add_comm, Nat.add_left_comm]
def bind2 (i j : Nat) (p : Nat × D) (S : List Slot) : Res (List Slot) := .ok (setS (setS S i (.fz (.int p.1))) j (.fz p.2))
/-- for i, j in enumerate(a new list) -/
def sForE (i j : Nat) (f : En → Res D) (b : List Slot → Res Fl) : List Slot → Res Fl := fun S => f (en S) >>= fun d => match d with
  | .lst ds => forS (bind2 i j) b (enumD 0 ds) S
  | _ => .stuck
/-- a, b = a pure pair -/
def sUnp2 (i j : Nat) (f : En → Res D) : List Slot → Res Fl := fun S => f (en S) >>= fun d => match d with
  | .tup [x, y] => if (pureD x && pureD y) = true then .ok (.nx (setS (setS S i (.fz x)) j (.fz y))) else .stuck
  | _ => .stuck
section
variable {X : Cx} {Y : Cl} {W : Wh} {M : Md} {x y : Str} {px py pt pos p : Pos} {kt : Nat} {e : Expr} {body : List Stmt} {f : En → Res D} {b : List Slot → Res Fl}
theorem pg_pair {i j : Nat} (hc : X.calm = true) (hN : X.N.Nodup) (hi : X.N[i]? = some x) (hj : X.N[j]? = some y) (hx : Loc X.env.scope x) (hy : Loc X.env.scope y) (hfx : X.fn x = true ∨ X.env.scope.names.lookup x = some .local) (hfy : X.fn y = true ∨ X.env.scope.names.lookup y = some .local)
    (hn : (assignEach [.Name x px, .Name y py] X.env).length = 2) (hst : (assignEach [.Name x px, .Name y py] X.env).findIdx? (·.1) = none) (h1 : (assignEach (.Name x px :: [.Name y py]) X.env).map (·.2) = assign (.Name x px) X.env :: (assignEach [.Name y py] X.env).map (·.2))
    (h2 : (assignEach (.Name y py :: []) X.env).map (·.2) = assign (.Name y py) X.env :: (assignEach [] X.env).map (·.2)) : PG X (.Tuple [.Name x px, .Name y py] kt pt) (gTup X.K 2 (gCons (gName i) (gCons (gName j) gNil))) :=
  pg_tup hc (pgs_cons (pg_name hN hi hx hfx) (pgs_cons (pg_name hN hj hy hfy) pgs_nil h2) h1) hn hst
theorem s_forE (i j : Nat) (hp : PassesOwn (model X.prog X.w) X.A X.env X.xe) (hc : X.calm = true) (hN : X.N.Nodup) (hm : X.mg "enumerate" = none) (he : J X Y W .n e f) (hb : JB X Y W M body b) (hg : Gl X "enumerate" := by rfl) (hi : X.N[i]? = some x := by rfl) (hj : X.N[j]? = some y := by rfl)
    (hx : Loc X.env.scope x := by first | exact Or.inl rfl | exact Or.inr rfl) (hy : Loc X.env.scope y := by first | exact Or.inl rfl | exact Or.inr rfl) (hMi : M i = true := by rfl) (hMj : M j = true := by rfl)
    (hfx : X.fn x = true ∨ X.env.scope.names.lookup x = some .local := by first | exact .inl rfl | exact .inr rfl) (hfy : X.fn y = true ∨ X.env.scope.names.lookup y = some .local := by first | exact .inl rfl | exact .inr rfl)
    (hn : (assignEach [.Name x px, .Name y py] X.env).length = 2 := by rfl) (hst : (assignEach [.Name x px, .Name y py] X.env).findIdx? (·.1) = none := by rfl) (h1 : (assignEach (.Name x px :: [.Name y py]) X.env).map (·.2) = assign (.Name x px) X.env :: (assignEach [.Name y py] X.env).map (·.2) := by rfl)
    (h2 : (assignEach (.Name y py :: []) X.env).map (·.2) = assign (.Name y py) X.env :: (assignEach [] X.env).map (·.2) := by rfl) (hs : starEach [e] X.env = [(false, eval e X.env)] := by rfl) (hs1 : starEach (e :: []) X.env = (false, eval e X.env) :: starEach [] X.env := by rfl) :
    JS X Y W M (.For (.Tuple [.Name x px, .Name y py] kt pt) (.Call (.Name "enumerate" p) [e] [] pos) body [] pos') (sForE i j f b) :=
  PS.imp (ps_for hp hc (pi_enum hg hm (pa_cons he pa_nil hs1) hs) (pg_pair hc hN hi hj hx hy hfx hfy hn hst h1 h2) hb) fun D σ H ⟨F, S, s, h⟩ => by
    refine ⟨en S, s.en, (WPs.bind h s.same).imp (Same.refl H) fun d q => ?_⟩
    intro v H1 fp sh o nd fr
    cases d with
    | lst ds =>
      obtain ⟨F', f1, f2, s', r⟩ := s.freeze sh o fr
      cases r with
      | @lst a vs _ ha r =>
        refine ⟨a, vs, rfl, SqL.of (f2 _ _ ha), ?_⟩
        refine for_gen (K := X.K) (Y := Y) (F := F') (J := Ite X.K a) (bind := bind2 i j) (L := enumD 0 ds) (fun k pd S1 σ1 H2 S2 hk s1 y1 hb => ?_) (fun S1 σ1 H2 s1 y1 => ?_) (fun a S1 e z => by cases z) s' (WPs.shallow (show WPs X.K Y W M F D σ (forS (bind2 i j) b (enumD 0 ds) S) from q) f1)
        · rw [enumD_get] at hk
          obtain ⟨d, hd, rfl⟩ := Option.map_eq_some_iff.mp hk
          obtain ⟨v, hv, rv⟩ := r.get hd
          refine ⟨⟨vs, v, SqL.of (s1.same _ _ ha), hv⟩, fun x H3 hy Q hQ => ?_⟩
          obtain ⟨Tp, u, rfl, hT, rfl, hu⟩ := hy
          have eu := hu vs (SqL.of (s1.same _ _ ha))
          rw [hv] at eu
          cases eu
          have sm : Same H2 (upd H2 Tp (.tup [.int (k : Nat), v])) := same_new hT
          refine ⟨Tp, _, rfl, SqT.of upd_same, rfl, _, _, rfl, _, _, rfl, rfl, ?_⟩
          cases hb
          refine hQ _ _ (((s1.ext sm).setPure (Same.refl _) .int (pureD_int _)).setFz rv) ((Stay.set hMi).trans (Stay.set hMj)) |> fun z => ?_
          simpa using z
        · rw [enumD_len]
          exact ⟨vs, SqL.of (s1.same _ _ ha), by rw [r.length]; exact Nat.le_refl _⟩
    | _ => exact q.elim
theorem s_unp2 (i j : Nat) (hc : X.calm = true) (hN : X.N.Nodup) (he : J X Y W .r e f) (hi : X.N[i]? = some x := by rfl) (hj : X.N[j]? = some y := by rfl)
    (hx : Loc X.env.scope x := by first | exact Or.inl rfl | exact Or.inr rfl) (hy : Loc X.env.scope y := by first | exact Or.inl rfl | exact Or.inr rfl) (hMi : M i = true := by rfl) (hMj : M j = true := by rfl)
    (hfx : X.fn x = true ∨ X.env.scope.names.lookup x = some .local := by first | exact .inl rfl | exact .inr rfl) (hfy : X.fn y = true ∨ X.env.scope.names.lookup y = some .local := by first | exact .inl rfl | exact .inr rfl)
    (hn : (assignEach [.Name x px, .Name y py] X.env).length = 2 := by rfl) (hst : (assignEach [.Name x px, .Name y py] X.env).findIdx? (·.1) = none := by rfl) (h1 : (assignEach (.Name x px :: [.Name y py]) X.env).map (·.2) = assign (.Name x px) X.env :: (assignEach [.Name y py] X.env).map (·.2) := by rfl)
    (h2 : (assignEach (.Name y py :: []) X.env).map (·.2) = assign (.Name y py) X.env :: (assignEach [] X.env).map (·.2) := by rfl)
    (hs : swapsWithSole [.Tuple [.Name x px, .Name y py] kt pt] e pos.line X.env = pure false := by rfl) (hw : swappedStores [.Tuple [.Name x px, .Name y py] kt pt] e X.env = pure none := by rfl) (h3 : (assignEach [.Tuple [.Name x px, .Name y py] kt pt] X.env).map (·.2) = [assign (.Tuple [.Name x px, .Name y py] kt pt) X.env] := by rfl) :
    JS X Y W M (.Assign [.Tuple [.Name x px, .Name y py] kt pt] e pos) (sUnp2 i j f) :=
  PS.imp (ps_asg he (pg_pair hc hN hi hj hx hy hfx hfy hn hst h1 h2) hs hw h3) fun D σ H ⟨F, S, s, h⟩ => by
    refine ⟨en S, s.en, (WPs.bind h s.same).imp (Same.refl H) fun d q => ?_⟩
    intro v H1 sh r
    split at q
    · rename_i d1 d2
      by_cases hp : (pureD d1 && pureD d2) = true
      · rw [if_pos hp] at q
        have hp' := Bool.and_eq_true_iff.mp hp
        cases r with
        | tup ht rs =>
          cases rs with
          | cons r1 rs =>
            cases rs with
            | cons r2 rs =>
              cases rs
              refine ⟨_, _, rfl, ht, rfl, _, _, rfl, _, _, rfl, rfl, ?_⟩
              exact q _ _ ((s.setPure sh r1 hp'.1).setPure (Same.refl _) r2 hp'.2) ((Stay.set hMi).trans (Stay.set hMj))
      · rw [if_neg hp] at q
        exact q.elim
    · exact q.elim
end
end Ow
end
section
set_option linter.all false
set_option maxRecDepth 100000
set_option maxHeartbeats 2000000
/-! Ow11: iterators, and list comprehensions. -/
namespace Ow
open PySem L2 PySem.Spec

/-- what a turn binds -/
abbrev Bd := List (Nat × D)
def setE (en : En) : Bd → En
  | [] => en
  | (i, d) :: r => setE (en.set i (some d)) r
def setV (σ : St) : List (Nat × V) → St
  | [] => σ
  | (i, v) :: r => setV (σ.set i (some v)) r
def wipeE (en : En) : List Nat → En
  | [] => en
  | v :: vs => (wipeE en vs).set v none
inductive BdRep (K : PySem.W.Frag) (Y : Cl) (F H : Hp) : List (Nat × V) → Bd → Prop
  | nil : BdRep K Y F H [] []
  | cons {i : Nat} {v : V} {d : D} {r : List (Nat × V)} {s : Bd} : (Rep K Y F v d ∨ (pureD d = true ∧ Rep K Y H v d)) → BdRep K Y F H r s → BdRep K Y F H ((i, v) :: r) ((i, d) :: s)
structure ItOk (K : PySem.W.Frag) (Y : Cl) (J : It) (g : TG) {α : Type} (l : List α) (bnd : α → Bd) (F : Hp) : Prop where
  go : ∀ (k : Nat) (H' : Hp), Same F H' → k < l.length → J.go k H'
  stop : ∀ H' : Hp, Same F H' → J.stop l.length H'
  step : ∀ (k : Nat) (a : α) (H' : Hp) (x : V) (H'' : Hp) (σ : St), l[k]? = some a → Same F H' → J.yld k H' x H'' → Same H' H'' ∧ ∀ Q : St → Hp → Prop, (∀ ws, BdRep K Y F H'' ws (bnd a) → Q (setV σ ws) H'') → g x σ H'' Q

section
variable {K : PySem.W.Frag} {Y : Cl} {F H H' : Hp} {σ : St} {en : En}
theorem EnOk.set (h : EnOk K Y H σ en) {i : Nat} {v : V} {d : D} (r : Rep K Y H v d) : EnOk K Y H (σ.set i (some v)) (en.set i (some d)) := by
  refine ⟨by rw [List.length_set, List.length_set]; exact h.1, fun k e q => ?_⟩
  by_cases hk : k = i
  · subst hk
    by_cases hl : k < en.length
    · rw [List.getElem?_set_self hl] at q
      cases q
      exact ⟨v, by rw [List.getElem?_set_self (by rw [← h.1]; exact hl)], r⟩
    · rw [List.getElem?_eq_none (by simpa using hl)] at q
      cases q
  · rw [List.getElem?_set_ne (Ne.symm hk)] at q ⊢
    exact h.2 k e q
theorem EnOk.setE {ws : List (Nat × V)} {bd : Bd} (b : BdRep K Y F H ws bd) (fh : Same F H) : ∀ {σ : St} {en : En}, EnOk K Y H σ en → EnOk K Y H (setV σ ws) (setE en bd) := by
  induction b with
  | nil => exact fun h => h
  | cons hr _ ih =>
    intro σ en h
    refine ih (h.set ?_)
    rcases hr with hr | ⟨_, hr⟩
    · exact hr.mono fh
    · exact hr
theorem EnOk.wipe (h : EnOk K Y H σ en) : ∀ vs : List Nat, EnOk K Y H (wipe σ vs) (wipeE en vs)
  | [] => h
  | v :: vs => by
    have ih := EnOk.wipe h vs
    unfold L2.wipe wipeE
    refine ⟨by rw [List.length_set, List.length_set]; exact ih.1, fun k e q => ?_⟩
    by_cases hk : k = v
    · subst hk
      by_cases hl : k < (wipeE en vs).length
      · rw [List.getElem?_set_self hl] at q
        cases q
      · rw [List.getElem?_eq_none (by simpa using hl)] at q
        cases q
    · rw [List.getElem?_set_ne (Ne.symm hk)] at q ⊢
      exact ih.2 k e q
theorem wipe_out {i : Nat} {x : Option V} : ∀ {vs : List Nat} {σ : St}, i ∉ vs → wipe (σ.set i x) vs = (wipe σ vs).set i x
  | [], σ, h => rfl
  | v :: vs, σ, h => by
    unfold L2.wipe
    rw [wipe_out (fun z => h (List.mem_cons_of_mem _ z)), List.set_comm _ _ (show i ≠ v from fun e => h (by rw [e]; exact List.mem_cons_self))]
theorem wipe_set {i : Nat} {x : Option V} : ∀ {vs : List Nat} {σ : St}, i ∈ vs → wipe (σ.set i x) vs = wipe σ vs
  | v :: vs, σ, h => by
    unfold L2.wipe
    by_cases hi : i ∈ vs
    · rw [wipe_set hi]
    · have e : i = v := by
        rcases List.mem_cons.mp h with e | e
        · exact e
        · exact absurd e hi
      subst e
      rw [wipe_out hi, List.set_set]
theorem wipe_twice (σ : St) : ∀ us vs : List Nat, (∀ v ∈ vs, v ∈ us) → wipe (wipe σ vs) us = wipe σ us
  | us, [], _ => rfl
  | us, v :: vs, h => by
    have e : wipe σ (v :: vs) = (wipe σ vs).set v none := rfl
    rw [e, wipe_set (h v List.mem_cons_self)]
    exact wipe_twice σ us vs fun u hu => h u (List.mem_cons_of_mem _ hu)
theorem wipe_setV {ws : List (Nat × V)} {vs : List Nat} : ∀ {σ : St}, (∀ p ∈ ws, p.1 ∈ vs) → wipe (setV σ ws) vs = wipe σ vs := by
  induction ws with
  | nil => exact fun _ => rfl
  | cons p r ih =>
    intro σ h
    obtain ⟨i, v⟩ := p
    show wipe (setV (σ.set i (some v)) r) vs = _
    rw [ih fun q hq => h q (List.mem_cons_of_mem _ hq), wipe_set (h _ List.mem_cons_self)]
theorem BdRep.keys {ws : List (Nat × V)} {bd : Bd} (b : BdRep K Y F H ws bd) : ws.map (·.1) = bd.map (·.1) := by
  induction b with
  | nil => rfl
  | cons _ _ ih => simp [ih]
end

/-! ### iterators of an expression -/
structure IE (X : Cx) (Y : Cl) (W : Wh) (tg iter : Expr) (g : TG) {α : Type} (L : En → Res (List α)) (bnd : α → Bd) : Prop where
  ex : ∃ wi, PI X tg iter wi ∧ ∀ (σ : St) (H : Hp) (R : It → Hp → Prop), (∃ en, EnOk X.K Y H σ en ∧ WPr X.K Y W σ H (L en) fun l => ∀ (J : It) (H1 : Hp), Same H H1 → ItOk X.K Y J g l bnd H1 → R J H1) → wi σ H R
def b1 (i : Nat) (d : D) : Bd := [(i, d)]
def b2 (i j : Nat) (p : D × D) : Bd := [(i, p.1), (j, p.2)]
def g2 (K : PySem.W.Frag) (i j : Nat) : TG := gTup K 2 (gCons (gName i) (gCons (gName j) gNil))
def itD : D → Res (List D)
  | .lst ds => .ok ds
  | .scr ns => .ok (ns.map .int)
  | _ => .stuck
def itP : List D → Res (List (D × D))
  | [] => .ok []
  | .tup [x, y] :: r => itP r >>= fun l => .ok ((x, y) :: l)
  | _ :: _ => .stuck
def iL (f : En → Res D) : En → Res (List D) := fun en => f en >>= itD
def iP (f : En → Res D) : En → Res (List (D × D)) := fun en => f en >>= fun d => itD d >>= itP
def iR1 (f : En → Res D) : En → Res (List D) := fun en => f en >>= fun d => match d with
  | .int n => if rgOk n = true then .ok (intsUpTo 0 n.toNat) else .stuck
  | _ => .stuck
def iR2 (f g : En → Res D) : En → Res (List D) := fun en => f en >>= fun d => g en >>= fun e => match d, e with
  | .int lo, .int hi => if (rgOk lo && rgOk hi) = true then .ok (intsUpTo lo (hi - lo).toNat) else .stuck
  | _, _ => .stuck
def iZ (f g : En → Res D) : En → Res (List (D × D)) := fun en => f en >>= fun d => g en >>= fun e => itD d >>= fun xs => itD e >>= fun ys => .ok (xs.zip ys)
def enumP (k : Nat) : List D → List (D × D)
  | [] => []
  | d :: ds => (.int (k : Nat), d) :: enumP (k + 1) ds
def iEn (f : En → Res D) : En → Res (List (D × D)) := fun en => f en >>= fun d => itD d >>= fun xs => .ok (enumP 0 xs)
def iRv (f : En → Res D) : En → Res (List D) := fun en => f en >>= fun d => itD d >>= fun xs => .ok xs.reverse
theorem enumP_len : ∀ (k : Nat) (ds : List D), (enumP k ds).length = ds.length
  | _, [] => rfl
  | k, d :: ds => by simp [enumP, enumP_len (k + 1) ds]
theorem enumP_get : ∀ (ds : List D) (k i : Nat), (enumP k ds)[i]? = (ds[i]?).map fun d => (D.int ((k + i : Nat) : Int), d)
  | [], k, i => by simp [enumP]
  | d :: ds, k, 0 => by simp [enumP]
  | d :: ds, k, i + 1 => by
    simp only [enumP, List.getElem?_cons_succ]
    rw [enumP_get ds (k + 1) i]
    simp [Nat.add_comm, Nat.add_left_comm, Nat.add_assoc]
section
variable {K : PySem.W.Frag} {Y : Cl} {F H H' : Hp} {i j : Nat}
/-- a list's items lie behind its place -/
theorem itD_rep {K : PySem.W.Frag} {Y : Cl} {H : Hp} {v : V} {d : D} {l : List D} (r : Rep K Y H v d) (e : itD d = .ok l) : ∃ p vs, v = .ref p ∧ SqL K H p vs ∧ Reps K Y H vs l := by
  cases r with
  | lst h r => cases e; exact ⟨_, _, rfl, SqL.of h, r⟩
  | scr h => cases e; exact ⟨_, _, rfl, h, .of_ints _⟩
  | _ => cases e
theorem itok_l {p : Addr} {vs : List V} {l : List D} (hs : SqL K F p vs) (r : Reps K Y F vs l) : ItOk K Y (Itl K p) (gName i) l (b1 i) F where
  go k H' s hk := by
    have hd : l[k]? = some l[k] := List.getElem?_eq_getElem hk
    obtain ⟨v, hv, rv⟩ := r.get hd
    exact ⟨vs, v, s.seq hs, hv⟩
  stop H' s := ⟨vs, s.seq hs, by rw [r.length]; exact Nat.le_refl _⟩
  step k a H' x H'' σ hk s hy := by
    obtain ⟨v, hv, rv⟩ := r.get hk
    obtain ⟨rfl, hx⟩ := hy
    have := hx vs (s.seq hs)
    rw [hv] at this
    cases this
    exact ⟨Same.refl _, fun Q q => q [(i, _)] (.cons (.inl rv) .nil)⟩
theorem itP_get : ∀ {ds : List D} {l : List (D × D)}, itP ds = Res.ok l → l.length = ds.length ∧ ∀ (k : Nat) (p : D × D), l[k]? = some p → ds[k]? = some (D.tup [p.1, p.2])
  | [], l, e => by cases e; exact ⟨rfl, fun k p h => by simp at h⟩
  | d :: ds, l, e => by
    unfold itP at e
    split at e
    · rename_i h0
      cases h0
    · rename_i h0
      cases h0
      rename_i x y
      cases q : itP ds with
      | stuck => rw [q] at e; cases e
      | exc z => rw [q] at e; cases e
      | ok l' =>
        rw [q] at e
        cases e
        obtain ⟨a, b⟩ := itP_get q
        refine ⟨by simp [a], fun k p h => ?_⟩
        cases k with
        | zero => cases h; rfl
        | succ k => exact b k p h
    · cases e
theorem itok_p {p : Addr} {vs : List V} {ds : List D} {l : List (D × D)} (hs : SqL K F p vs) (r : Reps K Y F vs ds) (e : itP ds = .ok l) : ItOk K Y (Itl K p) (g2 K i j) l (b2 i j) F where
  go k H' s hk := by
    obtain ⟨el, _⟩ := itP_get e
    have hd : ds[k]? = some ds[k] := List.getElem?_eq_getElem (by omega)
    obtain ⟨v, hv, rv⟩ := r.get hd
    exact ⟨vs, v, s.seq hs, hv⟩
  stop H' s := ⟨vs, s.seq hs, by have := (itP_get e).1; have := r.length; omega⟩
  step k a H' x H'' σ hk s hy := by
    obtain ⟨v, hv, rv⟩ := r.get ((itP_get e).2 k a hk)
    obtain ⟨rfl, hx⟩ := hy
    have := hx vs (s.seq hs)
    rw [hv] at this
    cases this
    cases rv with
    | tup ht rs =>
      cases rs with
      | cons r1 rs =>
        cases rs with
        | cons r2 rs =>
          cases rs
          rename_i u1 u2
          exact ⟨Same.refl _, fun Q q => ⟨_, _, rfl, Same.sqT s ht, rfl, _, _, rfl, _, _, rfl, rfl, q [(i, u1), (j, u2)] (.cons (.inl r1) (.cons (.inl r2) .nil))⟩⟩
theorem itok_r {lo : Int} {n : Nat} : ItOk K Y (Itr lo n) (gName i) (intsUpTo lo n) (b1 i) F where
  go k H' s hk := by show k < n; simpa [intsUpTo] using hk
  stop H' s := by show n ≤ _; simp [intsUpTo]
  step k a H' x H'' σ hk s hy := by
    obtain ⟨rfl, rfl⟩ := hy
    have hkn : k < n := by
      have := (List.getElem?_eq_some_iff.mp hk).1
      simpa [intsUpTo] using this
    unfold intsUpTo at hk
    rw [List.getElem?_map, List.getElem?_range hkn] at hk
    cases hk
    exact ⟨Same.refl _, fun Q q => q [(i, .int (lo + (k : Nat)))] (.cons (.inl .int) .nil)⟩
theorem itok_z {p q : Addr} {vs us : List V} {xs ys : List D} (hs : SqL K F p vs) (r : Reps K Y F vs xs) (hs2 : SqL K F q us) (r2 : Reps K Y F us ys) : ItOk K Y (Itz K p q) (g2 K i j) (xs.zip ys) (b2 i j) F where
  go k H' s hk := by
    rw [List.length_zip] at hk
    obtain ⟨v, hv, _⟩ := r.get (List.getElem?_eq_getElem (i := k) (by omega))
    obtain ⟨u, hu, _⟩ := r2.get (List.getElem?_eq_getElem (i := k) (by omega))
    exact ⟨vs, us, v, u, s.seq hs, s.seq hs2, hv, hu⟩
  stop H' s := ⟨vs, us, s.seq hs, s.seq hs2, by rw [List.length_zip, r.length, r2.length]; omega⟩
  step k a H' x H'' σ hk s hy := by
    have hk' := List.getElem?_zip_eq_some.mp hk
    obtain ⟨v, hv, rv⟩ := r.get hk'.1
    obtain ⟨u, hu, ru⟩ := r2.get hk'.2
    obtain ⟨Tp, x1, y1, rfl, hT, rfl, h1, h2⟩ := hy
    have e1 := h1 vs (s.seq hs)
    have e2 := h2 us (s.seq hs2)
    rw [hv] at e1
    rw [hu] at e2
    cases e1
    cases e2
    exact ⟨same_new hT, fun Q q => ⟨_, _, rfl, SqT.of upd_same, rfl, _, _, rfl, _, _, rfl, rfl, q [(i, v), (j, u)] (.cons (.inl rv) (.cons (.inl ru) .nil))⟩⟩
theorem itok_e {p : Addr} {vs : List V} {xs : List D} (hs : SqL K F p vs) (r : Reps K Y F vs xs) : ItOk K Y (Ite K p) (g2 K i j) (enumP 0 xs) (b2 i j) F where
  go k H' s hk := by
    rw [enumP_len] at hk
    obtain ⟨v, hv, _⟩ := r.get (List.getElem?_eq_getElem hk)
    exact ⟨vs, v, s.seq hs, hv⟩
  stop H' s := ⟨vs, s.seq hs, by rw [enumP_len, r.length]; exact Nat.le_refl _⟩
  step k a H' x H'' σ hk s hy := by
    rw [enumP_get] at hk
    obtain ⟨d, hd, rfl⟩ := Option.map_eq_some_iff.mp hk
    obtain ⟨v, hv, rv⟩ := r.get hd
    obtain ⟨Tp, u, rfl, hT, rfl, hu⟩ := hy
    have eu := hu vs (s.seq hs)
    rw [hv] at eu
    cases eu
    refine ⟨same_new hT, fun Q q => ⟨_, _, rfl, SqT.of upd_same, rfl, _, _, rfl, _, _, rfl, rfl, q [(i, .int (k : Nat)), (j, v)] (.cons (.inl ?_) (.cons (.inl rv) .nil))⟩⟩
    rw [Nat.zero_add]
    exact .int
theorem itok_v {p : Addr} {vs : List V} {xs : List D} (hs : SqL K F p vs) (r : Reps K Y F vs xs) : ItOk K Y (Itv K p vs.length) (gName i) xs.reverse (b1 i) F where
  go k H' s hk := by
    rw [List.length_reverse] at hk
    have hl := r.length
    obtain ⟨v, hv, _⟩ := r.get (List.getElem?_eq_getElem (i := vs.length - 1 - k) (by omega))
    exact ⟨by omega, vs, v, s.seq hs, hv⟩
  stop H' s := by show vs.length ≤ _; rw [List.length_reverse, r.length]; exact Nat.le_refl _
  step k a H' x H'' σ hk s hy := by
    obtain ⟨rfl, hx⟩ := hy
    have hl := r.length
    have hkl := (List.getElem?_eq_some_iff.mp hk).1
    rw [List.length_reverse] at hkl
    rw [List.getElem?_reverse hkl] at hk
    obtain ⟨v, hv, rv⟩ := r.get hk
    have := hx vs (s.seq hs)
    rw [hl, hv] at this
    cases this
    exact ⟨Same.refl _, fun Q q => q [(i, _)] (.cons (.inl rv) .nil)⟩
end
section
variable {X : Cx} {Y : Cl} {W : Wh} {tg e e2 : Expr} {f f2 : En → Res D} {i j : Nat} {p pos tpos : Pos} {elts : List Expr} {kk : Nat}
theorem ie_l (he : J X Y W .r e f) : IE X Y W tg e (gName i) (iL f) (b1 i) := ⟨_, pi_list he, fun σ H R ⟨en, hE, h⟩ => ⟨en, hE, (WPr.bind h).imp (Same.refl H) fun d q v H1 sh r => by
  cases z : itD d with
  | stuck => rw [z] at q; exact q.elim
  | exc x => cases d <;> cases z
  | ok l =>
    rw [z] at q
    obtain ⟨a, vs, rfl, hs, rs⟩ := itD_rep r z
    exact ⟨a, rfl, ⟨vs, hs⟩, q _ H1 sh (itok_l hs rs)⟩⟩⟩
theorem ie_p (he : J X Y W .r e f) : IE X Y W tg e (g2 X.K i j) (iP f) (b2 i j) := ⟨_, pi_list he, fun σ H R ⟨en, hE, h⟩ => ⟨en, hE, (WPr.bind h).imp (Same.refl H) fun d q v H1 sh r => by
  cases z : itD d with
  | stuck => rw [z] at q; exact q.elim
  | exc x => cases d <;> cases z
  | ok l =>
    rw [z] at q
    obtain ⟨a, vs, rfl, hs, rs⟩ := itD_rep r z
    have q' : WPr X.K Y W σ H (itP l) fun l => ∀ (J : It) (H1 : Hp), Same H H1 → ItOk X.K Y J (g2 X.K i j) l (b2 i j) H1 → R J H1 := q
    cases z2 : itP l with
    | stuck => rw [z2] at q'; exact q'.elim
    | exc x =>
      exfalso
      have : ∀ ds x, itP ds ≠ .exc x := by
        intro ds
        induction ds with
        | nil => exact fun x h => nomatch h
        | cons a r ih =>
          intro x h
          unfold itP at h
          split at h
          · cases h
          · rename_i h0; cases h0
            rename_i x1 y1
            cases q3 : itP r with
            | stuck => rw [q3] at h; cases h
            | exc y => exact ih y q3
            | ok y => rw [q3] at h; cases h
          · cases h
      exact this l x z2
    | ok l2 =>
      rw [z2] at q'
      exact ⟨a, rfl, ⟨vs, hs⟩, q' _ H1 sh (itok_p hs rs z2)⟩⟩⟩
theorem ie_r1 (hm : X.mg "range" = none) (he : J X Y W .r e f) (hg : Gl X "range" := by rfl) (hs : starEach [e] X.env = [(false, eval e X.env)] := by rfl) (hs1 : starEach (e :: []) X.env = (false, eval e X.env) :: starEach [] X.env := by rfl) :
    IE X Y W tg (.Call (.Name "range" p) [e] [] pos) (gName i) (iR1 f) (b1 i) := ⟨_, pi_range1 hg hm (pa_cons he pa_nil hs1) hs, fun σ H R ⟨en, hE, h⟩ => ⟨en, hE, (WPr.bind h).imp (Same.refl H) fun d q v H1 sh r => by
  cases r with
  | @int n =>
    have q' : WPr X.K Y W σ H (if rgOk n = true then Res.ok (intsUpTo 0 n.toNat) else .stuck) fun l => ∀ (J : It) (H1 : Hp), Same H H1 → ItOk X.K Y J (gName i) l (b1 i) H1 → R J H1 := q
    by_cases hr : rgOk n = true
    · rw [if_pos hr] at q'
      obtain ⟨z1, z2⟩ := rgOk_iff hr
      exact ⟨n, rfl, z1, z2, q' _ H1 sh itok_r⟩
    · rw [if_neg hr] at q'
      exact q'.elim
  | _ => exact q.elim⟩⟩
theorem ie_r2 (hm : X.mg "range" = none) (he : J X Y W .r e f) (he2 : J X Y W .r e2 f2) (hg : Gl X "range" := by rfl) (hs : starEach [e, e2] X.env = [(false, eval e X.env), (false, eval e2 X.env)] := by rfl) (hs2 : starEach [e2] X.env = [(false, eval e2 X.env)] := by rfl)
    (hs1 : starEach (e :: [e2]) X.env = (false, eval e X.env) :: starEach [e2] X.env := by rfl) (hs3 : starEach (e2 :: []) X.env = (false, eval e2 X.env) :: starEach [] X.env := by rfl) :
    IE X Y W tg (.Call (.Name "range" p) [e, e2] [] pos) (gName i) (iR2 f f2) (b1 i) := ⟨_, pi_range2 hg hm (pa_cons he (pa_cons he2 pa_nil hs3) hs1) hs hs2, fun σ H R ⟨en, hE, h⟩ => ⟨en, hE, (WPr.bind h).imp (Same.refl H) fun d q v H1 sh r => by
  refine ⟨en, hE.mono sh, (WPr.bind q).imp sh fun d2 q2 v2 H2 sh2 r2 => ?_⟩
  cases r with
  | @int lo =>
    cases r2 with
    | @int hi =>
      have q' : WPr X.K Y W σ H (if (rgOk lo && rgOk hi) = true then Res.ok (intsUpTo lo (hi - lo).toNat) else .stuck) fun l => ∀ (J : It) (H1 : Hp), Same H H1 → ItOk X.K Y J (gName i) l (b1 i) H1 → R J H1 := q2
      by_cases hr : (rgOk lo && rgOk hi) = true
      · rw [if_pos hr] at q'
        have hr' := Bool.and_eq_true_iff.mp hr
        obtain ⟨z1, z2⟩ := rgOk_iff hr'.1
        obtain ⟨z3, z4⟩ := rgOk_iff hr'.2
        exact ⟨lo, hi, rfl, ⟨z1, z2, z3, z4⟩, q' _ H2 (sh.trans sh2) itok_r⟩
      · rw [if_neg hr] at q'
        exact q'.elim
    | _ => exact q2.elim
  | _ => cases d2 <;> exact q2.elim⟩⟩
theorem ie_z (hm : X.mg "zip" = none) (he : J X Y W .r e f) (he2 : J X Y W .r e2 f2) (hg : Gl X "zip" := by rfl) (hs : starEach [e, e2] X.env = (false, eval e X.env) :: starEach [e2] X.env := by rfl) (hpl : (backTo pos (starEach [e2] X.env)).any (·.1) = false := by rfl)
    (hs3 : starEach (e2 :: []) X.env = (false, eval e2 X.env) :: starEach [] X.env := by rfl) :
    IE X Y W (.Tuple elts kk tpos) (.Call (.Name "zip" p) [e, e2] [] pos) (g2 X.K i j) (iZ f f2) (b2 i j) := ⟨_, pi_zip hg hm (pa_cons he (pa_cons he2 pa_nil hs3) hs) hs hpl, fun σ H R ⟨en, hE, h⟩ => ⟨en, hE, (WPr.bind h).imp (Same.refl H) fun d q v H1 sh r => by
  refine ⟨en, hE.mono sh, (WPr.bind q).imp sh fun d2 q2 v2 H2 sh2 r2 => ?_⟩
  cases z : itD d with
  | stuck => rw [z] at q2; exact q2.elim
  | exc x => cases d <;> cases z
  | ok l =>
    rw [z] at q2
    have q2 : WPr X.K Y W σ H (itD d2 >>= fun ys => .ok (l.zip ys)) fun l => ∀ (J : It) (H1 : Hp), Same H H1 → ItOk X.K Y J (g2 X.K i j) l (b2 i j) H1 → R J H1 := q2
    cases z2 : itD d2 with
    | stuck => rw [z2] at q2; exact q2.elim
    | exc x => cases d2 <;> cases z2
    | ok l2 =>
      rw [z2] at q2
      obtain ⟨a, vs, rfl, hs, rs⟩ := itD_rep (r.mono sh2) z
      obtain ⟨b, us, rfl, hs2, rs2⟩ := itD_rep r2 z2
      exact ⟨a, b, vs, us, rfl, hs, hs2, q2 _ H2 (sh.trans sh2) (itok_z hs rs hs2 rs2)⟩⟩⟩
theorem ie_e (hm : X.mg "enumerate" = none) (he : J X Y W .r e f) (hg : Gl X "enumerate" := by rfl) (hs : starEach [e] X.env = [(false, eval e X.env)] := by rfl) (hs1 : starEach (e :: []) X.env = (false, eval e X.env) :: starEach [] X.env := by rfl) :
    IE X Y W (.Tuple elts kk tpos) (.Call (.Name "enumerate" p) [e] [] pos) (g2 X.K i j) (iEn f) (b2 i j) := ⟨_, pi_enum hg hm (pa_cons he pa_nil hs1) hs, fun σ H R ⟨en, hE, h⟩ => ⟨en, hE, (WPr.bind h).imp (Same.refl H) fun d q v H1 sh r => by
  cases z : itD d with
  | stuck => rw [z] at q; exact q.elim
  | exc x => cases d <;> cases z
  | ok l =>
    rw [z] at q
    obtain ⟨a, vs, rfl, hs, rs⟩ := itD_rep r z
    exact ⟨a, vs, rfl, hs, q _ H1 sh (itok_e hs rs)⟩⟩⟩
theorem ie_v (hm : X.mg "reversed" = none) (he : J X Y W .r e f) (hg : Gl X "reversed" := by rfl) (hs : starEach [e] X.env = [(false, eval e X.env)] := by rfl) (hs1 : starEach (e :: []) X.env = (false, eval e X.env) :: starEach [] X.env := by rfl) :
    IE X Y W tg (.Call (.Name "reversed" p) [e] [] pos) (gName i) (iRv f) (b1 i) := ⟨_, pi_reversed hg hm (pa_cons he pa_nil hs1) hs, fun σ H R ⟨en, hE, h⟩ => ⟨en, hE, (WPr.bind h).imp (Same.refl H) fun d q v H1 sh r => by
  cases z : itD d with
  | stuck => rw [z] at q; exact q.elim
  | exc x => cases d <;> cases z
  | ok l =>
    rw [z] at q
    obtain ⟨a, vs, rfl, hs, rs⟩ := itD_rep r z
    exact ⟨a, vs, rfl, hs, q _ H1 sh (itok_v hs rs)⟩⟩⟩
end
end Ow
end
section
set_option linter.all false
set_option maxRecDepth 100000
set_option maxHeartbeats 2000000
/-! Ow12: list comprehensions; for loops over anything that iterates. -/
namespace Ow
open PySem L2 PySem.Spec

def lcR {α : Type} (bnd : α → Bd) (c : En → Res Bool) (f : En → Res D) (en : En) : List α → Res (List D)
  | [] => .ok []
  | a :: l => c (setE en (bnd a)) >>= fun b => if b = true then f (setE en (bnd a)) >>= fun d => lcR bnd c f en l >>= fun ds => .ok (d :: ds) else lcR bnd c f en l
/-- [f for a in L if c] -/
def xLc {α : Type} (L : En → Res (List α)) (bnd : α → Bd) (vs : List Nat) (c : En → Res Bool) (f : En → Res D) : En → Res D := fun en => L en >>= fun l => if szOk l.length = true then noX (lcR bnd c f (wipeE en vs) l) >>= fun ds => .ok (.lst ds) else .stuck
def tYs : En → Res Bool := fun _ => .ok true
def CTs (X : Cx) (Y : Cl) (ifs : List Expr) (c : En → Res Bool) : Prop := PTs X ifs (tT X.K Y none c)
section
variable {X : Cx} {Y : Cl} {c : Expr} {gc : En → Res Bool}
theorem PTs.imp {ifs : List Expr} {t t' : TT} (h : PTs X ifs t) (f : ∀ σ H Q, t' σ H Q → t σ H Q) : PTs X ifs t' := ⟨fun pins s σ H Q I q => h.run pins s σ H Q I (f σ H Q q)⟩
theorem ct_nil : CTs X Y [] tYs := PTs.imp pts_nil fun σ H Q ⟨en, he, h⟩ => h H (Same.refl H)
theorem ct_one (h : T X Y none c gc) : CTs X Y [c] gc := pts_one h
end
theorem fix_upd {H : Hp} {D : Addr} {o o' : HO} (h : H D = some o') (hx : fixO o' = false) : Fix H (upd H D o) := fun p u e f => by
  have : p ≠ D := fun z => by
    subst z
    rw [h] at e
    cases e
    rw [hx] at f
    cases f
  rw [upd_ne this]
  exact e
theorem lc_cons_inv {α : Type} {bnd : α → Bd} {c : En → Res Bool} {f : En → Res D} {en : En} {a : α} {l : List α} {ds : List D} (h : lcR bnd c f en (a :: l) = .ok ds) :
    (c (setE en (bnd a)) = .ok false ∧ lcR bnd c f en l = .ok ds) ∨ (c (setE en (bnd a)) = .ok true ∧ ∃ d ds', f (setE en (bnd a)) = .ok d ∧ lcR bnd c f en l = .ok ds' ∧ ds = d :: ds') := by
  unfold lcR at h
  cases q : c (setE en (bnd a)) with
  | stuck => rw [q] at h; cases h
  | exc e => rw [q] at h; cases h
  | ok b =>
    rw [q, ok_bind] at h
    cases b with
    | false =>
      rw [if_neg Bool.false_ne_true] at h
      exact .inl ⟨rfl, h⟩
    | true =>
      rw [if_pos rfl] at h
      cases q2 : f (setE en (bnd a)) with
      | stuck => rw [q2] at h; cases h
      | exc e => rw [q2] at h; cases h
      | ok d =>
        rw [q2, ok_bind] at h
        cases q3 : lcR bnd c f en l with
        | stuck => rw [q3] at h; cases h
        | exc e => rw [q3] at h; cases h
        | ok ds' =>
          rw [q3, ok_bind] at h
          cases h
          exact .inr ⟨rfl, d, ds', rfl, rfl, rfl⟩
section
variable {X : Cx} {Y : Cl} {W : Wh} {α : Type} {elt tg iter : Expr} {ifs : List Expr} {scope : Scope} {pos : Pos} {g : TG} {L : En → Res (List α)} {bnd : α → Bd} {gc : En → Res Bool} {f : En → Res D}
theorem tlc_of {wi : TI} {vs : List Nat} {σ : St} {H : Hp} {Q : VK} (hw : ∀ (σ : St) (H : Hp) (R : It → Hp → Prop), (∃ en, EnOk X.K Y H σ en ∧ WPr X.K Y W σ H (L en) fun l => ∀ (J : It) (H1 : Hp), Same H H1 → ItOk X.K Y J g l bnd H1 → R J H1) → wi σ H R)
    (hb : ∀ a, ∀ p ∈ bnd a, p.1 ∈ vs) (h : tJ X.K Y W .n (xLc L bnd vs gc f) σ H Q) : tLc wi g (tT X.K Y none gc) (tJ X.K Y none .n f) vs σ H Q := by
  obtain ⟨en, hE, h⟩ := h
  refine hw σ H _ ⟨en, hE, (WPr.bind h).imp (Same.refl H) fun l q J H1 sh ok D hD => ?_⟩
  by_cases hz : szOk l.length = true
  · rw [if_pos hz] at q
    cases q0 : lcR bnd gc f (wipeE en vs) l with
    | stuck => rw [q0] at q; exact q.elim
    | exc x => rw [q0] at q; exact q.elim
    | ok ds =>
      rw [q0] at q
      have q : Po X.K Y .n (.lst ds) H Q := q
      have hE1 := (hE.mono sh).wipe vs
      refine ⟨fun i m H' => m = l.length - i ∧ i ≤ l.length ∧ Same H1 H' ∧ ∃ acc done fp rest, H' D = some (.lst acc) ∧ Owns X.K Y H' acc done fp ∧ fp.Nodup ∧ D ∉ fp ∧ (∀ p ∈ fp, H1 p = none) ∧ acc.length ≤ i ∧ lcR bnd gc f (wipeE en vs) (l.drop i) = .ok rest ∧ done ++ rest = ds,
        ⟨_, rfl, Nat.zero_le _, same_new hD, [], [], [], ds, upd_same, .nil, .nil, List.not_mem_nil, (fun _ z => absurd z List.not_mem_nil), Nat.le_refl _, q0, rfl⟩, ?_⟩
      rintro i m H' ⟨rfl, hi, s1, acc, done, fp, rest, hacc, ow, nd, hDf, fr, al, hr, ed⟩
      by_cases hlt : i < l.length
      · have hd : l[i]? = some l[i] := List.getElem?_eq_getElem hlt
        have edr : l.drop i = l[i] :: l.drop (i + 1) := List.drop_eq_getElem_cons hlt
        rw [edr] at hr
        refine .inr ⟨ok.go i H' s1 hlt, _, fun H'' z => ⟨l.length - (i + 1), by omega, z⟩, fun x H'' hy => ?_⟩
        obtain ⟨s2, hg⟩ := ok.step i l[i] H' x H'' (wipe σ vs) hd s1 hy
        refine hg _ fun ws bd => ?_
        have hk : ∀ p ∈ ws, p.1 ∈ vs := fun p hp => by
          have hm : p.1 ∈ ws.map (·.1) := List.mem_map_of_mem hp
          rw [bd.keys] at hm
          obtain ⟨r, hr1, hr2⟩ := List.mem_map.mp hm
          rw [← hr2]
          exact hb _ r hr1
        have s12 := s1.trans s2
        have hE2 : EnOk X.K Y H'' (setV (wipe σ vs) ws) (setE (wipeE en vs) (bnd l[i])) := (hE1.mono s12).setE bd s12
        refine ⟨by rw [wipe_setV hk]; exact wipe_twice σ vs vs (fun _ h => h), _, hE2, ?_⟩
        rcases lc_cons_inv hr with ⟨hc, hr'⟩ | ⟨hc, d, ds', hf, hr', rfl⟩
        · rw [hc]
          intro H3 s3
          rw [if_neg Bool.false_ne_true]
          have s13 := s12.trans s3
          have s03 := s2.trans s3
          refine ⟨rfl, hlt, s13, acc, done, fp, rest, s03 _ _ hacc, ow.mono s03, nd, hDf, fr, by omega, hr', ed⟩
        · rw [hc]
          intro H3 s3
          rw [if_pos rfl]
          refine ⟨_, hE2.mono s3, ?_⟩
          rw [hf]
          intro y H4 fp' s4 o nd' fr'
          have s34 := (s2.trans s3).trans s4
          have s14 := s1.trans s34
          have hD4 : H4 D = some (.lst acc) := s34 _ _ hacc
          have hDf' : D ∉ fp' := fun z => by
            have := fr' D z
            rw [(s2.trans s3) _ _ hacc] at this
            cases this
          refine ⟨acc, hD4, szOk_lt (by unfold szOk at hz ⊢; simp at hz ⊢; omega), rfl, hlt, ?_, acc ++ [y], done ++ [d], fp ++ fp', ds', upd_same, ?_, ?_, ?_, ?_, by simp; omega, hr', by simpa using ed⟩
          · intro p u e
            have : p ≠ D := fun z => by
              subst z
              rw [hD] at e
              cases e
            rw [upd_ne this]
            exact s14 p u e
          · have fx : Fix H4 (upd H4 D (.lst (acc ++ [y]))) := fix_upd hD4 rfl
            refine Owns.append ((ow.mono s34).frame fx fun p hp => ?_) (Owns.one (o.frame fx fun p hp => ?_))
            · exact upd_ne fun z => hDf (z ▸ hp)
            · exact upd_ne fun z => hDf' (z ▸ hp)
          · refine List.nodup_append.mpr ⟨nd, nd', fun a ha b hb e => ?_⟩
            subst e
            obtain ⟨u, hu, _⟩ := ow.there a ha
            have := fr' a hb
            rw [(s2.trans s3) _ _ hu] at this
            cases this
          · exact fun z => (List.mem_append.mp z).elim hDf hDf'
          · intro p hp
            rcases List.mem_append.mp hp with hp | hp
            · exact fr p hp
            · exact (s12.trans s3).free (fr' p hp)
      · have : i = l.length := by omega
        subst this
        rw [List.drop_length] at hr
        cases hr
        rw [List.append_nil] at ed
        subst ed
        refine .inl ⟨ok.stop H' s1, q (.ref D) H' (D :: fp) (sh.trans s1) (.lst hacc ow) (List.nodup_cons.mpr ⟨hDf, nd⟩) fun p hp => ?_⟩
        rcases List.mem_cons.mp hp with rfl | hp
        · exact sh.free hD
        · exact sh.free (fr p hp)
  · rw [if_neg hz] at q
    exact q.elim
/-- a list comprehension -/
theorem jn_lc (own : List (Str × Nat)) (hc : X.calm = true) (hN : X.N.Nodup) (hi : IE X Y W tg iter g L bnd)
    (hg : ∀ (s : Shared) (H : Hp) (C : Addr) (cl : List (Str × Addr)) (fp : List Addr), PG (X.blk s H scope (compEnvC scope cl C X.env) fp) tg g)
    (ht : ∀ (s : Shared) (H : Hp) (C : Addr) (cl : List (Str × Addr)) (fp : List Addr), CTs (X.blk s H scope (compEnvC scope cl C X.env) fp) Y ifs gc)
    (he : ∀ (s : Shared) (H : Hp) (C : Addr) (cl : List (Str × Addr)) (fp : List Addr), J (X.blk s H scope (compEnvC scope cl C X.env) fp) Y none .n elt f)
    (hb : ∀ a, ∀ p ∈ bnd a, p.1 ∈ own.map (·.2)) (ok : blkC X.N X.env.scope scope own = true := by with_unfolding_all rfl) (hs : ∀ x, foldedSetIterable iter X.env x = pure x := by intro _; rfl) :
    J X Y W .n (.ListComp elt [⟨tg, iter, ifs, 0⟩] scope pos) (xLc L bnd (own.map (·.2)) gc f) := by
  obtain ⟨wi, hpi, hw⟩ := hi.ex
  exact PE.imp (pe_lc (tt := tT X.K Y none gc) (te := tJ X.K Y none .n f) hc hN hpi (blkOk_by ok) hg ht he hs) fun σ H Q h => tlc_of hw hb h
/-- name = a list comprehension -/
theorem s_setLc (own : List (Str × Nat)) (i : Nat) {M : Md} {y : Str} {py spos : Pos} (hc : X.calm = true) (hN : X.N.Nodup) (hi : IE X Y W tg iter g L bnd)
    (hg : ∀ (s : Shared) (H : Hp) (C : Addr) (cl : List (Str × Addr)) (fp : List Addr), PG (X.blk s H scope (compEnvC scope cl C X.env) fp) tg g)
    (ht : ∀ (s : Shared) (H : Hp) (C : Addr) (cl : List (Str × Addr)) (fp : List Addr), CTs (X.blk s H scope (compEnvC scope cl C X.env) fp) Y ifs gc)
    (he : ∀ (s : Shared) (H : Hp) (C : Addr) (cl : List (Str × Addr)) (fp : List Addr), J (X.blk s H scope (compEnvC scope cl C X.env) fp) Y none .n elt f)
    (hb : ∀ a, ∀ p ∈ bnd a, p.1 ∈ own.map (·.2)) (ok : blkC X.N X.env.scope scope own = true := by with_unfolding_all rfl) (hs : ∀ x, foldedSetIterable iter X.env x = pure x := by intro _; rfl)
    (hy : X.N[i]? = some y := by rfl) (hyl : X.env.scope.names.lookup y = some .local := by rfl) (hM : M i = true := by rfl)
    (hsw : swapsWith (.ListComp elt [⟨tg, iter, ifs, 0⟩] scope pos) (some (.Name y py)) spos.line X.env = pure true := by rfl) :
    JS X Y W M (.Assign [.Name y py] (.ListComp elt [⟨tg, iter, ifs, 0⟩] scope pos) spos) (sSet i (xLc L bnd (own.map (·.2)) gc f)) := by
  obtain ⟨wi, hpi, hw⟩ := hi.ex
  refine PS.imp (ps_setLc (tt := tT X.K Y none gc) (te := tJ X.K Y none .n f) hc hN hy hyl hsw hpi (blkOk_by ok) hg ht he hs) fun D σ H ⟨F, S, s, h⟩ => ?_
  exact tlc_of hw hb ⟨en S, s.en, (WPs.bind h s.same).imp (Same.refl H) fun d p => s.put (H' := H) hM p⟩
theorem hb_1 {i : Nat} {vs : List Nat} (h : i ∈ vs) : ∀ a, ∀ p ∈ b1 i a, p.1 ∈ vs := fun a p hp => by
  cases List.mem_singleton.mp hp
  exact h
theorem hb_2 {i j : Nat} {vs : List Nat} (h : i ∈ vs) (h2 : j ∈ vs) : ∀ a, ∀ p ∈ b2 i j a, p.1 ∈ vs := fun a p hp => by
  rcases List.mem_cons.mp hp with rfl | hp
  · exact h
  · cases List.mem_singleton.mp hp
    exact h2
end
end Ow
end
section
set_option linter.all false
set_option maxRecDepth 100000
set_option maxHeartbeats 2000000
/-! Ow13: slots frozen; for loops over any source. -/
namespace Ow
open PySem L2 PySem.Spec
def Slot.frz (S : List Slot) (v : Nat) : Slot → Slot
  | .ali s j => if s = v then (match Slot.dat S (.ali s j) with
    | some d => .fz d
    | none => .un) else .ali s j
  | x => x
def frz (v : Nat) (S : List Slot) : List Slot := match S[v]? with
  | some (.own d) => (S.map (Slot.frz S v)).set v (.fz d)
  | _ => S
def frzV (v : Nat) (S : List Slot) : List Slot := match S[v]? with
  | some (.own _) => frz v S
  | some (.ali s _) => frz s S
  | _ => S
def Slot.frzA (S : List Slot) : Slot → Slot
  | .own d => .fz d
  | .ali s j => (match Slot.dat S (.ali s j) with
    | some d => .fz d
    | none => .un)
  | x => x
def frzAll (S : List Slot) : List Slot := S.map (Slot.frzA S)
section
variable {K : PySem.W.Frag} {Y : Cl} {F H H' : Hp} {S : List Slot} {σ : St}
theorem Sat.frzAll (h : Sat K Y F S σ H) : Sat K Y H (frzAll S) σ H := by
  obtain ⟨G, w, fp, s⟩ := h
  refine ⟨H, fun _ => 0, fun _ => [], Same.refl H, Same.refl H, fun _ _ e _ => e, by simp [Ow.frzAll, s.len], fun k y hy => ?_⟩
  unfold Ow.frzAll at hy
  rw [List.getElem?_map] at hy
  cases q : S[k]? with
  | none => rw [q] at hy; cases hy
  | some x =>
    rw [q] at hy
    cases hy
    cases x with
    | un => trivial
    | own d => exact s.dat q (d := d) rfl
    | fz d => exact s.dat q (d := d) rfl
    | ali t j =>
      show SlotOk K Y H _ _ _ σ H k (match Slot.dat S (.ali t j) with
        | some d => .fz d
        | none => .un)
      cases q2 : Slot.dat S (.ali t j) with
      | none => trivial
      | some d => exact s.dat q q2
theorem Sat.frz (h : Sat K Y F S σ H) (v : Nat) : ∃ F', Same F F' ∧ Same F' H ∧ Sat K Y F' (frz v S) σ H := by
  unfold Ow.frz
  cases q : S[v]? with
  | none => exact ⟨F, Same.refl F, h.same, h⟩
  | some x =>
    cases x with
    | un => exact ⟨F, Same.refl F, h.same, h⟩
    | fz d => exact ⟨F, Same.refl F, h.same, h⟩
    | ali t j => exact ⟨F, Same.refl F, h.same, h⟩
    | own d =>
      obtain ⟨G, w, fp, s⟩ := h
      obtain ⟨u, hu, o, nd, z⟩ := s.ok v _ q
      let G' : Hp := fun p => if p ∈ fp v then H p else G p
      have g1 : Same G G' := fun p e hg => by
        show (if p ∈ fp v then H p else G p) = some e
        by_cases hp : p ∈ fp v
        · rw [(z p hp).2] at hg; cases hg
        · rw [if_neg hp]; exact hg
      have g2 : Same G' H := fun p e hg => by
        have hg' : (if p ∈ fp v then H p else G p) = some e := hg
        by_cases hp : p ∈ fp v
        · rw [if_pos hp] at hg'; exact hg'
        · rw [if_neg hp] at hg'; exact s.gh p e hg'
      have fx : Fix H G' := fun p e he hf => g1 p e (s.fx p e he hf)
      have oG : Own K Y G' u d (fp v) := o.frame fx fun p hp => if_pos hp
      refine ⟨G', s.fg.trans g1, g2, G', w, fp, Same.refl G', g2, fx, by simp [s.len], fun k y hy => ?_⟩
      by_cases hk : k = v
      · subst hk
        have hl : k < S.length := (List.getElem?_eq_some_iff.mp q).1
        rw [List.getElem?_set_self (by simpa using hl)] at hy
        cases hy
        exact ⟨u, hu, oG.rep⟩
      · have hy : ((S.map (Slot.frz S v)).set v (.fz d))[k]? = some y := hy
        rw [List.getElem?_set_ne (Ne.symm hk), List.getElem?_map] at hy
        cases q2 : S[k]? with
        | none => rw [q2] at hy; cases hy
        | some x =>
          rw [q2] at hy
          cases hy
          have ok := s.ok k x q2
          have other : ∀ t y, t ≠ v → S[t]? = some (.own y) → ((S.map (Slot.frz S v)).set v (.fz d))[t]? = some (.own y) := fun t y ht e => by
            rw [List.getElem?_set_ne (Ne.symm ht), List.getElem?_map, e]
            rfl
          cases x with
          | un => trivial
          | fz e =>
            obtain ⟨u', a, b⟩ := ok
            exact ⟨u', a, b.mono g1⟩
          | own e =>
            obtain ⟨u', a, b, c, zz⟩ := ok
            refine ⟨u', a, b, c, fun p hp => ⟨(zz p hp).1, ?_⟩⟩
            show (if p ∈ fp v then H p else G p) = none
            rw [if_neg fun hm => hk (by rw [← (zz p hp).1, (z p hm).1])]
            exact (zz p hp).2
          | ali t j =>
            show SlotOk K Y G' w fp _ σ H k (if t = v then (match Slot.dat S (.ali t j) with
              | some d => .fz d
              | none => .un) else .ali t j)
            obtain ⟨ds, p, vs, u', h1, h2, h3, h4, h5, h6⟩ := ok
            by_cases ht : t = v
            · subst ht
              rw [if_pos rfl]
              have ed : Slot.dat S (.ali t j) = ds[j]? := by simp [Slot.dat, h1]
              rw [ed]
              rw [q] at h1
              cases h1
              rw [hu] at h3
              cases h3
              have hj : ds[j]? = some ds[j] := List.getElem?_eq_getElem h2
              rw [hj]
              obtain ⟨p', vs', g, e1, e2, e3, e4⟩ := oG.lst_inv (p := p)
              cases e1
              have e2' := g2 _ _ e2
              rw [h4] at e2'
              cases e2'
              obtain ⟨u2, hu2, ru2⟩ := e3.reps.get hj
              rw [h5] at hu2
              cases hu2
              exact ⟨u', h6, ru2⟩
            · rw [if_neg ht]
              exact ⟨ds, p, vs, u', other t _ ht h1, h2, h3, h4, h5, h6⟩
theorem Sat.frzV (h : Sat K Y F S σ H) (v : Nat) : ∃ F', Same F F' ∧ Same F' H ∧ Sat K Y F' (frzV v S) σ H ∧ ∀ (i : Nat) (d : D), (Ow.frzV v S)[i]? = some (Slot.fz d) → ∃ u, σ[i]? = some (some u) ∧ Rep K Y F' u d := by
  have h1 : ∃ F', Same F F' ∧ Same F' H ∧ Sat K Y F' (Ow.frzV v S) σ H := by
    unfold Ow.frzV
    split
    · exact h.frz v
    · exact h.frz _
    · exact ⟨F, Same.refl F, h.same, h⟩
  obtain ⟨F1, a, b, s⟩ := h1
  obtain ⟨G, f1, f2, s', hz⟩ := s.deep
  exact ⟨G, a.trans f1, f2, s', hz⟩
end
def setBs (S : List Slot) : Bd → List Slot
  | [] => S
  | (i, d) :: r => setBs (setS S i (.fz d)) r
def bindB {α : Type} (bnd : α → Bd) (a : α) (S : List Slot) : Res (List Slot) := .ok (setBs S (bnd a))
section
variable {K : PySem.W.Frag} {Y : Cl} {F H H' : Hp} {S : List Slot} {σ : St}
theorem Sat.setBd {ws : List (Nat × V)} {bd : Bd} (b : BdRep K Y F H ws bd) : ∀ {S : List Slot} {σ : St}, Sat K Y F S σ H → Sat K Y F (setBs S bd) (setV σ ws) H := by
  induction b with
  | nil => exact fun s => s
  | cons hr _ ih =>
    intro S σ s
    refine ih ?_
    rcases hr with hr | ⟨hp, hr⟩
    · exact s.setFz hr
    · exact s.setPure (Same.refl H) hr hp
theorem Stay.setV {M : Md} {ws : List (Nat × V)} : ∀ {σ : St}, (∀ p ∈ ws, M p.1 = true) → Stay M σ (setV σ ws) := by
  induction ws with
  | nil => exact fun _ => Stay.refl M _
  | cons p r ih =>
    intro σ h
    exact (Stay.set (h p List.mem_cons_self)).trans (ih fun q hq => h q (List.mem_cons_of_mem _ hq))
end
/-! ### sources of a loop -/
structure IS (X : Cx) (Y : Cl) (W : Wh) (tg iter : Expr) (g : TG) {α : Type} (src : List Slot → Res (List α × List Slot)) (bnd : α → Bd) : Prop where
  ex : ∃ wi, PI X tg iter wi ∧ ∀ (σ : St) (H : Hp) (R : It → Hp → Prop), (∃ F S, Sat X.K Y F S σ H ∧ WPr X.K Y W σ H (src S) fun r => ∀ (J : It) (H1 F1 : Hp), Same F F1 → Sat X.K Y F1 r.2 σ H1 → ItOk X.K Y J g r.1 bnd F1 → R J H1) → wi σ H R
def sForG {α : Type} (src : List Slot → Res (List α × List Slot)) (bnd : α → Bd) (b : List Slot → Res Fl) : List Slot → Res Fl := fun S => src S >>= fun r => forS (bindB bnd) b r.1 r.2
theorem WPs.bindG {K : PySem.W.Frag} {Y : Cl} {W : Wh} {M : Md} {F H : Hp} {Dn : Ends} {σ0 σ : St} {α : Type} {r : Res α} {g : α → Res Fl} (h : WPs K Y W M F Dn σ0 (r >>= g)) (sf : Same F H) : WPr K Y W σ H r fun d => WPs K Y W M F Dn σ0 (g d) := by
  cases r with
  | ok d => exact h
  | exc e =>
    obtain ⟨w, a, b⟩ := h
    exact ⟨w, a, fun cls d H' s' x => b cls d σ H' (sf.trans s') x⟩
  | stuck => exact h
theorem forG_run {K : PySem.W.Frag} {Y : Cl} {F H : Hp} {S : List Slot} {σ : St} {α : Type} {W : Wh} {M : Md} {D' : Ends} {J : It} {g : TG} {b : List Slot → Res Fl} {bnd : α → Bd} {L : List α} (hM : ∀ a, ∀ p ∈ bnd a, M p.1 = true)
    (ok : ItOk K Y J g L bnd F) (s : Sat K Y F S σ H) (h : WPs K Y W M F D' σ (forS (bindB bnd) b L S)) :
    ∃ W' : Nat → Nat → St → Hp → Prop, (∃ m, W' 0 m σ H) ∧ ∀ k m σ1 H1, W' k m σ1 H1 → (J.stop k H1 ∧ D'.nx σ1 H1) ∨ (J.go k H1 ∧ ∃ N : St → Hp → Prop, (∀ σ' H', N σ' H' → ∃ m', m' < m ∧ W' (k + 1) m' σ' H') ∧
      ∀ x H', J.yld k H1 x H' → g x σ1 H' fun σ2 H2 => tS K Y W M b { D' with nx := N, ct := N, bk := D'.nx } σ2 H2) := by
  refine ⟨fun k m σ1 H1 => m = L.length - k ∧ k ≤ L.length ∧ ∃ S1, Sat K Y F S1 σ1 H1 ∧ Stay M σ σ1 ∧ WPs K Y W M F D' σ (forS (bindB bnd) b (L.drop k) S1), ⟨_, rfl, Nat.zero_le _, S, s, Stay.refl M σ, h⟩, ?_⟩
  rintro k m σ1 H1 ⟨rfl, hk, S1, s1, y1, p⟩
  by_cases hlt : k < L.length
  · have hd : L[k]? = some L[k] := List.getElem?_eq_getElem hlt
    have ed : L.drop k = L[k] :: L.drop (k + 1) := List.drop_eq_getElem_cons hlt
    rw [ed] at p
    have p' : WPs K Y W M F D' σ (b (setBs S1 (bnd L[k])) >>= fun r => match r with
      | .nx S' => forS (bindB bnd) b (L.drop (k + 1)) S'
      | .ct S' => forS (bindB bnd) b (L.drop (k + 1)) S'
      | .bk S' => .ok (.nx S')
      | .rt d S' => .ok (.rt d S')) := p
    refine .inr ⟨ok.go k H1 s1.same hlt, fun σ' H' => ∃ S', Sat K Y F S' σ' H' ∧ Stay M σ σ' ∧ WPs K Y W M F D' σ (forS (bindB bnd) b (L.drop (k + 1)) S'), fun σ' H' ⟨S', a1, a2, a3⟩ => ⟨_, by omega, rfl, hlt, S', a1, a2, a3⟩, fun x H' hy => ?_⟩
    obtain ⟨s2, hg⟩ := ok.step k L[k] H1 x H' σ1 hd s1.same hy
    refine hg _ fun ws bd => ?_
    have hk : ∀ p ∈ ws, M p.1 = true := fun p hp => by
      have hm : p.1 ∈ ws.map (·.1) := List.mem_map_of_mem hp
      rw [bd.keys] at hm
      obtain ⟨r, hr1, hr2⟩ := List.mem_map.mp hm
      rw [← hr2]
      exact hM _ r hr1
    refine ⟨F, setBs S1 (bnd L[k]), (s1.ext s2).setBd bd, ?_⟩
    have y2 : Stay M σ (setV σ1 ws) := y1.trans (Stay.setV hk)
    cases q : b (setBs S1 (bnd L[k])) with
    | stuck => rw [q] at p'; exact p'
    | exc e => rw [q] at p'; exact p'
    | ok r =>
      rw [q] at p'
      cases r with
      | rt d S2 => exact fun v H2 r => p' v H2 (r.stay y2)
      | nx S' => exact fun σ' H' s' st => ⟨S', s', y2.trans st, p'⟩
      | ct S' => exact fun σ' H' s' st => ⟨S', s', y2.trans st, p'⟩
      | bk S' => exact fun σ' H' s' st => p' σ' H' s' (y2.trans st)
  · have ed : L.drop k = [] := List.drop_of_length_le (by omega)
    rw [ed] at p
    have : k = L.length := by omega
    subst this
    exact .inl ⟨ok.stop H1 s1.same, p σ1 H1 s1 y1⟩
section
variable {X : Cx} {Y : Cl} {W : Wh} {M : Md} {α : Type} {tg iter : Expr} {g : TG} {src : List Slot → Res (List α × List Slot)} {bnd : α → Bd} {L : En → Res (List α)} {b : List Slot → Res Fl} {body : List Stmt} {pos : Pos}
theorem s_forG (hp : PassesOwn (model X.prog X.w) X.A X.env X.xe) (hc : X.calm = true) (hi : IS X Y W tg iter g src bnd) (hg : PG X tg g) (hb : JB X Y W M body b) (hM : ∀ a, ∀ p ∈ bnd a, M p.1 = true) (hfs : ∀ x, foldedSetIterable iter X.env x = pure x := by intro _; rfl) :
    JS X Y W M (.For tg iter body [] pos) (sForG src bnd b) := by
  obtain ⟨wi, hpi, hw⟩ := hi.ex
  refine PS.imp (ps_for hp hc hpi hg hb hfs) fun D σ H ⟨F, S, s, h⟩ => hw σ H _ ⟨F, S, s, (WPs.bindG h s.same).imp (Same.refl H) fun r q J H1 F1 f1 s1 ok => ?_⟩
  exact forG_run hM ok s1 (WPs.shallow q f1)
theorem hM_1 {M : Md} {i : Nat} (h : M i = true) : ∀ a, ∀ p ∈ b1 i a, M p.1 = true := fun a p hp => by
  cases List.mem_singleton.mp hp
  exact h
theorem hM_2 {M : Md} {i j : Nat} (h : M i = true) (h2 : M j = true) : ∀ a, ∀ p ∈ b2 i j a, M p.1 = true := fun a p hp => by
  rcases List.mem_cons.mp hp with rfl | hp
  · exact h
  · cases List.mem_singleton.mp hp
    exact h2
/-- all slots frozen -/
def srcA (L : En → Res (List α)) (S : List Slot) : Res (List α × List Slot) := L (en S) >>= fun l => .ok (l, frzAll S)
theorem is_all (hi : IE X Y W tg iter g L bnd) : IS X Y W tg iter g (srcA L) bnd := by
  obtain ⟨wi, hpi, hw⟩ := hi.ex
  refine ⟨wi, hpi, fun σ H R ⟨F, S, s, h⟩ => hw σ H R ⟨en S, s.en, (WPr.bind h).imp (Same.refl H) fun l q J H1 sh ok => q J H1 H1 (s.same.trans sh) (s.ext sh).frzAll ok⟩⟩
/-- nothing frozen: ranges -/
def srcK (L : En → Res (List α)) (S : List Slot) : Res (List α × List Slot) := L (en S) >>= fun l => .ok (l, S)
section
variable {e e2 : Expr} {f f2 : En → Res D} {i j : Nat} {p pos' tpos : Pos} {elts : List Expr} {kk : Nat}
theorem is_r1 (hm : X.mg "range" = none) (he : J X Y W .r e f) (hg : Gl X "range" := by rfl) (hs : starEach [e] X.env = [(false, eval e X.env)] := by rfl) (hs1 : starEach (e :: []) X.env = (false, eval e X.env) :: starEach [] X.env := by rfl) :
    IS X Y W tg (.Call (.Name "range" p) [e] [] pos') (gName i) (srcK (iR1 f)) (b1 i) := ⟨_, pi_range1 hg hm (pa_cons he pa_nil hs1) hs, fun σ H R ⟨F, S, s, h⟩ => ⟨en S, s.en, by
  have h' : WPr X.K Y W σ H (f (en S) >>= fun d => (match d with
    | .int n => if rgOk n = true then Res.ok (intsUpTo 0 n.toNat) else .stuck
    | _ => .stuck) >>= fun l => Res.ok (l, S)) (fun r : List D × List Slot => ∀ (J : It) (H1 F1 : Hp), Same F F1 → Sat X.K Y F1 r.2 σ H1 → ItOk X.K Y J (gName i) r.1 (b1 i) F1 → R J H1) := by
    unfold srcK iR1 at h
    cases q : f (en S) with
    | ok d => rw [q] at h; exact h
    | exc x => rw [q] at h; exact h
    | stuck => rw [q] at h; exact h
  refine (WPr.bind h').imp (Same.refl H) fun d q v H1 sh r => ?_
  cases r with
  | @int n =>
    have q' : WPr X.K Y W σ H ((if rgOk n = true then Res.ok (intsUpTo 0 n.toNat) else .stuck) >>= fun l => Res.ok (l, S)) fun r => ∀ (J : It) (H1 F1 : Hp), Same F F1 → Sat X.K Y F1 r.2 σ H1 → ItOk X.K Y J (gName i) r.1 (b1 i) F1 → R J H1 := q
    by_cases hr : rgOk n = true
    · rw [if_pos hr] at q'
      obtain ⟨z1, z2⟩ := rgOk_iff hr
      exact ⟨n, rfl, z1, z2, q' _ H1 F (Same.refl F) (s.ext sh) itok_r⟩
    · rw [if_neg hr] at q'
      exact q'.elim
  | _ => exact q.elim⟩⟩
theorem is_r2 (hm : X.mg "range" = none) (he : J X Y W .r e f) (he2 : J X Y W .r e2 f2) (hg : Gl X "range" := by rfl) (hs : starEach [e, e2] X.env = [(false, eval e X.env), (false, eval e2 X.env)] := by rfl) (hs2 : starEach [e2] X.env = [(false, eval e2 X.env)] := by rfl)
    (hs1 : starEach (e :: [e2]) X.env = (false, eval e X.env) :: starEach [e2] X.env := by rfl) (hs3 : starEach (e2 :: []) X.env = (false, eval e2 X.env) :: starEach [] X.env := by rfl) :
    IS X Y W tg (.Call (.Name "range" p) [e, e2] [] pos') (gName i) (srcK (iR2 f f2)) (b1 i) := ⟨_, pi_range2 hg hm (pa_cons he (pa_cons he2 pa_nil hs3) hs1) hs hs2, fun σ H R ⟨F, S, s, h⟩ => ⟨en S, s.en, by
  have h' : WPr X.K Y W σ H (f (en S) >>= fun d => f2 (en S) >>= fun e => (match d, e with
    | .int lo, .int hi => if (rgOk lo && rgOk hi) = true then Res.ok (intsUpTo lo (hi - lo).toNat) else .stuck
    | _, _ => .stuck) >>= fun l => Res.ok (l, S)) (fun r : List D × List Slot => ∀ (J : It) (H1 F1 : Hp), Same F F1 → Sat X.K Y F1 r.2 σ H1 → ItOk X.K Y J (gName i) r.1 (b1 i) F1 → R J H1) := by
    unfold srcK iR2 at h
    cases q : f (en S) with
    | ok d =>
      rw [q] at h
      cases q2 : f2 (en S) with
      | ok d2 => rw [ok_bind] at h; rw [q2] at h; exact h
      | exc x => rw [ok_bind] at h; rw [q2] at h; exact h
      | stuck => rw [ok_bind] at h; rw [q2] at h; exact h
    | exc x => rw [q] at h; exact h
    | stuck => rw [q] at h; exact h
  refine (WPr.bind h').imp (Same.refl H) fun d q v H1 sh r => ?_
  refine ⟨en S, s.en.mono sh, (WPr.bind q).imp sh fun d2 q2 v2 H2 sh2 r2 => ?_⟩
  cases r with
  | @int lo =>
    cases r2 with
    | @int hi =>
      have q' : WPr X.K Y W σ H ((if (rgOk lo && rgOk hi) = true then Res.ok (intsUpTo lo (hi - lo).toNat) else .stuck) >>= fun l => Res.ok (l, S)) fun r => ∀ (J : It) (H1 F1 : Hp), Same F F1 → Sat X.K Y F1 r.2 σ H1 → ItOk X.K Y J (gName i) r.1 (b1 i) F1 → R J H1 := q2
      by_cases hr : (rgOk lo && rgOk hi) = true
      · rw [if_pos hr] at q'
        have hr' := Bool.and_eq_true_iff.mp hr
        obtain ⟨z1, z2⟩ := rgOk_iff hr'.1
        obtain ⟨z3, z4⟩ := rgOk_iff hr'.2
        exact ⟨lo, hi, rfl, ⟨z1, z2, z3, z4⟩, q' _ H2 F (Same.refl F) (s.ext (sh.trans sh2)) itok_r⟩
      · rw [if_neg hr] at q'
        exact q'.elim
    | _ => exact q2.elim
  | _ => cases d2 <;> exact q2.elim⟩⟩
/-- a new list: frozen, nothing else -/
theorem is_new (he : J X Y W .n e f) : IS X Y W tg e (gName i) (srcK (iL f)) (b1 i) := ⟨_, pi_list he, fun σ H R ⟨F, S, s, h⟩ => ⟨en S, s.en, by
  have h' : WPr X.K Y W σ H (f (en S) >>= fun d => itD d >>= fun l => Res.ok (l, S)) fun r => ∀ (J : It) (H1 F1 : Hp), Same F F1 → Sat X.K Y F1 r.2 σ H1 → ItOk X.K Y J (gName i) r.1 (b1 i) F1 → R J H1 := by
    unfold srcK iL at h
    cases q : f (en S) with
    | ok d => rw [q] at h; exact h
    | exc x => rw [q] at h; exact h
    | stuck => rw [q] at h; exact h
  refine (WPr.bind h').imp (Same.refl H) fun d q v H1 fp sh o nd fr => ?_
  cases z : itD d with
  | stuck => rw [z] at q; exact q.elim
  | exc x => cases d <;> cases z
  | ok l =>
    rw [z] at q
    obtain ⟨F', f1, f2, s', r⟩ := s.freeze sh o fr
    obtain ⟨a, vs, rfl, hs, rs⟩ := itD_rep r z
    exact ⟨a, rfl, ⟨vs, f2.seq hs⟩, q _ H1 F' f1 s' (itok_l hs rs)⟩⟩⟩
theorem is_newE (hm : X.mg "enumerate" = none) (he : J X Y W .n e f) (hg : Gl X "enumerate" := by rfl) (hs : starEach [e] X.env = [(false, eval e X.env)] := by rfl) (hs1 : starEach (e :: []) X.env = (false, eval e X.env) :: starEach [] X.env := by rfl) :
    IS X Y W (.Tuple elts kk tpos) (.Call (.Name "enumerate" p) [e] [] pos') (g2 X.K i j) (srcK (iEn f)) (b2 i j) := ⟨_, pi_enum hg hm (pa_cons he pa_nil hs1) hs, fun σ H R ⟨F, S, s, h⟩ => ⟨en S, s.en, by
  have h' : WPr X.K Y W σ H (f (en S) >>= fun d => itD d >>= fun l => Res.ok (enumP 0 l, S)) fun r => ∀ (J : It) (H1 F1 : Hp), Same F F1 → Sat X.K Y F1 r.2 σ H1 → ItOk X.K Y J (g2 X.K i j) r.1 (b2 i j) F1 → R J H1 := by
    unfold srcK iEn at h
    cases q : f (en S) with
    | ok d =>
      rw [q] at h
      cases q2 : itD d with
      | ok l => simp only [ok_bind, q2] at h; simp only [ok_bind, q2]; exact h
      | exc x => cases d <;> cases q2
      | stuck => simp only [ok_bind, q2, stuck_bind] at h; exact h.elim
    | exc x => rw [q] at h; exact h
    | stuck => rw [q] at h; exact h
  refine (WPr.bind h').imp (Same.refl H) fun d q v H1 fp sh o nd fr => ?_
  cases z : itD d with
  | stuck => rw [z] at q; exact q.elim
  | exc x => cases d <;> cases z
  | ok l =>
    rw [z] at q
    obtain ⟨F', f1, f2, s', r⟩ := s.freeze sh o fr
    obtain ⟨a, vs, rfl, hs, rs⟩ := itD_rep r z
    exact ⟨a, vs, rfl, f2.seq hs, q _ H1 F' f1 s' (itok_e hs rs)⟩⟩⟩
/-- a name's list: its slot frozen -/
def srcV (v : Nat) (S : List Slot) : Res (List D × List Slot) := match (frzV v S)[v]? with
  | some (.fz d) => itD d >>= fun l => .ok (l, frzV v S)
  | _ => .stuck
theorem is_v (v : Nat) {y : Str} {py : Pos} (hv : X.N[v]? = some y := by rfl) (hvy : Vis X.env.scope y := by first | exact Or.inl rfl | exact Or.inr (Or.inl rfl) | exact Or.inr (Or.inr rfl)) (hd : (y == ("__debug__" : Str)) = false := by decide) (hcd : (y == ("__classdict__" : Str)) = false := by decide) :
    IS X Y W tg (.Name y py) (gName i) (srcV v) (b1 i) := ⟨_, pi_list (pe_var hv hvy hd hcd), fun σ H R ⟨F, S, s, h⟩ => by
  obtain ⟨F', f1, f2, s', hz⟩ := s.frzV v
  unfold srcV at h
  split at h
  · rename_i d q
    obtain ⟨u, hu, ru⟩ := hz v d q
    cases z : itD d with
    | stuck => rw [z] at h; exact h.elim
    | exc x => cases d <;> cases z
    | ok l =>
      rw [z] at h
      obtain ⟨a, vs, rfl, hs, rs⟩ := itD_rep ru z
      exact ⟨.ref a, hu, a, rfl, ⟨vs, f2.seq hs⟩, h _ H F' f1 s' (itok_l hs rs)⟩
  · exact h.elim⟩
def srcVp (v : Nat) (S : List Slot) : Res (List (D × D) × List Slot) := match (frzV v S)[v]? with
  | some (.fz d) => itD d >>= fun l => itP l >>= fun l => .ok (l, frzV v S)
  | _ => .stuck
theorem itP_calm : ∀ (ds : List D) (x : Err), itP ds ≠ .exc x := by
  intro ds
  induction ds with
  | nil => exact fun x h => nomatch h
  | cons a r ih =>
    intro x h
    unfold itP at h
    split at h
    · cases h
    · rename_i h0; cases h0
      rename_i x1 y1
      cases q3 : itP r with
      | stuck => rw [q3] at h; cases h
      | exc y => exact ih y q3
      | ok y => rw [q3] at h; cases h
    · cases h
theorem is_vp (v : Nat) {y : Str} {py : Pos} (hv : X.N[v]? = some y := by rfl) (hvy : Vis X.env.scope y := by first | exact Or.inl rfl | exact Or.inr (Or.inl rfl) | exact Or.inr (Or.inr rfl)) (hd : (y == ("__debug__" : Str)) = false := by decide) (hcd : (y == ("__classdict__" : Str)) = false := by decide) :
    IS X Y W tg (.Name y py) (g2 X.K i j) (srcVp v) (b2 i j) := ⟨_, pi_list (pe_var hv hvy hd hcd), fun σ H R ⟨F, S, s, h⟩ => by
  obtain ⟨F', f1, f2, s', hz⟩ := s.frzV v
  unfold srcVp at h
  split at h
  · rename_i d q
    obtain ⟨u, hu, ru⟩ := hz v d q
    cases z : itD d with
    | stuck => rw [z] at h; exact h.elim
    | exc x => cases d <;> cases z
    | ok l =>
      rw [z] at h
      have h : WPr X.K Y W σ H (itP l >>= fun l => .ok (l, frzV v S)) _ := h
      cases z2 : itP l with
      | stuck => rw [z2] at h; exact h.elim
      | exc x => exact absurd z2 (itP_calm l x)
      | ok l2 =>
        rw [z2] at h
        obtain ⟨a, vs, rfl, hs, rs⟩ := itD_rep ru z
        exact ⟨.ref a, hu, a, rfl, ⟨vs, f2.seq hs⟩, h _ H F' f1 s' (itok_p hs rs z2)⟩
  · exact h.elim⟩
/-- v[e] -/
def srcP (v : Nat) (f : En → Res D) (S : List Slot) : Res (List D × List Slot) := match (frzV v S)[v]? with
  | some (.fz (.lst ds)) => f (en S) >>= fun e => match e with
    | .int j => match atI ds j with
      | some d => itD d >>= fun l => .ok (l, frzV v S)
      | _ => .stuck
    | _ => .stuck
  | _ => .stuck
theorem is_at (v : Nat) {y : Str} {py : Pos} (he : J X Y W .r e f) (hs : PlainIx e := by exact fun _ _ => rfl) (hv : X.N[v]? = some y := by rfl) (hvy : Vis X.env.scope y := by first | exact Or.inl rfl | exact Or.inr (Or.inl rfl) | exact Or.inr (Or.inr rfl)) (hd : (y == ("__debug__" : Str)) = false := by decide) (hcd : (y == ("__classdict__" : Str)) = false := by decide) :
    IS X Y W tg (.Subscript (.Name y py) e p) (gName i) (srcP v f) (b1 i) := ⟨_, pi_list (pe_ix ix_list (pe_var hv hvy hd hcd) he hs), fun σ H R ⟨F, S, s, h⟩ => by
  obtain ⟨F', f1, f2, s', hz⟩ := s.frzV v
  unfold srcP at h
  split at h
  · rename_i ds q
    obtain ⟨u, hu, ru⟩ := hz v _ q
    refine ⟨u, hu, en S, s.en, (WPr.bind h).imp (Same.refl H) fun d q v2 H2 sh2 r2 => ?_⟩
    cases r2 with
    | @int j =>
      have q : WPr X.K Y W σ H (match atI ds j with
        | some d => itD d >>= fun l => .ok (l, frzV v S)
        | _ => .stuck) _ := q
      cases q3 : atI ds j with
      | none => rw [q3] at q; exact q.elim
      | some d3 =>
        rw [q3] at q
        cases ru with
        | @lst a vs _ ha r =>
          obtain ⟨u3, hu3, ru3⟩ := r.at q3
          have q : WPr X.K Y W σ H (itD d3 >>= fun l => .ok (l, frzV v S)) _ := q
          cases z : itD d3 with
          | stuck => rw [z] at q; exact q.elim
          | exc x => cases d3 <;> cases z
          | ok l =>
            rw [z] at q
            obtain ⟨a3, vs3, rfl, hs3, rs3⟩ := itD_rep ru3 z
            have f2' := f2.trans sh2
            exact ⟨a, vs, j, .ref a3, rfl, rfl, SqL.of (f2' _ _ ha), hu3, a3, rfl, ⟨vs3, f2'.seq hs3⟩, q _ H2 F' f1 (s'.ext sh2) (itok_l hs3 rs3)⟩
    | _ => exact q.elim
  · exact h.elim⟩
def srcZ (v u : Nat) (S : List Slot) : Res (List (D × D) × List Slot) := match (frzV u (frzV v S))[v]?, (frzV u (frzV v S))[u]? with
  | some (.fz d), some (.fz e) => itD d >>= fun l => itD e >>= fun r => .ok (l.zip r, frzV u (frzV v S))
  | _, _ => .stuck
theorem is_z (v u : Nat) {y z : Str} {py pz : Pos} (hm : X.mg "zip" = none) (hv : X.N[v]? = some y := by rfl) (hvy : Vis X.env.scope y := by first | exact Or.inl rfl | exact Or.inr (Or.inl rfl) | exact Or.inr (Or.inr rfl)) (hd : (y == ("__debug__" : Str)) = false := by decide) (hcd : (y == ("__classdict__" : Str)) = false := by decide)
    (hu : X.N[u]? = some z := by rfl) (huz : Vis X.env.scope z := by first | exact Or.inl rfl | exact Or.inr (Or.inl rfl) | exact Or.inr (Or.inr rfl)) (hd' : (z == ("__debug__" : Str)) = false := by decide) (hcd' : (z == ("__classdict__" : Str)) = false := by decide) (hg : Gl X "zip" := by rfl)
    (hs : starEach [.Name y py, .Name z pz] X.env = (false, eval (.Name y py) X.env) :: starEach [.Name z pz] X.env := by rfl) (hpl : (backTo pos' (starEach [.Name z pz] X.env)).any (·.1) = false := by rfl) (hs3 : starEach (.Name z pz :: []) X.env = (false, eval (.Name z pz) X.env) :: starEach [] X.env := by rfl) :
    IS X Y W (.Tuple elts kk tpos) (.Call (.Name "zip" p) [.Name y py, .Name z pz] [] pos') (g2 X.K i j) (srcZ v u) (b2 i j) := ⟨_, pi_zip hg hm (pa_cons (pe_var hv hvy hd hcd) (pa_cons (pe_var hu huz hd' hcd') pa_nil hs3) hs) hs hpl, fun σ H R ⟨F, S, s, h⟩ => by
  obtain ⟨F1, f1, f2, s1, hz1⟩ := s.frzV v
  obtain ⟨F', f3, f4, s', hz⟩ := s1.frzV u
  unfold srcZ at h
  split at h
  · rename_i d e q1 q2
    obtain ⟨x1, hx1, rx1⟩ := hz v d q1
    obtain ⟨x2, hx2, rx2⟩ := hz u e q2
    cases z1 : itD d with
    | stuck => rw [z1] at h; exact h.elim
    | exc x => cases d <;> cases z1
    | ok l =>
      rw [z1] at h
      have h : WPr X.K Y W σ H (itD e >>= fun r => .ok (l.zip r, frzV u (frzV v S))) _ := h
      cases z2 : itD e with
      | stuck => rw [z2] at h; exact h.elim
      | exc x => cases e <;> cases z2
      | ok l2 =>
        rw [z2] at h
        obtain ⟨a, vs, rfl, hs, rs⟩ := itD_rep rx1 z1
        obtain ⟨b, us, rfl, hs2, rs2⟩ := itD_rep rx2 z2
        exact ⟨.ref a, hx1, .ref b, hx2, a, b, vs, us, rfl, f4.seq hs, f4.seq hs2, h _ H F' (f1.trans f3) s' (itok_z hs rs hs2 rs2)⟩
  · exact h.elim⟩
end
end
end Ow
end
section
set_option linter.all false
set_option maxRecDepth 100000
set_option maxHeartbeats 2000000
/-! Ow14: what a slot owns is changed in its place. -/
namespace Ow
open PySem L2 PySem.Spec
/-- where a change is made: a slot's own data, or an item of its list -/
inductive Lc where
  | top (s : Nat) | it (s j : Nat)
def getL (S : List Slot) : Lc → Option D
  | .top s => match S[s]? with
    | some (.own d) => some d
    | _ => none
  | .it s j => match S[s]? with
    | some (.own (.lst ds)) => ds[j]?
    | _ => none
def putL (keep : Bool) (S : List Slot) (d' : D) : Lc → List Slot
  | .top s => if keep = true then S.set s (.own d') else setS S s (.own d')
  | .it s j => match S[s]? with
    | some (.own (.lst ds)) => S.set s (.own (.lst (ds.set j d')))
    | _ => S
def AtL (σ : St) (H : Hp) : Lc → V → Prop
  | .top s, v => σ[s]? = some (some v)
  | .it s j, v => ∃ p vs, σ[s]? = some (some (.ref p)) ∧ H p = some (.lst vs) ∧ vs[j]? = some v
/-- a longer list -/
def Longer (H H' : Hp) (d d' : D) (v : V) : Prop := ∀ ds p vs, d = .lst ds → v = .ref p → H p = some (.lst vs) → ∃ ds' vs', d' = .lst ds' ∧ H' p = some (.lst vs') ∧ ∀ (j : Nat) (x : V), j < ds.length → vs[j]? = some x → j < ds'.length ∧ vs'[j]? = some x
/-- nothing but the places fl has changed -/
def Out (fl : List Addr) (H H' : Hp) : Prop := ∀ p o, p ∉ fl → H p = some o → H' p = some o
section
variable {K : PySem.W.Frag} {Y : Cl} {F H H' : Hp} {S : List Slot} {σ : St}
theorem Own.fix_out {v : V} {d : D} {fl : List Addr} (o : Own K Y H v d fl) (h : Out fl H H') : Fix H H' := fun p u e hf => h p u (fun hm => by
  obtain ⟨u', a, b⟩ := o.there p hm
  rw [e] at a
  cases a
  rw [b] at hf
  cases hf) e
/-- a heap without some places -/
def lessH (fl : List Addr) (H : Hp) : Hp := fun p => if p ∈ fl then none else H p
theorem lessH_same {fl : List Addr} {H H' : Hp} (h : Same H H') : Same (lessH fl H) (lessH fl H') := fun p o e => by
  unfold lessH at e ⊢
  by_cases hp : p ∈ fl
  · rw [if_pos hp] at e; cases e
  · rw [if_neg hp] at e ⊢; exact h p o e
theorem lessH_to {fl : List Addr} {H : Hp} : Same (lessH fl H) H := fun p o e => by
  unfold lessH at e
  by_cases hp : p ∈ fl
  · rw [if_pos hp] at e; cases e
  · rw [if_neg hp] at e; exact e
theorem lessH_out {fl : List Addr} {H : Hp} {p : Addr} (h : p ∉ fl) : lessH fl H p = H p := if_neg h
/-- a slot's own data, opened -/
theorem Sat.mut2 (h : Sat K Y F S σ H) {s : Nat} {d : D} (hs : S[s]? = some (.own d)) : ∃ v fl, σ[s]? = some (some v) ∧ Own K Y H v d fl ∧ fl.Nodup ∧ (∀ p ∈ fl, F p = none) ∧ (∀ fl' : List Addr, (∀ p ∈ fl', p ∈ fl) → Sat K Y F (setS S s .un) σ (lessH fl' H)) ∧
    ∀ (H' : Hp) (d' : D) (fl' : List Addr), Out fl H H' → Own K Y H' v d' fl' → fl'.Nodup → (∀ p ∈ fl', p ∈ fl ∨ H p = none) →
      Sat K Y F (setS S s (.own d')) σ H' ∧ (Longer H H' d d' v → Sat K Y F (S.set s (.own d')) σ H') := by
  obtain ⟨G, w, fp, sw⟩ := h
  obtain ⟨v, hv, o, nd, z⟩ := sw.ok s _ hs
  refine ⟨v, fp s, hv, o, nd, fun p hp => sw.fg.free (z p hp).2, fun fl' sub => ?_, fun H' d' fl' out o' nd' sub => ?_⟩
  · have nfx : ∀ p ∈ fl', ∀ u, H p = some u → fixO u = false := fun p hp u e => by
      obtain ⟨u', a, b⟩ := o.there p (sub p hp)
      rw [e] at a
      cases a
      exact b
    have fx : Fix H (lessH fl' H) := fun p u e hf => by
      rw [lessH_out fun hm => by rw [nfx p hm u e] at hf; cases hf]
      exact e
    refine ⟨G, w, fp, sw.fg, fun p u e => ?_, fun p u e hf => sw.fx p u (lessH_to p u e) hf, by rw [setS_len]; exact sw.len, fun k y hy => ?_⟩
    · rw [lessH_out fun hm => by rw [(z p (sub p hm)).2] at e; cases e]
      exact sw.gh p u e
    · rcases setS_get hy with ⟨rfl, rfl, _⟩ | ⟨hk, x, hx, hxy⟩
      · trivial
      · rcases kill_ne hxy with ⟨rfl, _⟩ | ⟨rfl, hn⟩
        · trivial
        · have q := sw.ok k _ hx
          cases x with
          | un => trivial
          | fz e => exact q
          | own e =>
            obtain ⟨u, a, b, c, q'⟩ := q
            exact ⟨u, a, b.frame fx (fun p hp => lessH_out fun hm => hk (by rw [← (q' p hp).1, (z p (sub p hm)).1])), c, q'⟩
          | ali t j =>
            obtain ⟨ds, p, vs, u, h1, h2, h3, h4, h5, h6⟩ := q
            have ht : t ≠ s := fun e => hn j (by rw [e])
            obtain ⟨u2, a2, b2, c2, q2⟩ := sw.ok t _ h1
            rw [h3] at a2
            cases a2
            obtain ⟨p', vs', g, e1, e2, e3, e4⟩ := b2.lst_inv (p := p)
            cases e1
            have hp : p ∈ fp t := by rw [e4]; exact List.mem_cons_self
            refine ⟨ds, p, vs, u, setS_ne h1 (fun j q => nomatch q) ht, h2, h3, ?_, h5, h6⟩
            rw [lessH_out fun hm => ht (by rw [← (q2 p hp).1, (z p (sub p hm)).1])]
            exact h4
  have hls : s < S.length := (List.getElem?_eq_some_iff.mp hs).1
  have fx : Fix H H' := o.fix_out out
  have gh' : Same G H' := fun p u e => out p u (fun hm => by rw [(z p hm).2] at e; cases e) (sw.gh p u e)
  let w' : Addr → Nat := fun p => if p ∈ fl' then s else w p
  let fp' : Nat → List Addr := fun k => if k = s then fl' else fp k
  have core : ∀ (S' : List Slot), S'.length = S.length → S'[s]? = some (.own d') → (∀ (k : Nat) (y : Slot), k ≠ s → S'[k]? = some y → y = .un ∨ (S[k]? = some y ∧ ((∀ j, y ≠ .ali s j) ∨ Longer H H' d d' v))) → (∀ t e, t ≠ s → S[t]? = some (.own e) → S'[t]? = some (.own e)) → Sat K Y F S' σ H' := by
    intro S' hl hs' hk hoth
    refine ⟨grow G H', w', fp', sw.fg.trans grow_same, grow_to gh', fun p u e hf => grow_fix gh' e hf, by rw [hl]; exact sw.len, fun k y hy => ?_⟩
    by_cases hks : k = s
    · subst hks
      rw [hs'] at hy
      cases hy
      have e1 : fp' k = fl' := if_pos rfl
      refine ⟨v, hv, by rw [e1]; exact o', by rw [e1]; exact nd', ?_⟩
      rw [e1]
      intro p hp
      refine ⟨if_pos hp, grow_none ?_ fun u e => ?_⟩
      · rcases sub p hp with hm | hn
        · exact (z p hm).2
        · exact sw.gh.free hn
      · obtain ⟨u', a, b⟩ := o'.there p hp
        rw [e] at a
        cases a
        exact b
    · rcases hk k y hks hy with rfl | ⟨hz, hali⟩
      · trivial
      · have q := sw.ok k y hz
        cases y with
        | un => trivial
        | fz e =>
          obtain ⟨u, a, b⟩ := q
          exact ⟨u, a, b.mono grow_same⟩
        | own e =>
          obtain ⟨u, a, b, c, q'⟩ := q
          have e1 : fp' k = fp k := if_neg hks
          have nfl : ∀ p ∈ fp k, p ∉ fp s := fun p hp hm => hks (by rw [← (q' p hp).1, (z p hm).1])
          have eqH : ∀ p ∈ fp k, H' p = H p := fun p hp => by
            obtain ⟨u', a', _⟩ := b.there p hp
            rw [a', out p u' (nfl p hp) a']
          refine ⟨u, a, by rw [e1]; exact b.frame fx eqH, by rw [e1]; exact c, ?_⟩
          rw [e1]
          intro p hp
          obtain ⟨u', a', b'⟩ := b.there p hp
          refine ⟨?_, grow_none (q' p hp).2 fun u'' e => ?_⟩
          · show (if p ∈ fl' then s else w p) = k
            rw [if_neg fun hm => ?_]
            · exact (q' p hp).1
            · rcases sub p hm with hm' | hn
              · exact nfl p hp hm'
              · rw [a'] at hn
                cases hn
          · rw [eqH p hp, a'] at e
            cases e
            exact b'
        | ali t j =>
          obtain ⟨ds, p, vs, u, h1, h2, h3, h4, h5, h6⟩ := q
          by_cases ht : t = s
          · subst ht
            rcases hali with hn | lg
            · exact absurd rfl (hn j)
            · rw [hs] at h1
              cases h1
              rw [hv] at h3
              cases h3
              obtain ⟨ds', vs', rfl, e2, e3⟩ := lg ds p vs rfl rfl h4
              obtain ⟨e4, e5⟩ := e3 j u h2 h5
              exact ⟨ds', p, vs', u, hs', e4, hv, e2, e5, h6⟩
          · obtain ⟨u2, a2, b2, c2, q2⟩ := sw.ok t _ h1
            rw [h3] at a2
            cases a2
            obtain ⟨p', vs', g, e1, e2, e3, e4⟩ := b2.lst_inv (p := p)
            cases e1
            have hp : p ∈ fp t := by rw [e4]; exact List.mem_cons_self
            have : p ∉ fp s := fun hm => ht (by rw [← (q2 p hp).1, (z p hm).1])
            exact ⟨ds, p, vs, u, hoth t _ ht h1, h2, h3, out p _ this h4, h5, h6⟩
  refine ⟨core _ setS_len ?_ (fun k y hks hy => ?_) fun t e ht he => setS_ne he (fun j q => nomatch q) ht, fun lg => core _ (by simp) (by rw [List.getElem?_set_self hls]) (fun k y hks hy => ?_) fun t e ht he => by rw [List.getElem?_set_ne (Ne.symm ht)]; exact he⟩
  · unfold setS
    rw [List.getElem?_set_self (by simpa using hls)]
  · rcases setS_get hy with ⟨rfl, _, _⟩ | ⟨_, x, hx, hxy⟩
    · exact absurd rfl hks
    · rcases kill_ne hxy with ⟨rfl, _⟩ | ⟨rfl, hn⟩
      · exact .inl rfl
      · exact .inr ⟨hx, .inl hn⟩
  · rw [List.getElem?_set_ne (Ne.symm hks)] at hy
    exact .inr ⟨hy, .inr lg⟩
theorem Sat.mut (h : Sat K Y F S σ H) {s : Nat} {d : D} (hs : S[s]? = some (.own d)) : ∃ v fl, σ[s]? = some (some v) ∧ Own K Y H v d fl ∧ fl.Nodup ∧ (∀ p ∈ fl, F p = none) ∧
    ∀ (H' : Hp) (d' : D) (fl' : List Addr), Out fl H H' → Own K Y H' v d' fl' → fl'.Nodup → (∀ p ∈ fl', p ∈ fl ∨ H p = none) →
      Sat K Y F (setS S s (.own d')) σ H' ∧ (Longer H H' d d' v → Sat K Y F (S.set s (.own d')) σ H') := by
  obtain ⟨v, fl, a, b, c, d, _, e⟩ := h.mut2 hs
  exact ⟨v, fl, a, b, c, d, e⟩
theorem Owns.at_ : ∀ {vs : List V} {ds : List D} {fp : List Addr} {j : Nat} {d : D}, Owns K Y H vs ds fp → ds[j]? = some d → ∃ v f1 f f2, vs[j]? = some v ∧ Own K Y H v d f ∧ fp = f1 ++ (f ++ f2) ∧
    ∀ (H' : Hp) (v' : V) (d' : D) (f' : List Addr), Own K Y H' v' d' f' → Fix H H' → (∀ p ∈ f1 ++ f2, H' p = H p) → Owns K Y H' (vs.set j v') (ds.set j d') (f1 ++ (f' ++ f2))
  | _, _, _, j, d, .nil, h => by simp at h
  | v :: vs, _ :: ds, _, 0, d, .cons (f := f) (g := g) a b, h => by
    cases h
    refine ⟨v, [], f, g, rfl, a, rfl, fun H' v' d' f' o' fx eq => ?_⟩
    show Owns K Y H' (v' :: vs) (d' :: ds) (f' ++ g)
    exact .cons o' (b.frame fx fun p hp => eq p (by simpa using hp))
  | v :: vs, d0 :: ds, _, j + 1, d, .cons (f := f) (g := g) a b, h => by
    obtain ⟨u, f1, f', f2, h1, h2, h3, h4⟩ := Owns.at_ b (j := j) h
    refine ⟨u, f ++ f1, f', f2, h1, h2, by rw [h3]; simp, fun H' v' d' f'' o' fx eq => ?_⟩
    have := Owns.cons (a.frame fx fun p hp => eq p (by simp [hp])) (h4 H' v' d' f'' o' fx fun p hp => eq p (by
      rcases List.mem_append.mp hp with hp | hp <;> simp [hp]))
    simpa using this
theorem Owns.take_drop : ∀ (j : Nat) {vs : List V} {ds : List D} {fp : List Addr}, Owns K Y H vs ds fp → ∃ f1 f2, fp = f1 ++ f2 ∧ Owns K Y H (vs.take j) (ds.take j) f1 ∧ Owns K Y H (vs.drop j) (ds.drop j) f2
  | 0, vs, ds, fp, h => ⟨[], fp, rfl, .nil, h⟩
  | j + 1, _, _, _, .nil => ⟨[], [], rfl, .nil, .nil⟩
  | j + 1, _, _, _, .cons (f := f) (g := g) a b => by
    obtain ⟨f1, f2, h1, h2, h3⟩ := Owns.take_drop j b
    exact ⟨f ++ f1, f2, by rw [h1]; simp, .cons a h2, h3⟩
theorem Owns.reverse : ∀ {vs : List V} {ds : List D} {fp : List Addr}, Owns K Y H vs ds fp → ∃ fp', fp'.Perm fp ∧ Owns K Y H vs.reverse ds.reverse fp'
  | _, _, _, .nil => ⟨[], List.Perm.refl _, .nil⟩
  | v :: vs, d :: ds, _, .cons (f := f) (g := g) a b => by
    obtain ⟨g', h1, h2⟩ := Owns.reverse b
    refine ⟨g' ++ f, ?_, ?_⟩
    · exact (List.perm_append_comm).trans (List.Perm.append_left f h1)
    · rw [List.reverse_cons, List.reverse_cons]
      exact Owns.append h2 (Owns.one a)
/-- without the slot -/
def unL (S : List Slot) : Lc → List Slot
  | .top s => setS S s .un
  | .it s _ => setS S s .un
/-- the place where a change is made, opened -/
theorem Sat.openL2 (h : Sat K Y F S σ H) {lc : Lc} {d : D} (hg : getL S lc = some d) : ∃ v fl, AtL σ H lc v ∧ Own K Y H v d fl ∧ fl.Nodup ∧ (∀ p ∈ fl, F p = none) ∧ Sat K Y F (unL S lc) σ (lessH fl H) ∧
    ∀ (keep : Bool) (H' : Hp) (d' : D) (fl' : List Addr), Out fl H H' → Own K Y H' v d' fl' → fl'.Nodup → (∀ p ∈ fl', p ∈ fl ∨ H p = none) → (keep = true → Longer H H' d d' v) → Sat K Y F (putL keep S d' lc) σ H' := by
  cases lc with
  | top s =>
    have hs : S[s]? = some (.own d) := by
      have hg' : (match S[s]? with
        | some (.own d) => some d
        | _ => none) = some d := hg
      split at hg'
      · rename_i q
        cases hg'
        exact q
      · cases hg'
    obtain ⟨v, fl, a, b, c, e, ls, f⟩ := h.mut2 hs
    refine ⟨v, fl, a, b, c, e, ls fl (fun _ h => h), fun keep H' d' fl' h1 h2 h3 h4 h5 => ?_⟩
    obtain ⟨g1, g2⟩ := f H' d' fl' h1 h2 h3 h4
    unfold putL
    cases keep with
    | true => exact g2 (h5 rfl)
    | false => exact g1
  | it s j =>
    obtain ⟨ds, hs, hd⟩ : ∃ ds, S[s]? = some (.own (.lst ds)) ∧ ds[j]? = some d := by
      have hg' : (match S[s]? with
        | some (.own (.lst ds)) => ds[j]?
        | _ => none) = some d := hg
      split at hg'
      · rename_i q
        exact ⟨_, q, hg'⟩
      · cases hg'
    obtain ⟨v, fl, a, b, c, e, ls, f⟩ := h.mut2 hs
    obtain ⟨p, vs, g, rfl, hp, ow, rfl⟩ := b.lst_inv (p := 0)
    obtain ⟨u, f1, fj, f2, h1, h2, h3, h4⟩ := ow.at_ hd
    subst h3
    have nd := List.nodup_cons.mp c
    have hpj : p ∉ fj := fun hm => nd.1 (by simp [hm])
    refine ⟨u, fj, ⟨p, vs, a, hp, h1⟩, h2, ((List.nodup_append.mp ((List.nodup_append.mp nd.2).2.1)).1), fun q hq => e q (by simp [hq]), ls fj (fun q hq => by simp [hq]), fun keep H' d' fl' g1 g2 g3 g4 g5 => ?_⟩
    have nd2 := List.nodup_append.mp nd.2
    have nd3 := List.nodup_append.mp nd2.2.1
    have hp' : H' p = some (.lst vs) := g1 p _ hpj hp
    have fx : Fix H H' := h2.fix_out g1
    have fr : ∀ q ∈ f1 ++ f2, H' q = H q := fun q hq => by
      obtain ⟨o, ho, _⟩ := ow.there q (by rcases List.mem_append.mp hq with hq | hq <;> simp [hq])
      rw [ho]
      refine g1 q o (fun hm => ?_) ho
      rcases List.mem_append.mp hq with hq | hq
      · exact nd2.2.2 q hq q (by simp [hm]) rfl
      · exact nd3.2.2 q hm q hq rfl
    have ow' := h4 H' u d' fl' g2 fx fr
    have es : vs.set j u = vs := by
      apply List.ext_getElem?
      intro k
      by_cases hk : k = j
      · subst hk
        rw [List.getElem?_set_self (List.getElem?_eq_some_iff.mp h1).1, h1]
      · rw [List.getElem?_set_ne (Ne.symm hk)]
    rw [es] at ow'
    have key := f H' (.lst (ds.set j d')) (p :: (f1 ++ (fl' ++ f2))) (fun q o hq ho => g1 q o (fun hm => hq (by simp [hm])) ho) (.lst hp' ow') ?_ ?_
    · show Sat K Y F (match S[s]? with
        | some (.own (.lst ds)) => S.set s (.own (.lst (ds.set j d')))
        | _ => S) σ H'
      rw [hs]
      refine key.2 fun ds0 p0 vs0 e1 e2 e3 => ?_
      cases e1
      cases e2
      rw [hp] at e3
      cases e3
      exact ⟨_, vs, rfl, hp', fun k x hk hx => ⟨by simpa using hk, hx⟩⟩
    · have sub : ∀ q ∈ fl', q ∉ f1 ∧ q ∉ f2 ∧ q ≠ p := fun q hq => by
        rcases g4 q hq with hm | hn
        · refine ⟨fun z => nd2.2.2 q z q (by simp [hm]) rfl, fun z => nd3.2.2 q hm q z rfl, fun z => hpj (z ▸ hm)⟩
        · refine ⟨fun z => ?_, fun z => ?_, fun z => ?_⟩
          · obtain ⟨o, ho, _⟩ := ow.there q (by simp [z])
            rw [ho] at hn; cases hn
          · obtain ⟨o, ho, _⟩ := ow.there q (by simp [z])
            rw [ho] at hn; cases hn
          · rw [z, hp] at hn; cases hn
      refine List.nodup_cons.mpr ⟨fun hm => ?_, ?_⟩
      · rcases List.mem_append.mp hm with hm | hm
        · exact nd.1 (by simp [hm])
        · rcases List.mem_append.mp hm with hm | hm
          · exact (sub p hm).2.2 rfl
          · exact nd.1 (by simp [hm])
      · refine List.nodup_append.mpr ⟨nd2.1, List.nodup_append.mpr ⟨g3, nd3.2.1, fun x hx y hy e => ?_⟩, fun x hx y hy e => ?_⟩
        · subst e
          exact (sub x hx).2.1 hy
        · subst e
          rcases List.mem_append.mp hy with hy | hy
          · exact (sub x hy).1 hx
          · exact nd2.2.2 x hx x (by simp [hy]) rfl
    · intro q hq
      rcases List.mem_cons.mp hq with rfl | hq
      · exact .inl List.mem_cons_self
      · rcases List.mem_append.mp hq with hq | hq
        · exact .inl (by simp [hq])
        · rcases List.mem_append.mp hq with hq | hq
          · rcases g4 q hq with hm | hn
            · exact .inl (by simp [hm])
            · exact .inr hn
          · exact .inl (by simp [hq])
theorem Sat.openL (h : Sat K Y F S σ H) {lc : Lc} {d : D} (hg : getL S lc = some d) : ∃ v fl, AtL σ H lc v ∧ Own K Y H v d fl ∧ fl.Nodup ∧ (∀ p ∈ fl, F p = none) ∧
    ∀ (keep : Bool) (H' : Hp) (d' : D) (fl' : List Addr), Out fl H H' → Own K Y H' v d' fl' → fl'.Nodup → (∀ p ∈ fl', p ∈ fl ∨ H p = none) → (keep = true → Longer H H' d d' v) → Sat K Y F (putL keep S d' lc) σ H' := by
  obtain ⟨v, fl, a, b, c, d, _, e⟩ := h.openL2 hg
  exact ⟨v, fl, a, b, c, d, e⟩
theorem AtL.same {lc : Lc} {v : V} (h : AtL σ H lc v) (e : Same H H') : AtL σ H' lc v := by
  cases lc with
  | top s => exact h
  | it s j =>
    obtain ⟨p, vs, a, b, c⟩ := h
    exact ⟨p, vs, a, e _ _ b, c⟩
theorem AtL.one {lc : Lc} {v u : V} (h : AtL σ H lc v) (h' : AtL σ H lc u) : v = u := by
  cases lc with
  | top s =>
    have a : σ[s]? = some (some v) := h
    have b : σ[s]? = some (some u) := h'
    rw [a] at b
    cases b
    rfl
  | it s j =>
    obtain ⟨p, vs, a, b, c⟩ := h
    obtain ⟨p', vs', a', b', c'⟩ := h'
    rw [a] at a'
    cases a'
    rw [b] at b'
    cases b'
    rw [c] at c'
    cases c'
    rfl
end
/-! ### where -/
def JLc (X : Cx) (Y : Cl) (W : Wh) (e : Expr) (loc : List Slot → Res Lc) : Prop := PE X e fun σ H Q => ∃ F S, Sat X.K Y F S σ H ∧ WPr X.K Y W σ H (loc S) fun lc => ∀ v H1, Same H H1 → AtL σ H1 lc v → Q v H1
def locV (i : Nat) (S : List Slot) : Res Lc := match S[i]? with
  | some (.own _) => .ok (.top i)
  | some (.ali s j) => .ok (.it s j)
  | _ => .stuck
def locP (i : Nat) (f : En → Res D) (S : List Slot) : Res Lc := match S[i]? with
  | some (.own (.lst ds)) => f (en S) >>= fun d => match d with
    | .int k => match ixN ds.length k with
      | some j => .ok (.it i j)
      | none => .stuck
    | _ => .stuck
  | _ => .stuck

section
variable {X : Cx} {Y : Cl} {W : Wh} {M : Md} {e o : Expr} {es : List Expr} {f : En → Res D} {p pos : Pos}
theorem jl_var (i : Nat) {x : Str} (hN : X.N[i]? = some x := by rfl) (hv : Vis X.env.scope x := by first | exact Or.inl rfl | exact Or.inr (Or.inl rfl) | exact Or.inr (Or.inr rfl)) (hd : (x == ("__debug__" : Str)) = false := by decide) (hcd : (x == ("__classdict__" : Str)) = false := by decide) :
    JLc X Y W (.Name x p) (locV i) :=
  PE.imp (pe_var hN hv hd hcd) fun σ H Q ⟨F, S, s, h⟩ => by
    obtain ⟨G, w, fp, sw⟩ := s
    unfold locV at h
    split at h
    · rename_i d q
      obtain ⟨v, hv, _⟩ := sw.ok i _ q
      exact ⟨v, hv, h v H (Same.refl H) hv⟩
    · rename_i t j q
      obtain ⟨ds, p, vs, u, h1, h2, h3, h4, h5, h6⟩ := sw.ok i _ q
      exact ⟨u, h6, h u H (Same.refl H) ⟨p, vs, h3, h4, h5⟩⟩
    · exact h.elim
theorem jl_at (i : Nat) {x : Str} {p2 : Pos} (he : J X Y W .r e f) (hs : PlainIx e := by exact fun _ _ => rfl) (hN : X.N[i]? = some x := by rfl) (hv : Vis X.env.scope x := by first | exact Or.inl rfl | exact Or.inr (Or.inl rfl) | exact Or.inr (Or.inr rfl)) (hd : (x == ("__debug__" : Str)) = false := by decide) (hcd : (x == ("__classdict__" : Str)) = false := by decide) :
    JLc X Y W (.Subscript (.Name x p) e p2) (locP i f) :=
  PE.imp (pe_ix ix_list (pe_var hN hv hd hcd) he hs) fun σ H Q ⟨F, S, s, h⟩ => by
    have s0 := s
    obtain ⟨G, w, fp, sw⟩ := s
    unfold locP at h
    split at h
    · rename_i ds q
      obtain ⟨v, hv, o, _⟩ := sw.ok i _ q
      obtain ⟨p, vs, g, rfl, hp, ow, _⟩ := o.lst_inv (p := 0)
      refine ⟨.ref p, hv, en S, s0.en, (WPr.bind h).imp (Same.refl H) fun d q2 v2 H2 sh2 r2 => ?_⟩
      cases r2 with
      | @int k =>
        have q2 : WPr X.K Y W σ H (match ixN ds.length k with
          | some j => .ok (.it i j)
          | none => .stuck) fun lc => ∀ v H1, Same H H1 → AtL σ H1 lc v → Q v H1 := q2
        cases q3 : ixN ds.length k with
        | none => rw [q3] at q2; exact q2.elim
        | some j =>
          rw [q3] at q2
          have hl := ow.length
          obtain ⟨_, hj, _, _⟩ := ixN_seq q3
          have hx : vs[j]? = some vs[j] := List.getElem?_eq_getElem (by omega)
          refine ⟨p, vs, k, vs[j], rfl, rfl, SqL.of (sh2 _ _ hp), ?_, q2 _ H2 sh2 ⟨p, vs, hv, sh2 _ _ hp, hx⟩⟩
          have : ixN vs.length k = some j := by rw [hl]; exact q3
          show (ixN vs.length k).bind (fun j => vs[j]?) = some vs[j]
          rw [this]
          exact hx
      | _ => exact q2.elim
    · exact h.elim
/-! ### methods of a list -/
abbrev MOp := D → List D → Option (D × Bool)
/-- what a method does to a list that is owned -/
def MethOk (K : PySem.W.Frag) (Y : Cl) (r : V → List V → Hp → VK → Prop) (op : MOp) : Prop := ∀ (H : Hp) (v : V) (d : D) (fl : List Addr) (us : List V) (es : List D) (g : List Addr) (d' : D) (keep : Bool) (Q : VK),
  Own K Y H v d fl → fl.Nodup → Owns K Y H us es g → g.Nodup → (∀ p ∈ fl, p ∉ g) → op d es = some (d', keep) →
  (∀ H' fl', Out fl H H' → Own K Y H' v d' fl' → fl'.Nodup → (∀ p ∈ fl', p ∈ fl ∨ p ∈ g) → (keep = true → Longer H H' d d' v) → Q .non H') → r v us H Q
def sMeth (loc : List Slot → Res Lc) (fs : En → Res (List D)) (op : MOp) : List Slot → Res Fl := fun S => loc S >>= fun lc => match getL S lc with
  | some (.lst ds) => fs (en S) >>= fun es => match op (.lst ds) es with
    | some (d', keep) => .ok (.nx (putL keep S d' lc))
    | none => .stuck
  | _ => .stuck
theorem tyV_own {K : PySem.W.Frag} {H : Hp} {v : V} {ds : List D} {fl : List Addr} (o : Own K Y H v (.lst ds) fl) : tyV K "list" v H := by
  obtain ⟨p, vs, g, rfl, hp, _, _⟩ := o.lst_inv (p := 0)
  exact .inl ⟨rfl, vs, SqL.of hp⟩
theorem meth_core {K : PySem.W.Frag} {F H : Hp} {S : List Slot} {σ : St} {r : V → List V → Hp → VK → Prop} {op : MOp} {D' : Ends} {lc : Lc} {es : List D} {us : List V} {g : List Addr} {H1 H2 : Hp} {v : V} {d : D} (hk : MethOk K Y r op) (s : Sat K Y F S σ H) (s1 : Same H H1) (s2 : Same H1 H2)
    (at_ : AtL σ H1 lc v) (ow : Owns K Y H2 us es g) (nd : g.Nodup) (fr : ∀ p ∈ g, H1 p = none) (q : getL S lc = some d) (h : WPs K Y W M F D' σ (match op d es with
        | some (d', keep) => .ok (.nx (putL keep S d' lc))
        | none => .stuck)) : r v us H2 fun _ H3 => D'.nx σ H3 := by
    cases q2 : op d es with
    | none => rw [q2] at h; exact h.elim
    | some dk =>
      obtain ⟨d', keep⟩ := dk
      rw [q2] at h
      obtain ⟨v0, fl, a, b, c, _, cl⟩ := (s.ext s1).openL q
      have ev : v0 = v := a.one at_
      subst ev
      exact hk H2 v0 d fl us es g d' keep (fun _ H3 => D'.nx σ H3) (b.mono s2) c ow nd (fun p hp hg => by
        obtain ⟨o, ho, _⟩ := b.there p hp
        rw [fr p hg] at ho
        cases ho) q2 fun H' fl' o1 o2 o3 o4 o5 => h σ H' (cl keep H' d' fl' (fun p u hp hu => o1 p u hp (s2 p u hu)) o2 o3 (fun p hp => (o4 p hp).imp id (fr p)) fun hk ds p vs e1 e2 e3 => o5 hk ds p vs e1 e2 (s2 _ _ e3)) (Stay.refl M σ)
/-- o.m(..) as a statement -/
theorem s_meth {name : Str} {id : String} {r : V → List V → Hp → VK → Prop} {op : MOp} {loc : List Slot → Res Lc} {fs : En → Res (List D)} {apos cpos : Pos} (slot : PySem.Slot "list" name id) (hty : typeOf (.builtin id) = pure (.type "method_descriptor")) (hm : MtR X id r) (hk : MethOk X.K Y r op) (ho : JLc X Y W o loc) (ha : An X Y W (e :: es) fs)
    (hbase : attributeBase o name X.env (eval o X.env) = eval o X.env := by rfl)
    (hfew : ((backTo cpos (starEach (e :: es) X.env)).all (fun x => !x.1) && (backToKw cpos (keywordEach [] X.env)).all (fun x => x.1.isSome)
      && decide ((e :: es).length + ([] : List Keyword).length + (if ([] : List Keyword).isEmpty then 0 else 1) < 30)) = true := by rfl)
    (hline : (apos.endLine == cpos.line) = true := by rfl) (hs : starEach (e :: es) X.env = (false, eval e X.env) :: starEach es X.env := by rfl) (hplain : (backTo cpos (starEach es X.env)).any (·.1) = false := by rfl)
    (hsw : swapsWith (.Call (.Attribute o name apos) (e :: es) [] cpos) none pos.line X.env = pure false := by rfl) :
    JS X Y W M (.Expr (.Call (.Attribute o name apos) (e :: es) [] cpos) pos) (sMeth loc fs op) :=
  PS.imp (ps_expr (pe_bm F.plainAttrs_list slot hty hm ho ha hbase hfew hline hs hplain) hsw) fun D' σ H ⟨F, S, s, h⟩ => by
    refine ⟨F, S, s, (WPs.bindG h s.same).imp (Same.refl H) fun lc q v H1 s1 at_ => ?_⟩
    split at q
    · rename_i ds qg
      obtain ⟨v0, fl, a, b, c, _, cl⟩ := (s.ext s1).openL qg
      have ev : v0 = v := a.one at_
      subst ev
      exact ⟨tyV_own b, en S, s.en.mono s1, (WPs.bindG (σ := σ) q (s.same.trans s1)).imp (Same.refl H1) fun es q2 us H2 g s2 ow nd fr => meth_core hk s s1 s2 at_ ow nd fr qg q2⟩
    · exact q.elim
theorem s_meth0 {name : Str} {id : String} {r : V → List V → Hp → VK → Prop} {op : MOp} {loc : List Slot → Res Lc} {apos cpos : Pos} (slot : PySem.Slot "list" name id) (hty : typeOf (.builtin id) = pure (.type "method_descriptor")) (hm : MtR X id r) (hk : MethOk X.K Y r op) (ho : JLc X Y W o loc)
    (hbase : attributeBase o name X.env (eval o X.env) = eval o X.env := by rfl) (hline : (apos.endLine == cpos.line) = true := by rfl)
    (hsw : swapsWith (.Call (.Attribute o name apos) [] [] cpos) none pos.line X.env = pure false := by rfl) :
    JS X Y W M (.Expr (.Call (.Attribute o name apos) [] [] cpos) pos) (sMeth loc aNil op) :=
  PS.imp (ps_expr (pe_bm0 F.plainAttrs_list slot hty hm ho hbase hline) hsw) fun D' σ H ⟨F, S, s, h⟩ => by
    refine ⟨F, S, s, (WPs.bindG h s.same).imp (Same.refl H) fun lc q v H1 s1 at_ => ?_⟩
    split at q
    · rename_i ds qg
      obtain ⟨v0, fl, a, b, c, _, cl⟩ := (s.ext s1).openL qg
      have ev : v0 = v := a.one at_
      subst ev
      exact ⟨tyV_own b, meth_core (es := []) hk s s1 (Same.refl H1) at_ .nil .nil (fun _ z => nomatch z) qg q⟩
    · exact q.elim
end
section
variable {K : PySem.W.Frag} {Y : Cl}
theorem out_upd {H : Hp} {p : Addr} {o : HO} {fl : List Addr} (hp : p ∈ fl) : Out fl H (upd H p o) := fun q u hq e => by
  rw [upd_ne (show q ≠ p from fun z => hq (by rw [z]; exact hp))]
  exact e
theorem Owns.upd {H : Hp} {p : Addr} {o o' : HO} {vs : List V} {ds : List D} {g : List Addr} (h : Owns K Y H vs ds g) (hp : H p = some o) (hf : fixO o = false) (hn : p ∉ g) : Owns K Y (upd H p o') vs ds g := h.frame (fix_upd hp hf) fun q hq => upd_ne fun z => hn (z ▸ hq)
def opApp : MOp := fun d es => match d, es with
  | .lst ds, [e] => if szOk (ds.length + 1) = true then some (.lst (ds ++ [e]), true) else none
  | _, _ => none
theorem mk_app : MethOk K Y rAppend opApp := by
  intro H v d fl us es g d' keep Q o nd ow ndg dis he hQ
  unfold opApp at he
  split at he
  · rename_i ds e
    split at he
    · rename_i hz
      cases he
      obtain ⟨p, vs, f, rfl, hp, os, rfl⟩ := o.lst_inv (p := 0)
      have hl := os.length
      have nd' := List.nodup_cons.mp nd
      cases ow with
      | cons o1 r1 =>
        cases r1
        rename_i u f1
        have dis' : ∀ q ∈ p :: f, q ∉ f1 := fun q hq hm => dis q hq (by simp [hm])
        have hpf1 : p ∉ f1 := dis' p List.mem_cons_self
        refine ⟨p, vs, u, rfl, rfl, hp, ?_, hQ _ (p :: (f ++ f1)) (out_upd List.mem_cons_self) (.lst upd_same ?_) ?_ ?_ ?_⟩
        · have := szOk_lt (n := ds.length) (by unfold szOk at hz ⊢; simp at hz ⊢; omega)
          omega
        · exact Owns.append (os.upd hp rfl nd'.1) ((Owns.one o1).upd hp rfl hpf1)
        · refine List.nodup_cons.mpr ⟨fun hm => (List.mem_append.mp hm).elim nd'.1 hpf1, List.nodup_append.mpr ⟨nd'.2, by simpa using ndg, fun a ha b hb e => ?_⟩⟩
          subst e
          exact dis' a (List.mem_cons_of_mem _ ha) hb
        · intro q hq
          rcases List.mem_cons.mp hq with rfl | hq
          · exact .inl List.mem_cons_self
          · rcases List.mem_append.mp hq with hq | hq
            · exact .inl (List.mem_cons_of_mem _ hq)
            · exact .inr (by simp [hq])
        · intro _ ds0 p0 vs0 e1 e2 e3
          cases e1
          cases e2
          rw [hp] at e3
          cases e3
          refine ⟨_, _, rfl, upd_same, fun j x hj hx => ⟨by simp; omega, ?_⟩⟩
          rw [List.getElem?_append_left (List.getElem?_eq_some_iff.mp hx).1]
          exact hx
    · cases he
  · cases he
/-- whatever gives a list of some of the old items and the new ones -/
theorem mk_any {H : Hp} {p : Addr} {vs vs' : List V} {ds ds' : List D} {f g fp' : List Addr} {Q : VK} (hp : H p = some (.lst vs)) (nd : (p :: f).Nodup) (ow : Owns K Y H vs' ds' fp') (ndp : fp'.Nodup) (sub : ∀ q ∈ fp', q ∈ f ∨ (q ∈ g ∧ q ≠ p)) 
    (hQ : ∀ H' fl', Out (p :: f) H H' → Own K Y H' (.ref p) (.lst ds') fl' → fl'.Nodup → (∀ q ∈ fl', q ∈ p :: f ∨ q ∈ g) → (false = true → Longer H H' (.lst ds) (.lst ds') (.ref p)) → Q .non H') : Q .non (upd H p (.lst vs')) := by
  have nd' := List.nodup_cons.mp nd
  have hpn : p ∉ fp' := fun hm => (sub p hm).elim nd'.1 (fun z => z.2 rfl)
  refine hQ _ (p :: fp') (out_upd List.mem_cons_self) (.lst upd_same (ow.upd hp rfl hpn)) (List.nodup_cons.mpr ⟨hpn, ndp⟩) (fun q hq => ?_) (fun z => nomatch z)
  rcases List.mem_cons.mp hq with rfl | hq
  · exact .inl List.mem_cons_self
  · rcases sub q hq with h | h
    · exact .inl (List.mem_cons_of_mem _ h)
    · exact .inr h.1
def opIns : MOp := fun d es => match d, es with
  | .lst ds, [.int i, e] => if (szOk (ds.length + 1) && decide (0 ≤ i) && decide (i < 2 ^ 63)) = true then some (.lst (ds.take i.toNat ++ [e] ++ ds.drop i.toNat), false) else none
  | _, _ => none
def rInsert : V → List V → Hp → VK → Prop := fun x vs H Q => ∃ (l : Addr) (xs : List V) (i : Int) (y : V), x = .ref l ∧ vs = [.int i, y] ∧ H l = some (.lst xs) ∧ xs.length < sizeLine ∧ 0 ≤ i ∧ i < 2 ^ 63 ∧ Q .non (upd H l (.lst (xs.take i.toNat ++ [y] ++ xs.drop i.toNat)))
theorem mk_ins : MethOk K Y rInsert opIns := by
  intro H v d fl us es g d' keep Q o nd ow ndg dis he hQ
  unfold opIns at he
  split at he
  · rename_i ds i e
    split at he
    · rename_i hz
      cases he
      simp only [Bool.and_eq_true, decide_eq_true_eq] at hz
      obtain ⟨p, vs, f, rfl, hp, os, rfl⟩ := o.lst_inv (p := 0)
      have hl := os.length
      have nd' := List.nodup_cons.mp nd
      cases ow with
      | cons o1 r1 =>
        cases r1 with
        | cons o2 r2 =>
          cases r2
          rename_i u1 f1 u2 f2
          cases o1 with
          | pur _ r =>
            cases r
            have dis' : ∀ q ∈ p :: f, q ∉ f2 := fun q hq hm => dis q hq (by simp [hm])
            have nd2 : f2.Nodup := by simpa using ndg
            obtain ⟨g1, g2, e1, t1, t2⟩ := os.take_drop i.toNat
            subst e1
            have ndg := List.nodup_append.mp nd'.2
            refine ⟨p, vs, i, u2, rfl, rfl, hp, ?_, hz.1.2, hz.2, mk_any (fp' := (g1 ++ f2) ++ g2) (g := _) hp nd (Owns.append (Owns.append t1 (Owns.one o2)) t2) ?_ ?_ hQ⟩
            · have := szOk_lt (n := ds.length) (by have := hz.1.1; unfold szOk at this ⊢; simp at this ⊢; omega)
              omega
            · rw [List.append_assoc]
              refine List.nodup_append.mpr ⟨ndg.1, List.nodup_append.mpr ⟨nd2, ndg.2.1, fun a ha b hb e => ?_⟩, fun a ha b hb e => ?_⟩
              · subst e; exact dis' a (by simp [hb]) ha
              · subst e
                rcases List.mem_append.mp hb with hb | hb
                · exact dis' a (by simp [ha]) hb
                · exact ndg.2.2 a ha a hb rfl
            · intro q hq
              rcases List.mem_append.mp hq with hq | hq
              · rcases List.mem_append.mp hq with hq | hq
                · exact .inl (by simp [hq])
                · exact .inr ⟨by simp [hq], fun z => dis' p List.mem_cons_self (z ▸ hq)⟩
              · exact .inl (by simp [hq])
    · cases he
  · cases he
def opRev : MOp := fun d es => match d, es with
  | .lst ds, [] => some (.lst ds.reverse, false)
  | _, _ => none
theorem mk_rev : MethOk K Y rReverse opRev := by
  intro H v d fl us es g d' keep Q o nd ow ndg dis he hQ
  unfold opRev at he
  split at he
  · rename_i ds
    cases he
    obtain ⟨p, vs, f, rfl, hp, os, rfl⟩ := o.lst_inv (p := 0)
    cases ow
    obtain ⟨f', h1, h2⟩ := os.reverse
    have nd' := List.nodup_cons.mp nd
    exact ⟨p, vs, rfl, rfl, hp, mk_any hp nd h2 (h1.nodup_iff.mpr nd'.2) (fun q hq => .inl (h1.mem_iff.mp hq)) hQ⟩
  · cases he
def opClr : MOp := fun d es => match d, es with
  | .lst ds, [] => some (.lst [], false)
  | _, _ => none
theorem mk_clr : MethOk K Y rClear opClr := by
  intro H v d fl us es g d' keep Q o nd ow ndg dis he hQ
  unfold opClr at he
  split at he
  · rename_i ds
    cases he
    obtain ⟨p, vs, f, rfl, hp, os, rfl⟩ := o.lst_inv (p := 0)
    cases ow
    exact ⟨p, vs, rfl, rfl, hp, mk_any hp nd .nil .nil (fun q z => nomatch z) hQ⟩
  · cases he
theorem Owns.erase {H : Hp} {vs : List V} {ds : List D} {f : List Addr} (os : Owns K Y H vs ds f) (nd : f.Nodup) (j : Nat) : ∃ f', f'.Nodup ∧ (∀ q ∈ f', q ∈ f) ∧ Owns K Y H (vs.take j ++ vs.drop (j + 1)) (ds.take j ++ ds.drop (j + 1)) f' := by
  obtain ⟨g1, g2, e1, t1, t2⟩ := os.take_drop j
  obtain ⟨g3, g4, e2, t3, t4⟩ := t2.take_drop 1
  subst e2 e1
  rw [List.drop_drop, List.drop_drop] at t4
  have n1 := List.nodup_append.mp nd
  have n2 := List.nodup_append.mp n1.2.1
  refine ⟨g1 ++ g4, List.nodup_append.mpr ⟨n1.1, n2.2.1, fun a ha b hb e => ?_⟩, fun q hq => ?_, Owns.append t1 t4⟩
  · subst e; exact n1.2.2 a ha a (by simp [hb]) rfl
  · rcases List.mem_append.mp hq with hq | hq <;> simp [hq]
/-- remove(k): whole numbers -/
def intsOf : List D → Option (List Int)
  | [] => some []
  | .int i :: r => (intsOf r).map (i :: ·)
  | _ :: _ => none
theorem intsOf_map : ∀ {ds : List D} {ns : List Int}, intsOf ds = some ns → ds = ns.map D.int
  | [], ns, h => by cases h; rfl
  | d :: ds, ns, h => by
    unfold intsOf at h
    split at h
    · rename_i e; cases e
    · rename_i e
      cases e
      obtain ⟨ms, a, rfl⟩ := Option.map_eq_some_iff.mp h
      rw [intsOf_map a]
      rfl
    · cases h
@[simp] theorem intsOf_ints : ∀ (ns : List Int), intsOf (ns.map D.int) = some ns
  | [] => rfl
  | n :: ns => by simp [intsOf, intsOf_ints ns]
def opRem : MOp := fun d es => match d, es with
  | .lst ds, [.int k] => match intsOf ds with
    | some ns => if k ∈ ns then some (.lst ((ns.erase k).map D.int), false) else none
    | none => none
  | _, _ => none
theorem erase_idx (k : Int) : ∀ {ns : List Int}, k ∈ ns → ∃ j, ns[j]? = some k ∧ (∀ m : Nat, m < j → ns[m]? ≠ some k) ∧ ns.erase k = ns.eraseIdx j
  | n :: ns, h => by
    by_cases e : n = k
    · subst e
      exact ⟨0, rfl, fun m hm => by omega, by simp⟩
    · rcases List.mem_cons.mp h with z | z
      · exact absurd z.symm e
      · obtain ⟨j, a, b, c⟩ := erase_idx k z
        refine ⟨j + 1, a, fun m hm => ?_, ?_⟩
        · cases m with
          | zero => simpa using e
          | succ m => exact b m (by omega)
        · rw [List.erase_cons_tail (by simpa using e), c]
          rfl
theorem mk_rem : MethOk K Y rRemI opRem := by
  intro H v d fl us es g d' keep Q o nd ow ndg dis he hQ
  unfold opRem at he
  split at he
  · rename_i ds k
    split at he
    · rename_i ns hns
      split at he
      · rename_i hm
        cases he
        have e0 := intsOf_map hns
        subst e0
        obtain ⟨p, vs, f, rfl, hp, os, rfl⟩ := o.lst_inv (p := 0)
        have ev := os.reps.ints
        subst ev
        obtain ⟨j, h1, h2, h3⟩ := erase_idx k hm
        cases ow with
        | cons o1 r1 =>
          cases r1
          cases o1 with
          | pur _ r =>
            cases r
            refine ⟨p, ns, k, j, rfl, rfl, hp, h1, h2, ?_⟩
            rw [h3] at hQ
            exact mk_any (fp' := []) hp nd (Owns.pur (.of_ints _) (pureDs_iff.mpr fun d hd => by obtain ⟨i, _, rfl⟩ := List.mem_map.mp hd; exact pureD_int i)) .nil (fun q z => nomatch z) hQ
      · cases he
    · cases he
  · cases he
end
end Ow
end
section
set_option linter.all false
set_option maxRecDepth 100000
set_option maxHeartbeats 2000000
/-! Ow15: in, index, count, sorted, sum, min, max; dicts; items set; names that share. -/
namespace Ow
open PySem L2 PySem.Spec
def ilD (d : D) : Option (List Int) := match d with
  | .lst ds => intsOf ds
  | .scr ns => some ns
  | _ => none
section
variable {K : PySem.W.Frag} {Y : Cl} {H : Hp}
theorem ilD_rep {v : V} {d : D} {ns : List Int} (r : Rep K Y H v d) (e : ilD d = some ns) : ∃ p, v = .ref p ∧ SqL K H p (ns.map V.int) := by
  cases r with
  | lst h r =>
    have := intsOf_map e
    subst this
    rw [r.ints] at h
    exact ⟨_, rfl, SqL.of h⟩
  | scr h => cases e; exact ⟨_, rfl, h⟩
  | _ => cases e
theorem own_ints {p : Addr} {ns : List Int} (h : H p = none) : Own K Y (upd H p (.lst (ns.map V.int))) (.ref p) (.lst (ns.map D.int)) [p] :=
  .lst (fp := []) upd_same (Owns.pur (.of_ints _) (pureDs_iff.mpr fun d hd => by obtain ⟨i, _, rfl⟩ := List.mem_map.mp hd; exact pureD_int i))
end
def lsP : D → List PyData
  | .lst ds => toPs ds
  | .scr ns => ns.map .int
  | _ => []
def isL : D → Bool
  | .lst _ => true
  | .scr _ => true
  | _ => false
theorem toP_list {d : D} (h : isL d = true) : toP d = .list (lsP d) := by
  cases d <;> first | (cases h; done) | (simp only [toP, lsP])
def oIn : D → D → Res D := fun d e => if (shp d && (isL e && shp e)) = true then .ok (.bl ((lsP e).any fun z => PyData.eqv z (toP d))) else .stuck
def oNin : D → D → Res D := fun d e => if (shp d && (isL e && shp e)) = true then .ok (.bl (!(lsP e).any fun z => PyData.eqv z (toP d))) else .stuck
/-- the first place of an equal one -/
def idxOf (ps : List PyData) (x : PyData) : Option Nat := ps.findIdx? fun z => PyData.eqv z x
def oIndex : D → D → Res D := fun e d => if (shp d && (isL e && shp e)) = true then (match idxOf (lsP e) (toP d) with
  | some j => .ok (.int (j : Nat))
  | none => .stuck) else .stuck
def oCount : D → D → Res D := fun e d => match ilD e, d with
  | some ns, .int k => .ok (.int (ns.count k : Nat))
  | _, _ => .stuck
def oSort : D → Res D := fun d => match ilD d with
  | some ns => .ok (.lst ((ns.mergeSort fun a b => decide (a ≤ b)).map D.int))
  | none => .stuck
def oSum : D → Res D := fun d => match ilD d with
  | some ns => .ok (.int ns.sum)
  | none => .stuck
def minI : List Int → Int
  | [] => 0
  | [x] => x
  | x :: xs => if x ≤ minI xs then x else minI xs
def maxI : List Int → Int
  | [] => 0
  | [x] => x
  | x :: xs => if maxI xs ≤ x then x else maxI xs
def oMinL : D → Res D := fun d => match ilD d with
  | some (n :: ns) => .ok (.int (minI (n :: ns)))
  | _ => .stuck
def oMaxL : D → Res D := fun d => match ilD d with
  | some (n :: ns) => .ok (.int (maxI (n :: ns)))
  | _ => .stuck
theorem minI_ok : ∀ (ns : List Int), ns ≠ [] → minI ns ∈ ns ∧ ∀ y ∈ ns, minI ns ≤ y
  | [x], _ => ⟨List.mem_singleton.mpr rfl, fun y hy => by cases List.mem_singleton.mp hy; exact Int.le_refl _⟩
  | x :: y :: r, _ => by
    obtain ⟨a, b⟩ := minI_ok (y :: r) (by simp)
    show (if x ≤ minI (y :: r) then x else minI (y :: r)) ∈ _ ∧ _
    split
    · rename_i h
      refine ⟨List.mem_cons_self, fun z hz => ?_⟩
      show (if x ≤ minI (y :: r) then x else minI (y :: r)) ≤ z
      rw [if_pos h]
      rcases List.mem_cons.mp hz with rfl | hz
      · exact Int.le_refl _
      · exact Int.le_trans h (b z hz)
    · rename_i h
      refine ⟨List.mem_cons_of_mem _ a, fun z hz => ?_⟩
      show (if x ≤ minI (y :: r) then x else minI (y :: r)) ≤ z
      rw [if_neg h]
      rcases List.mem_cons.mp hz with rfl | hz
      · omega
      · exact b z hz
theorem maxI_ok : ∀ (ns : List Int), ns ≠ [] → maxI ns ∈ ns ∧ ∀ y ∈ ns, y ≤ maxI ns
  | [x], _ => ⟨List.mem_singleton.mpr rfl, fun y hy => by cases List.mem_singleton.mp hy; exact Int.le_refl _⟩
  | x :: y :: r, _ => by
    obtain ⟨a, b⟩ := maxI_ok (y :: r) (by simp)
    show (if maxI (y :: r) ≤ x then x else maxI (y :: r)) ∈ _ ∧ _
    split
    · rename_i h
      refine ⟨List.mem_cons_self, fun z hz => ?_⟩
      show z ≤ (if maxI (y :: r) ≤ x then x else maxI (y :: r))
      rw [if_pos h]
      rcases List.mem_cons.mp hz with rfl | hz
      · exact Int.le_refl _
      · exact Int.le_trans (b z hz) h
    · rename_i h
      refine ⟨List.mem_cons_of_mem _ a, fun z hz => ?_⟩
      show z ≤ (if maxI (y :: r) ≤ x then x else maxI (y :: r))
      rw [if_neg h]
      rcases List.mem_cons.mp hz with rfl | hz
      · omega
      · exact b z hz
section
variable {X : Cx} {Y : Cl} {W : Wh} {k : Kd} {a b o e : Expr} {fa fb : En → Res D} {pos p : Pos}
theorem calm2_ite {f : D → D → Res D} (h : ∀ d e, (∃ z, f d e = .ok z) ∨ f d e = .stuck) : Calm2 f := fun d e x q => by
  rcases h d e with ⟨z, hz⟩ | hz <;> rw [hz] at q <;> cases q
theorem calm1_ite {f : D → Res D} (h : ∀ d, (∃ z, f d = .ok z) ∨ f d = .stuck) : Calm1 f := fun d x q => by
  rcases h d with ⟨z, hz⟩ | hz <;> rw [hz] at q <;> cases q
theorem oIn_calm : Calm2 oIn := calm2_ite fun d e => by unfold oIn; split <;> simp
theorem oNin_calm : Calm2 oNin := calm2_ite fun d e => by unfold oNin; split <;> simp
theorem Room.units65 {n : Nat} {A : Around} (r : Room n A) : A.units + 65 < cLine := by have := r.un; omega
theorem dp_l {K : PySem.W.Frag} {H : Hp} {v : V} {d : D} (r : Rep K Y H v d) (h : isL d = true) (hs : shp d = true) : Dp K H v (.list (lsP d)) ∧ SeqAt.shaped (.list (lsP d)) = true := by
  have := r.dp (shp_lay hs)
  rw [toP_list h] at this
  refine ⟨this, ?_⟩
  unfold shp at hs
  rw [toP_list h] at hs
  exact hs
theorem op2_in : Op2 X.K Y k (rInD X.K) oIn := by
  intro H x y d e Q rx ry ⟨z, hz, po⟩
  unfold oIn at hz
  split at hz
  · rename_i h
    cases hz
    simp only [Bool.and_eq_true] at h
    obtain ⟨p1, p2⟩ := dp_l ry h.2.1 h.2.2
    exact ⟨_, _, rx.dp (shp_lay h.1), p1, h.1, p2, po.pure (Same.refl H) .bl (pureD_bl _)⟩
  · cases hz
theorem op2_nin : Op2 X.K Y k (rNotInD X.K) oNin := by
  intro H x y d e Q rx ry ⟨z, hz, po⟩
  unfold oNin at hz
  split at hz
  · rename_i h
    cases hz
    simp only [Bool.and_eq_true] at h
    obtain ⟨p1, p2⟩ := dp_l ry h.2.1 h.2.2
    exact ⟨_, _, rx.dp (shp_lay h.1), p1, h.1, p2, po.pure (Same.refl H) .bl (pureD_bl _)⟩
  · cases hz
theorem j_in {n : Nat} (hr : Room n X.A) (ha : J X Y W .r a fa) (hb : J X Y W .r b fb) (hm : behindInMarks .In b = false := by rfl) : J X Y W k (.Compare a [.In] [b] pos) (x2 oIn fa fb) := j_cmp (op_inD (Room.units65 hr)) op2_in oIn_calm ha hb hm
theorem t_in {n : Nat} (hr : Room n X.A) (ha : J X Y W .r a fa) (hb : J X Y W .r b fb) (hm : behindInMarks .In b = false := by rfl) : T X Y W (.Compare a [.In] [b] pos) (tBl (x2 oIn fa fb)) := t_cmp (op_inD (Room.units65 hr)) op2_in oIn_calm ha hb hm
theorem j_nin {n : Nat} (hr : Room n X.A) (ha : J X Y W .r a fa) (hb : J X Y W .r b fb) (hm : behindInMarks .NotIn b = false := by rfl) : J X Y W k (.Compare a [.NotIn] [b] pos) (x2 oNin fa fb) := j_cmp (op_notInD (Room.units65 hr)) op2_nin oNin_calm ha hb hm
theorem t_nin {n : Nat} (hr : Room n X.A) (ha : J X Y W .r a fa) (hb : J X Y W .r b fb) (hm : behindInMarks .NotIn b = false := by rfl) : T X Y W (.Compare a [.NotIn] [b] pos) (tBl (x2 oNin fa fb)) := t_cmp (op_notInD (Room.units65 hr)) op2_nin oNin_calm ha hb hm
/-! methods that read -/
def xL (f : En → Res D) : En → Res D := fun en => f en >>= fun d => if isL d = true then .ok d else .stuck
theorem j_m1 {name : Str} {id : String} {r : V → List V → Hp → VK → Prop} {f : D → D → Res D} {apos cpos : Pos} (slot : PySem.Slot "list" name id) (hty : typeOf (.builtin id) = pure (.type "method_descriptor")) (hm : MtR X id r) (hcm : Calm2 f)
    (hr : ∀ H x y d e Q, Rep X.K Y H x d → Rep X.K Y H y e → (∃ z, f d e = .ok z ∧ Po X.K Y k z H Q) → r x [y] H Q) (ho : J X Y W .r o fa) (ha : J X Y W .r e fb)
    (hbase : attributeBase o name X.env (eval o X.env) = eval o X.env := by rfl)
    (hfew : ((backTo cpos (starEach (e :: []) X.env)).all (fun x => !x.1) && (backToKw cpos (keywordEach [] X.env)).all (fun x => x.1.isSome)
      && decide ((e :: []).length + ([] : List Keyword).length + (if ([] : List Keyword).isEmpty then 0 else 1) < 30)) = true := by rfl)
    (hline : (apos.endLine == cpos.line) = true := by rfl) (hs : starEach (e :: []) X.env = (false, eval e X.env) :: starEach [] X.env := by rfl) (hplain : (backTo cpos (starEach [] X.env)).any (·.1) = false := by rfl) :
    J X Y W k (.Call (.Attribute o name apos) [e] [] cpos) (x2 f (xL fa) fb) :=
  PE.imp (pe_bm F.plainAttrs_list slot hty hm ho (pa_cons ha pa_nil hs) hbase hfew hline hs hplain) fun σ H Q ⟨en, he, h⟩ => ⟨en, he, by
    have h' : WPr X.K Y W σ H (fa en >>= fun d => (if isL d = true then Res.ok d else .stuck) >>= fun d => fb en >>= fun e => f d e) fun z => Po X.K Y k z H Q := by
      unfold x2 xL at h
      cases q : fa en with
      | ok d => rw [q] at h; exact h
      | exc x => rw [q] at h; exact h
      | stuck => rw [q] at h; exact h
    refine (WPr.bind h').imp (Same.refl H) fun d q v H1 s1 r1 => ?_
    by_cases hd : isL d = true
    · rw [if_pos hd] at q
      have tv : tyV X.K "list" v H1 := by
        cases r1 with
        | lst h _ => exact .inl ⟨rfl, _, SqL.of h⟩
        | scr h => exact .inl ⟨rfl, _, h⟩
        | _ => cases hd
      refine ⟨tv, en, he.mono s1, (WPr.bind (g := fun e => f d e) q).imp s1 fun e2 q2 u H2 s2 r2 => ?_⟩
      obtain ⟨z, ez, pz⟩ := WPr.calm (hcm d e2) q2
      exact hr H2 v u d e2 Q (r1.mono s2) r2 ⟨z, ez, pz.mono (s1.trans s2)⟩
    · rw [if_neg hd] at q
      exact q.elim⟩
theorem j_index {n : Nat} {apos cpos : Pos} (hrm : Room n X.A) (ho : J X Y W .r o fa) (ha : J X Y W .r e fb)
    (hbase : attributeBase o "index" X.env (eval o X.env) = eval o X.env := by rfl)
    (hfew : ((backTo cpos (starEach (e :: []) X.env)).all (fun x => !x.1) && (backToKw cpos (keywordEach [] X.env)).all (fun x => x.1.isSome)
      && decide ((e :: []).length + ([] : List Keyword).length + (if ([] : List Keyword).isEmpty then 0 else 1) < 30)) = true := by rfl)
    (hline : (apos.endLine == cpos.line) = true := by rfl) (hs : starEach (e :: []) X.env = (false, eval e X.env) :: starEach [] X.env := by rfl) (hplain : (backTo cpos (starEach [] X.env)).any (·.1) = false := by rfl) :
    J X Y W k (.Call (.Attribute o "index" apos) [e] [] cpos) (x2 oIndex (xL fa) fb) :=
  j_m1 F.slot_list_index (by with_unfolding_all rfl) (mt_indexD (Room.units65 hrm)) (calm2_ite fun d e => by unfold oIndex; split <;> (try split) <;> simp) (fun H x y d e Q rx ry ⟨z, hz, po⟩ => by
    unfold oIndex at hz
    split at hz
    · rename_i h
      simp only [Bool.and_eq_true] at h
      split at hz
      · rename_i j hj
        cases hz
        obtain ⟨p1, p2⟩ := dp_l rx h.2.1 h.2.2
        have hj' := List.findIdx?_eq_some_iff_getElem.mp hj
        obtain ⟨hlt, ht, hno⟩ := hj'
        cases rx with
        | lst hl rr => exact ⟨_, _, _, _, j, _, rfl, rfl, p1, ry.dp (shp_lay h.1), p2, h.1, List.getElem?_eq_getElem hlt, ht, fun m z hm hz => by
            have := hno m hm
            rw [(List.getElem?_eq_some_iff.mp hz).2] at this
            simpa using this, po.pure (Same.refl H) .int (pureD_int _)⟩
        | scr hl => exact ⟨_, _, _, _, j, _, rfl, rfl, p1, ry.dp (shp_lay h.1), p2, h.1, List.getElem?_eq_getElem hlt, ht, fun m z hm hz => by
            have := hno m hm
            rw [(List.getElem?_eq_some_iff.mp hz).2] at this
            simpa using this, po.pure (Same.refl H) .int (pureD_int _)⟩
        | _ => cases h.2.1
      · cases hz
    · cases hz) ho ha hbase hfew hline hs hplain
theorem j_count {apos cpos : Pos} (ho : J X Y W .r o fa) (ha : J X Y W .r e fb)
    (hbase : attributeBase o "count" X.env (eval o X.env) = eval o X.env := by rfl)
    (hfew : ((backTo cpos (starEach (e :: []) X.env)).all (fun x => !x.1) && (backToKw cpos (keywordEach [] X.env)).all (fun x => x.1.isSome)
      && decide ((e :: []).length + ([] : List Keyword).length + (if ([] : List Keyword).isEmpty then 0 else 1) < 30)) = true := by rfl)
    (hline : (apos.endLine == cpos.line) = true := by rfl) (hs : starEach (e :: []) X.env = (false, eval e X.env) :: starEach [] X.env := by rfl) (hplain : (backTo cpos (starEach [] X.env)).any (·.1) = false := by rfl) :
    J X Y W k (.Call (.Attribute o "count" apos) [e] [] cpos) (x2 oCount (xL fa) fb) :=
  j_m1 F.slot_list_count (by with_unfolding_all rfl) mt_lcount (calm2_ite fun d e => by unfold oCount; split <;> simp) (fun H x y d e Q rx ry ⟨z, hz, po⟩ => by
    unfold oCount at hz
    split at hz
    · rename_i ns kk hn _
      cases hz
      obtain ⟨p, rfl, hs⟩ := ilD_rep rx hn
      cases ry
      exact ⟨p, ns, kk, rfl, rfl, hs, po.pure (Same.refl H) .int (pureD_int _)⟩
    · cases hz) ho ha hbase hfew hline hs hplain
/-! builtins of a list -/
theorem jn_sort (hg : Gl X "sorted") (hm : X.mg "sorted" = none) (ha : J X Y W .r a fa) (hs : starEach (a :: []) X.env = (false, eval a X.env) :: starEach [] X.env := by rfl) (hpl : (backTo pos (starEach [] X.env)).any (·.1) = false := by rfl) : J X Y W .n (.Call (.Name "sorted" p) [a] [] pos) (x1 oSort fa) :=
  j_cb1 cr_sortedI (fun H v d Q r ⟨z, hz, po⟩ => by
    unfold oSort at hz
    split at hz
    · rename_i ns hn
      cases hz
      obtain ⟨q, rfl, hq⟩ := ilD_rep r hn
      refine ⟨q, ns, rfl, hq, fun ns' l h1 h2 h3 => ?_⟩
      have e : ns' = ns.mergeSort fun a b => decide (a ≤ b) := by
        refine List.Perm.eq_of_pairwise (le := fun a b => a ≤ b) (fun a b _ _ x y => Int.le_antisymm x y) h2 ?_ (h1.trans (List.mergeSort_perm ns _).symm)
        have := List.pairwise_mergeSort (le := fun a b : Int => decide (a ≤ b)) (fun a b c h1 h2 => by simp at *; omega) (fun a b => by simp; omega) ns
        exact this.imp (by simp)
      subst e
      exact po _ _ [l] (same_new h3) (own_ints h3) (List.nodup_cons.mpr ⟨List.not_mem_nil, .nil⟩) (fun p hp => by cases List.mem_singleton.mp hp; exact h3)
    · cases hz) (calm1_ite fun d => by unfold oSort; split <;> simp) hg hm (by decide +kernel) ha (by decide) (by decide) hs hpl
theorem j_sum (hc : X.calm = true) (hg : Gl X "sum") (hm : X.mg "sum" = none) (ha : J X Y W .r a fa) (hs : starEach (a :: []) X.env = (false, eval a X.env) :: starEach [] X.env := by rfl) (hpl : (backTo pos (starEach [] X.env)).any (·.1) = false := by rfl) : J X Y W k (.Call (.Name "sum" p) [a] [] pos) (x1 oSum fa) :=
  j_cb1 (cr_sum hc) (fun H v d Q r ⟨z, hz, po⟩ => by
    unfold oSum at hz
    split at hz
    · rename_i ns hn
      cases hz
      obtain ⟨q, rfl, hq⟩ := ilD_rep r hn
      exact ⟨q, ns, rfl, hq, po.pure (Same.refl H) .int (pureD_int _)⟩
    · cases hz) (calm1_ite fun d => by unfold oSum; split <;> simp) hg hm (by decide +kernel) ha (by decide) (by decide) hs hpl
theorem j_minL (hc : X.calm = true) (hg : Gl X "min") (hm : X.mg "min" = none) (ha : J X Y W .r a fa) (hs : starEach (a :: []) X.env = (false, eval a X.env) :: starEach [] X.env := by rfl) (hpl : (backTo pos (starEach [] X.env)).any (·.1) = false := by rfl) : J X Y W k (.Call (.Name "min" p) [a] [] pos) (x1 oMinL fa) :=
  j_cb1 (cr_min hc) (fun H v d Q r ⟨z, hz, po⟩ => by
    unfold oMinL at hz
    split at hz
    · rename_i n ns hn
      cases hz
      obtain ⟨q, rfl, hq⟩ := ilD_rep r hn
      refine ⟨q, _, rfl, hq, by simp, fun m h1 h2 => ?_⟩
      obtain ⟨h3, h4⟩ := minI_ok (n :: ns) (by simp)
      rw [Int.le_antisymm (h2 _ h3) (h4 _ h1)]
      exact po.pure (Same.refl H) .int (pureD_int _)
    · cases hz) (calm1_ite fun d => by unfold oMinL; split <;> simp) hg hm (by decide +kernel) ha (by decide) (by decide) hs hpl
theorem j_maxL (hc : X.calm = true) (hg : Gl X "max") (hm : X.mg "max" = none) (ha : J X Y W .r a fa) (hs : starEach (a :: []) X.env = (false, eval a X.env) :: starEach [] X.env := by rfl) (hpl : (backTo pos (starEach [] X.env)).any (·.1) = false := by rfl) : J X Y W k (.Call (.Name "max" p) [a] [] pos) (x1 oMaxL fa) :=
  j_cb1 (cr_max hc) (fun H v d Q r ⟨z, hz, po⟩ => by
    unfold oMaxL at hz
    split at hz
    · rename_i n ns hn
      cases hz
      obtain ⟨q, rfl, hq⟩ := ilD_rep r hn
      refine ⟨q, _, rfl, hq, by simp, fun m h1 h2 => ?_⟩
      obtain ⟨h3, h4⟩ := maxI_ok (n :: ns) (by simp)
      rw [Int.le_antisymm (h4 _ h1) (h2 _ h3)]
      exact po.pure (Same.refl H) .int (pureD_int _)
    · cases hz) (calm1_ite fun d => by unfold oMaxL; split <;> simp) hg hm (by decide +kernel) ha (by decide) (by decide) hs hpl
end
end Ow
end
section
set_option linter.all false
set_option maxRecDepth 100000
set_option maxHeartbeats 2000000
/-! Ow16: dicts. -/
namespace Ow
open PySem L2 PySem.Spec
section
variable {κ : Type} [DecidableEq κ]
def getK (kvs : List (κ × D)) (k : κ) : Option D := (kvs.find? fun kv => decide (kv.1 = k)).map (·.2)
def putD (kvs : List (κ × D)) (k : κ) (d : D) : List (κ × D) :=
  if (kvs.any fun kv => decide (kv.1 = k)) = true then kvs.map (fun kv => if kv.1 = k then (kv.1, d) else kv) else kvs ++ [(k, d)]
end
section
variable {K : PySem.W.Frag} {Y : Cl} {H : Hp}
theorem inl_inj : ∀ {a b : List Int}, (a.map Sum.inl : List Key) = b.map Sum.inl → a = b
  | [], [], _ => rfl
  | [], _ :: _, h => by cases h
  | _ :: _, [], h => by cases h
  | x :: a, y :: b, h => by
    rw [List.map_cons, List.map_cons] at h
    have h1 := (List.cons.inj h).1
    have h2 := inl_inj (List.cons.inj h).2
    rw [Sum.inl.inj h1, h2]
theorem RepI.get {k : Int} : ∀ {vs : List (Key × V)} {ds : List (Int × D)}, RepI K Y H vs ds → (getK ds k = none ∧ valV vs (.inl k) = none) ∨ ∃ v d, getK ds k = some d ∧ valV vs (.inl k) = some v ∧ Rep K Y H v d ∧ pureD d = true
  | _, _, .nil => .inl ⟨rfl, rfl⟩
  | _, _, .cons (i := i) (v := v) (d := d) (ds := ds) r p t => by
    by_cases e : i = k
    · subst e
      refine .inr ⟨v, d, by simp [getK], valV_pos rfl, r, p⟩
    · have e' : ¬ ((Sum.inl i : Key), v).1 = .inl k := fun z => e (Sum.inl.inj z)
      rw [valV_neg e']
      have : getK ((i, d) :: ds) k = getK ds k := by
        unfold getK
        rw [List.find?_cons_of_neg (by simpa using e)]
      rw [this]
      exact RepI.get t
theorem RepT.get {k : List Int} : ∀ {vs : List (List Key × V)} {ds : List (List Int × D)}, RepT K Y H vs ds → (getK ds k = none ∧ valV vs (k.map .inl) = none) ∨ ∃ v d, getK ds k = some d ∧ valV vs (k.map .inl) = some v ∧ Rep K Y H v d ∧ pureD d = true
  | _, _, .nil => .inl ⟨rfl, rfl⟩
  | _, _, .cons (is := i) (v := v) (d := d) (ds := ds) r p t => by
    by_cases e : i = k
    · subst e
      refine .inr ⟨v, d, by simp [getK], valV_pos rfl, r, p⟩
    · have e' : ¬ ((i.map .inl : List Key), v).1 = k.map .inl := fun z => e (inl_inj z)
      rw [valV_neg e']
      have : getK ((i, d) :: ds) k = getK ds k := by
        unfold getK
        rw [List.find?_cons_of_neg (by simpa using e)]
      rw [this]
      exact RepT.get t
theorem RepI.any {k : Int} : ∀ {vs : List (Key × V)} {ds : List (Int × D)}, RepI K Y H vs ds → (vs.any fun kv => decide (kv.1 = .inl k)) = ds.any fun kv => decide (kv.1 = k)
  | _, _, .nil => rfl
  | _, _, .cons (i := i) r p t => by
    rw [List.any_cons, List.any_cons, RepI.any t]
    congr 1
    exact decide_eq_decide.mpr ⟨fun z => Sum.inl.inj z, fun z => congrArg Sum.inl z⟩
theorem RepT.any {k : List Int} : ∀ {vs : List (List Key × V)} {ds : List (List Int × D)}, RepT K Y H vs ds → (vs.any fun kv => decide (kv.1 = k.map .inl)) = ds.any fun kv => decide (kv.1 = k)
  | _, _, .nil => rfl
  | _, _, .cons (is := i) r p t => by
    rw [List.any_cons, List.any_cons, RepT.any t]
    congr 1
    exact decide_eq_decide.mpr ⟨fun z => inl_inj z, fun z => congrArg (List.map Sum.inl) z⟩
theorem RepI.map {k : Int} {v : V} {d : D} (r0 : Rep K Y H v d) (p0 : pureD d = true) : ∀ {vs : List (Key × V)} {ds : List (Int × D)}, RepI K Y H vs ds → RepI K Y H (vs.map fun kv => if kv.1 = .inl k then (kv.1, v) else kv) (ds.map fun kv => if kv.1 = k then (kv.1, d) else kv)
  | _, _, .nil => .nil
  | _, _, .cons (i := i) r p t => by
    rw [List.map_cons, List.map_cons]
    by_cases e : i = k
    · subst e
      rw [if_pos rfl, if_pos rfl]
      exact .cons r0 p0 (RepI.map r0 p0 t)
    · rw [if_neg (fun z => e (Sum.inl.inj z)), if_neg e]
      exact .cons r p (RepI.map r0 p0 t)
theorem RepT.map {k : List Int} {v : V} {d : D} (r0 : Rep K Y H v d) (p0 : pureD d = true) : ∀ {vs : List (List Key × V)} {ds : List (List Int × D)}, RepT K Y H vs ds → RepT K Y H (vs.map fun kv => if kv.1 = k.map .inl then (kv.1, v) else kv) (ds.map fun kv => if kv.1 = k then (kv.1, d) else kv)
  | _, _, .nil => .nil
  | _, _, .cons (is := i) r p t => by
    rw [List.map_cons, List.map_cons]
    by_cases e : i = k
    · subst e
      rw [if_pos rfl, if_pos rfl]
      exact .cons r0 p0 (RepT.map r0 p0 t)
    · rw [if_neg (fun z => e (inl_inj z)), if_neg e]
      exact .cons r p (RepT.map r0 p0 t)
theorem RepI.app {k : Int} {v : V} {d : D} (r0 : Rep K Y H v d) (p0 : pureD d = true) : ∀ {vs : List (Key × V)} {ds : List (Int × D)}, RepI K Y H vs ds → RepI K Y H (vs ++ [(.inl k, v)]) (ds ++ [(k, d)])
  | _, _, .nil => .cons r0 p0 .nil
  | _, _, .cons r p t => .cons r p (RepI.app r0 p0 t)
theorem RepT.app {k : List Int} {v : V} {d : D} (r0 : Rep K Y H v d) (p0 : pureD d = true) : ∀ {vs : List (List Key × V)} {ds : List (List Int × D)}, RepT K Y H vs ds → RepT K Y H (vs ++ [(k.map .inl, v)]) (ds ++ [(k, d)])
  | _, _, .nil => .cons r0 p0 .nil
  | _, _, .cons r p t => .cons r p (RepT.app r0 p0 t)
theorem RepI.put {k : Int} {v : V} {d : D} (r0 : Rep K Y H v d) (p0 : pureD d = true) {vs : List (Key × V)} {ds : List (Int × D)} (h : RepI K Y H vs ds) : RepI K Y H (putK vs (.inl k) v) (putD ds k d) := by
  unfold putK putD
  rw [h.any]
  split
  · exact h.map r0 p0
  · exact h.app r0 p0
theorem RepT.put {k : List Int} {v : V} {d : D} (r0 : Rep K Y H v d) (p0 : pureD d = true) {vs : List (List Key × V)} {ds : List (List Int × D)} (h : RepT K Y H vs ds) : RepT K Y H (putK vs (k.map .inl) v) (putD ds k d) := by
  unfold putK putD
  rw [h.any]
  split
  · exact h.map r0 p0
  · exact h.app r0 p0
theorem RepI.length : ∀ {vs : List (Key × V)} {ds : List (Int × D)}, RepI K Y H vs ds → vs.length = ds.length
  | _, _, .nil => rfl
  | _, _, .cons _ _ t => congrArg (· + 1) (RepI.length t)
theorem RepT.length : ∀ {vs : List (List Key × V)} {ds : List (List Int × D)}, RepT K Y H vs ds → vs.length = ds.length
  | _, _, .nil => rfl
  | _, _, .cons _ _ t => congrArg (· + 1) (RepT.length t)
end
/-! words -/
def oGetI : D → D → Res D := fun d k => match d, k with
  | .dI kvs, .int k => match getK kvs k with
    | some d => .ok d
    | none => .stuck
  | _, _ => .stuck
def oInDI : D → D → Res D := fun k d => match k, d with
  | .int k, .dI kvs => .ok (.bl (getK kvs k).isSome)
  | _, _ => .stuck
def oNinDI : D → D → Res D := fun k d => match k, d with
  | .int k, .dI kvs => .ok (.bl (!(getK kvs k).isSome))
  | _, _ => .stuck
def oLenD : D → Res D := fun d => match d with
  | .dI kvs => .ok (.int kvs.length)
  | _ => .stuck
/-- a tuple of whole numbers as a key -/
def tupK : D → Option (List Int)
  | .tup ds => intsOf ds
  | _ => none
def oGetT : D → D → Res D := fun d k => match d, tupK k with
  | .dT kvs, some k => match getK kvs k with
    | some d => .ok d
    | none => .stuck
  | _, _ => .stuck
def oInDT : D → D → Res D := fun k d => match tupK k, d with
  | some k, .dT kvs => .ok (.bl (getK kvs k).isSome)
  | _, _ => .stuck
def oNinDT : D → D → Res D := fun k d => match tupK k, d with
  | some k, .dT kvs => .ok (.bl (!(getK kvs k).isSome))
  | _, _ => .stuck
section
variable {X : Cx} {Y : Cl} {W : Wh} {k : Kd} {a b o e : Expr} {es : List Expr} {fa fb fo fe : En → Res D} {fs : En → Res (List D)} {pos p : Pos}
theorem jn_dI : J X Y W .n (.Dict [] [] pos) (xC (.dI [])) := PE.imp pe_dnewK fun σ H Q ⟨en, he, h⟩ => fun p hp => h (.ref p) _ [p] (same_new hp) (.dI upd_same .nil) (List.nodup_cons.mpr ⟨List.not_mem_nil, .nil⟩) (fun q hq => by cases List.mem_singleton.mp hq; exact hp)
theorem jn_dT : J X Y W .n (.Dict [] [] pos) (xC (.dT [])) := PE.imp pe_dnewT fun σ H Q ⟨en, he, h⟩ => fun p hp => h (.ref p) _ [p] (same_new hp) (.dT upd_same .nil) (List.nodup_cons.mpr ⟨List.not_mem_nil, .nil⟩) (fun q hq => by cases List.mem_singleton.mp hq; exact hp)
theorem j_getI {n : Nat} (hr : Room n X.A) (ho : J X Y W .r o fo) (ha : J X Y W .r a fa) (hs : NoSl a := by trivial) : J X Y W .r (.Subscript o a pos) (x2 oGetI fo fa) :=
  PE.imp (pe_dget (by have := hr.units; omega) ho ha hs) fun σ H Q ⟨en, he, h⟩ => ⟨en, he, (WPr.bind h).imp (Same.refl H) fun d q v H1 s1 r1 => by
    refine ⟨en, he.mono s1, (WPr.bind (g := fun e => oGetI d e) q).imp s1 fun e2 q2 u H2 s2 r2 => ?_⟩
    unfold oGetI at q2
    split at q2
    · rename_i kvs kk
      split at q2
      · rename_i z hz
        have r1' := r1.mono s2
        cases r2
        cases r1' with
        | dI hd rr =>
          rcases rr.get (k := kk) with ⟨z1, _⟩ | ⟨v3, d3, g1, g2, g3, _⟩
          · rw [hz] at z1; cases z1
          · rw [hz] at g1
            cases g1
            have q2 : Po X.K Y .r z H Q := q2
            refine ⟨_, v3, rfl, ?_, q2 v3 H2 (s1.trans s2) g3⟩
            rw [← g2]
            exact DGet.k (k := .inl kk) hd
      · exact q2.elim
    · exact q2.elim⟩
theorem tIn_core {K : PySem.W.Frag} {σ : St} {H : Hp} {Q : VK} {neg : Bool} {op : D → D → Res D} (hop : ∀ k d, op k d = (match k, d with
      | .int k, .dI kvs => .ok (.bl (if neg = true then !(getK kvs k).isSome else (getK kvs k).isSome))
      | _, _ => .stuck)) (h : tJ K Y W k (x2 op fa fo) σ H Q) :
    tJ K Y W .r fa σ H fun y H1 => tJ K Y W .r fo σ H1 fun x H2 => ∃ a o, x = .ref a ∧ DGet H2 a y o ∧ Q (.bl (if neg = true then !o.isSome else o.isSome)) H2 := by
  obtain ⟨en, he, h⟩ := h
  refine ⟨en, he, (WPr.bind h).imp (Same.refl H) fun d q v H1 s1 r1 => ?_⟩
  refine ⟨en, he.mono s1, (WPr.bind (g := fun e => op d e) q).imp s1 fun e2 q2 u H2 s2 r2 => ?_⟩
  rw [hop] at q2
  split at q2
  · rename_i kk kvs
    cases r1
    cases r2 with
    | @dI _ kvs0 _ hd rr =>
      have q2 : Po K Y k (.bl (if neg = true then !(getK kvs kk).isSome else (getK kvs kk).isSome)) H Q := q2
      refine ⟨_, valV kvs0 (.inl kk), rfl, DGet.k (k := .inl kk) hd, ?_⟩
      have e : (valV kvs0 (.inl kk)).isSome = (getK kvs kk).isSome := by
        rcases rr.get (k := kk) with ⟨z1, z2⟩ | ⟨v3, d3, g1, g2, g3, _⟩
        · rw [z1, z2]; rfl
        · rw [g1, g2]; rfl
      rw [e]
      exact q2.pure (s1.trans s2) .bl (pureD_bl _)
  · exact q2.elim
theorem j_inDI {n : Nat} (hr : Room n X.A) (ha : J X Y W .r a fa) (ho : J X Y W .r o fo) (hm : behindInMarks .In o = false := by rfl) : J X Y W k (.Compare a [.In] [o] pos) (x2 oInDI fa fo) :=
  PE.imp (pe_cmp (pc_din (by have := hr.units; omega) ha ho) hm) fun σ H Q h => tIn_core (neg := false) (fun k d => by cases k <;> cases d <;> rfl) h
theorem j_ninDI {n : Nat} (hr : Room n X.A) (ha : J X Y W .r a fa) (ho : J X Y W .r o fo) (hm : behindInMarks .NotIn o = false := by rfl) : J X Y W k (.Compare a [.NotIn] [o] pos) (x2 oNinDI fa fo) :=
  PE.imp (pe_cmp (pc_dnotin (by have := hr.units; omega) ha ho) hm) fun σ H Q h => tIn_core (neg := true) (fun k d => by cases k <;> cases d <;> rfl) h
theorem tb_core {K : PySem.W.Frag} {σ : St} {H : Hp} {Q : Bool → Hp → Prop} {f : En → Res D} (h : tT K Y W (tBl f) σ H Q) : tJ K Y W .r f σ H fun v H' => ∃ b, v = .bl b ∧ Q b H' := by
  obtain ⟨en, he, h⟩ := h
  refine ⟨en, he, (WPr.bind h).imp (Same.refl H) fun d q v H1 s1 r1 => ?_⟩
  cases r1 with
  | @bl b => exact ⟨b, rfl, q H1 s1⟩
  | _ => exact q.elim
theorem t_inDI {n : Nat} (hr : Room n X.A) (ha : J X Y W .r a fa) (ho : J X Y W .r o fo) (hm : behindInMarks .In o = false := by rfl) : T X Y W (.Compare a [.In] [o] pos) (tBl (x2 oInDI fa fo)) :=
  PT.imp (pt_cmp (pc_din (by have := hr.units; omega) ha ho) hm) fun σ H Q h => tIn_core (neg := false) (fun k d => by cases k <;> cases d <;> rfl) (tb_core h)
theorem t_ninDI {n : Nat} (hr : Room n X.A) (ha : J X Y W .r a fa) (ho : J X Y W .r o fo) (hm : behindInMarks .NotIn o = false := by rfl) : T X Y W (.Compare a [.NotIn] [o] pos) (tBl (x2 oNinDI fa fo)) :=
  PT.imp (pt_cmp (pc_dnotin (by have := hr.units; omega) ha ho) hm) fun σ H Q h => tIn_core (neg := true) (fun k d => by cases k <;> cases d <;> rfl) (tb_core h)
theorem oLenD_calm : Calm1 oLenD := calm1_ite fun d => by unfold oLenD; split <;> simp
theorem j_lenD (hg : Gl X "len") (hm : X.mg "len" = none) (ha : J X Y W .r a fa) (hs : starEach (a :: []) X.env = (false, eval a X.env) :: starEach [] X.env := by rfl) (hpl : (backTo pos (starEach [] X.env)).any (·.1) = false := by rfl) : J X Y W k (.Call (.Name "len" p) [a] [] pos) (x1 oLenD fa) :=
  j_cb1 call_lenD (fun H v d Q r ⟨z, hz, po⟩ => by
    unfold oLenD at hz
    split at hz
    · cases hz
      cases r with
      | dI h q => exact ⟨_, _, rfl, h, by rw [q.length]; exact po.pure (Same.refl H) .int (pureD_int _)⟩
    · cases hz) oLenD_calm hg hm (by decide +kernel) ha (by decide) (by decide) hs hpl
/-! keys that are tuples, written where they are used -/
def JK (X : Cx) (Y : Cl) (W : Wh) (e : Expr) (f : En → Res D) : Prop := PE X e fun σ H Q => ∃ en, EnOk X.K Y H σ en ∧ WPr X.K Y W σ H (f en) fun d => ∀ b is H', Same H H' → tupK d = some is → H' b = some (.tup (is.map V.int)) → Q (.ref b) H'
def xKey (f : En → Res (List D)) : En → Res D := fun en => f en >>= fun ds => match intsOf ds with
  | some (i :: is) => if szOk ds.length = true then .ok (.tup ds) else .stuck
  | _ => .stuck
theorem jk_tup {x1 : Nat} (h : A X Y W es fs) : JK X Y W (.Tuple es x1 pos) (xKey fs) :=
  PE.imp (pe_tup h) fun σ H Q ⟨en, he, h⟩ => ⟨en, he, (WPr.bind h).imp (Same.refl H) fun ds p => by
    intro vs H' s r _
    split at p
    · rename_i i is hi
      split at p
      · rename_i hz
        have e0 := intsOf_map hi
        subst e0
        have ev := r.ints
        refine ⟨by rw [r.length]; exact szOk_le hz, fun q hq => ?_⟩
        have s2 : Same H' (upd H' q (.tup vs)) := fun b o e => by rw [upd_ne (ne_of_none e hq)]; exact e
        have p : ∀ b is' H', Same H H' → tupK (.tup ((i :: is).map D.int)) = some is' → H' b = some (.tup (is'.map V.int)) → Q (.ref b) H' := p
        refine p q (i :: is) _ (s.trans s2) (intsOf_ints _) ?_
        rw [ev]
        exact upd_same
      · exact p.elim
    · exact p.elim⟩
theorem tInT_core {K : PySem.W.Frag} {σ : St} {H : Hp} {Q : VK} {neg : Bool} {op : D → D → Res D} (hop : ∀ k d, op k d = (match tupK k, d with
      | some k, .dT kvs => .ok (.bl (if neg = true then !(getK kvs k).isSome else (getK kvs k).isSome))
      | _, _ => .stuck)) (h : tJ K Y W k (x2 op fa fo) σ H Q) :
    (∃ en, EnOk K Y H σ en ∧ WPr K Y W σ H (fa en) fun d => ∀ b is H', Same H H' → tupK d = some is → H' b = some (.tup (is.map V.int)) → (fun y H1 => tJ K Y W .r fo σ H1 fun x H2 => ∃ a o, x = .ref a ∧ DGet H2 a y o ∧ Q (.bl (if neg = true then !o.isSome else o.isSome)) H2) (.ref b) H') := by
  obtain ⟨en, he, h⟩ := h
  refine ⟨en, he, (WPr.bind h).imp (Same.refl H) fun d q b is H1 s1 e1 hb => ?_⟩
  refine ⟨en, he.mono s1, (WPr.bind (g := fun e => op d e) q).imp s1 fun e2 q2 u H2 s2 r2 => ?_⟩
  rw [hop, e1] at q2
  split at q2
  · rename_i kk kvs hk
    cases hk
    cases r2 with
    | @dT _ kvs0 _ hd rr =>
      have q2 : Po K Y k (.bl (if neg = true then !(getK kvs is).isSome else (getK kvs is).isSome)) H Q := q2
      have hb2 : H2 b = some (.tup ((is.map Sum.inl).map kV)) := by
        have := s2 _ _ hb
        rw [this]
        simp [kV, Function.comp_def]
      refine ⟨_, valV kvs0 (is.map .inl), rfl, DGet.t hd hb2, ?_⟩
      have e : (valV kvs0 (is.map .inl)).isSome = (getK kvs is).isSome := by
        rcases rr.get (k := is) with ⟨z1, z2⟩ | ⟨v3, d3, g1, g2, g3, _⟩
        · rw [z1, z2]; rfl
        · rw [g1, g2]; rfl
      rw [e]
      exact q2.pure (s1.trans s2) .bl (pureD_bl _)
  · exact q2.elim
theorem j_inDT {n : Nat} (hr : Room n X.A) (ha : JK X Y W a fa) (ho : J X Y W .r o fo) (hm : behindInMarks .In o = false := by rfl) : J X Y W k (.Compare a [.In] [o] pos) (x2 oInDT fa fo) :=
  PE.imp (pe_cmp (pc_din (by have := hr.units; omega) ha ho) hm) fun σ H Q h => tInT_core (neg := false) (fun k d => by unfold oInDT; split <;> simp_all) h
theorem j_ninDT {n : Nat} (hr : Room n X.A) (ha : JK X Y W a fa) (ho : J X Y W .r o fo) (hm : behindInMarks .NotIn o = false := by rfl) : J X Y W k (.Compare a [.NotIn] [o] pos) (x2 oNinDT fa fo) :=
  PE.imp (pe_cmp (pc_dnotin (by have := hr.units; omega) ha ho) hm) fun σ H Q h => tInT_core (neg := true) (fun k d => by unfold oNinDT; split <;> simp_all) h
theorem t_inDT {n : Nat} (hr : Room n X.A) (ha : JK X Y W a fa) (ho : J X Y W .r o fo) (hm : behindInMarks .In o = false := by rfl) : T X Y W (.Compare a [.In] [o] pos) (tBl (x2 oInDT fa fo)) :=
  PT.imp (pt_cmp (pc_din (by have := hr.units; omega) ha ho) hm) fun σ H Q h => tInT_core (neg := false) (fun k d => by unfold oInDT; split <;> simp_all) (tb_core h)
theorem t_ninDT {n : Nat} (hr : Room n X.A) (ha : JK X Y W a fa) (ho : J X Y W .r o fo) (hm : behindInMarks .NotIn o = false := by rfl) : T X Y W (.Compare a [.NotIn] [o] pos) (tBl (x2 oNinDT fa fo)) :=
  PT.imp (pt_cmp (pc_dnotin (by have := hr.units; omega) ha ho) hm) fun σ H Q h => tInT_core (neg := true) (fun k d => by unfold oNinDT; split <;> simp_all) (tb_core h)
theorem j_getT {n : Nat} (hr : Room n X.A) (ho : J X Y W .r o fo) (ha : JK X Y W a fa) (hs : NoSl a := by trivial) : J X Y W .r (.Subscript o a pos) (x2 oGetT fo fa) :=
  PE.imp (pe_dget (by have := hr.units; omega) ho ha hs) fun σ H Q ⟨en, he, h⟩ => ⟨en, he, (WPr.bind h).imp (Same.refl H) fun d q v H1 s1 r1 => by
    refine ⟨en, he.mono s1, (WPr.bind (g := fun e => oGetT d e) q).imp s1 fun e2 q2 b is H2 s2 e1 hb => ?_⟩
    unfold oGetT at q2
    rw [e1] at q2
    split at q2
    · rename_i kvs kk hk
      cases hk
      split at q2
      · rename_i z hz
        have r1' := r1.mono s2
        cases r1' with
        | @dT _ kvs0 _ hd rr =>
          rcases rr.get (k := is) with ⟨z1, _⟩ | ⟨v3, d3, g1, g2, g3, _⟩
          · rw [hz] at z1; cases z1
          · rw [hz] at g1
            cases g1
            have q2 : Po X.K Y .r z H Q := q2
            have hb2 : H2 b = some (.tup ((is.map Sum.inl).map kV)) := by
              rw [hb]
              simp [kV, Function.comp_def]
            refine ⟨_, v3, rfl, ?_, q2 v3 H2 (s1.trans s2) g3⟩
            rw [← g2]
            exact DGet.t hd hb2
      · exact q2.elim
    · exact q2.elim⟩
end
/-! ### d[k] = v -/
def sPutI (v : Nat) (f g : En → Res D) : List Slot → Res Fl := fun S => f (en S) >>= fun d => match S[v]? with
  | some (.own (.dI kvs)) => g (en S) >>= fun k => match k with
    | .int k => if (pureD d && szOk (kvs.length + 1)) = true then .ok (.nx (setS S v (.own (.dI (putD kvs k d))))) else .stuck
    | _ => .stuck
  | _ => .stuck
def sPutT (v : Nat) (f g : En → Res D) : List Slot → Res Fl := fun S => f (en S) >>= fun d => match S[v]? with
  | some (.own (.dT kvs)) => g (en S) >>= fun k => match tupK k with
    | some k => if (pureD d && szOk (kvs.length + 1)) = true then .ok (.nx (setS S v (.own (.dT (putD kvs k d))))) else .stuck
    | _ => .stuck
  | _ => .stuck
section
variable {X : Cx} {Y : Cl} {W : Wh} {M : Md} {a e : Expr} {fa fe : En → Res D} {pos p p' : Pos}
theorem s_putI (v : Nat) {x : Str} {n : Nat} (hr : Room n X.A) (he : J X Y W .r e fe) (ha : J X Y W .r a fa) (hN : X.N[v]? = some x := by rfl) (hv : Vis X.env.scope x := by first | exact Or.inl rfl | exact Or.inr (Or.inl rfl) | exact Or.inr (Or.inr rfl)) (hd : (x == ("__debug__" : Str)) = false := by decide) (hcd : (x == ("__classdict__" : Str)) = false := by decide)
    (hs : swapsWith e (some (.Subscript (.Name x p) a p')) pos.line X.env = pure false := by rfl) : JS X Y W M (.Assign [.Subscript (.Name x p) a p'] e pos) (sPutI v fe fa) :=
  PS.imp (ps_dput (by have := hr.units; omega) (pe_var hN hv hd hcd) ha he hs) fun D' σ H ⟨F, S, s, h⟩ => by
    refine ⟨en S, s.en, (WPs.bindG (σ := σ) h s.same).imp (Same.refl H) fun d q u H1 s1 r1 => ?_⟩
    split at q
    · rename_i kvs qs
      obtain ⟨w, fl, hw, o, nd, _, cl⟩ := (s.ext s1).mut qs
      refine ⟨w, hw, en S, (s.ext s1).en, (WPs.bindG (σ := σ) q (s.same.trans s1)).imp (Same.refl H1) fun d2 q2 v2 H2 s2 r2 => ?_⟩
      cases r2 with
      | @int k =>
        have q2 : WPs X.K Y W M F D' σ (if (pureD d && szOk (kvs.length + 1)) = true then .ok (.nx (setS S v (.own (.dI (putD kvs k d))))) else .stuck) := q2
        split at q2
        · rename_i hz
          have hz := Bool.and_eq_true_iff.mp hz
          cases o with
          | pur hp _ => rw [pureD] at hp; cases hp
          | @dI p0 ks _ hk rr =>
            have hk2 := s2 _ _ hk
            have rr2 : RepI X.K Y H2 ks kvs := rr.mono s2
            have hl := rr2.length
            refine ⟨p0, _, rfl, DPut.k (k := .inl k) (v := u) hk2 ?_, q2 σ _ (cl _ (.dI (putD kvs k d)) [p0] (fun q o hq ho => (out_upd (fl := [p0]) (List.mem_singleton.mpr rfl)) q o hq (s2 _ _ ho)) (.dI upd_same ?_) (List.nodup_cons.mpr ⟨List.not_mem_nil, .nil⟩) (fun q hq => .inl hq)).1 (Stay.refl M σ)⟩
            · have := szOk_lt (n := kvs.length) (by have := hz.2; unfold szOk at this ⊢; simp at this ⊢; omega)
              omega
            · have fx : Fix H2 (upd H2 p0 (.dK (putK ks (.inl k) u))) := fix_upd hk2 rfl
              exact ((rr2.fix fx).put ((r1.mono s2).fix fx hz.1) hz.1)
        · exact q2.elim
      | _ => exact q2.elim
    · exact q.elim
theorem s_putT (v : Nat) {x : Str} {n : Nat} (hr : Room n X.A) (he : J X Y W .r e fe) (ha : JK X Y W a fa) (hN : X.N[v]? = some x := by rfl) (hv : Vis X.env.scope x := by first | exact Or.inl rfl | exact Or.inr (Or.inl rfl) | exact Or.inr (Or.inr rfl)) (hd : (x == ("__debug__" : Str)) = false := by decide) (hcd : (x == ("__classdict__" : Str)) = false := by decide)
    (hs : swapsWith e (some (.Subscript (.Name x p) a p')) pos.line X.env = pure false := by rfl) : JS X Y W M (.Assign [.Subscript (.Name x p) a p'] e pos) (sPutT v fe fa) :=
  PS.imp (ps_dput (by have := hr.units; omega) (pe_var hN hv hd hcd) ha he hs) fun D' σ H ⟨F, S, s, h⟩ => by
    refine ⟨en S, s.en, (WPs.bindG (σ := σ) h s.same).imp (Same.refl H) fun d q u H1 s1 r1 => ?_⟩
    split at q
    · rename_i kvs qs
      obtain ⟨w, fl, hw, o, nd, _, cl⟩ := (s.ext s1).mut qs
      refine ⟨w, hw, en S, (s.ext s1).en, (WPs.bindG (σ := σ) q (s.same.trans s1)).imp (Same.refl H1) fun d2 q2 b is H2 s2 e2 hb => ?_⟩
      rw [e2] at q2
      have q2 : WPs X.K Y W M F D' σ (if (pureD d && szOk (kvs.length + 1)) = true then .ok (.nx (setS S v (.own (.dT (putD kvs is d))))) else .stuck) := q2
      split at q2
      · rename_i hz
        have hz := Bool.and_eq_true_iff.mp hz
        cases o with
        | pur hp _ => rw [pureD] at hp; cases hp
        | @dT p0 ks _ hk rr =>
          have hk2 := s2 _ _ hk
          have rr2 : RepT X.K Y H2 ks kvs := rr.mono s2
          have hl := rr2.length
          have hb2 : H2 b = some (.tup ((is.map Sum.inl).map kV)) := by
            rw [hb]
            simp [kV, Function.comp_def]
          refine ⟨p0, _, rfl, DPut.t (v := u) hk2 hb2 ?_, q2 σ _ (cl _ (.dT (putD kvs is d)) [p0] (fun q o hq ho => (out_upd (fl := [p0]) (List.mem_singleton.mpr rfl)) q o hq (s2 _ _ ho)) (.dT upd_same ?_) (List.nodup_cons.mpr ⟨List.not_mem_nil, .nil⟩) (fun q hq => .inl hq)).1 (Stay.refl M σ)⟩
          · have := szOk_lt (n := kvs.length) (by have := hz.2; unfold szOk at this ⊢; simp at this ⊢; omega)
            omega
          · have fx : Fix H2 (upd H2 p0 (.dT (putK ks (is.map .inl) u))) := fix_upd hk2 rfl
            exact ((rr2.fix fx).put ((r1.mono s2).fix fx hz.1) hz.1)
      · exact q2.elim
    · exact q.elim
end
end Ow
end
section
set_option linter.all false
set_option maxRecDepth 100000
set_option maxHeartbeats 2000000
/-! Ow17: an item set; names that share; pops; all frozen. -/
namespace Ow
open PySem L2 PySem.Spec
/-! ### x[i] = e -/
def sSetAt (loc : List Slot → Res Lc) (f g : En → Res D) : List Slot → Res Fl := fun S => f (en S) >>= fun d => loc S >>= fun lc => match getL S lc with
  | some (.lst ds) => g (en S) >>= fun k => match k with
    | .int k => match ixN ds.length k with
      | some j => .ok (.nx (putL false S (.lst (ds.set j d)) lc))
      | none => .stuck
    | _ => .stuck
  | _ => .stuck
section
variable {X : Cx} {Y : Cl} {W : Wh} {M : Md} {a e o : Expr} {fa fe : En → Res D} {loc : List Slot → Res Lc} {pos p p' : Pos}
theorem s_setAt (he : J X Y W .n e fe) (ho : JLc X Y W o loc) (ha : J X Y W .r a fa) (hs : swapsWithSole [.Subscript o a p'] e pos.line X.env = pure false := by rfl) (hw : swappedStores [.Subscript o a p'] e X.env = pure none := by rfl)
    (h1 : (assignEach [.Subscript o a p'] X.env).map (·.2) = [assign (.Subscript o a p') X.env] := by rfl) 
    (has : ∀ v, assign (.Subscript o a p') X.env v = (do
      let ov ← holding [v] (eval o X.env)
      let iv ← holding [v, ov] (eval a X.env)
      standAt p'
      holding [v, ov, iv] (setItem ov iv v)
      release [v, ov, iv] []) := by intro _; rfl) : JS X Y W M (.Assign [.Subscript o a p'] e pos) (sSetAt loc fe fa) :=
  PS.imp (ps_asg he (pg_sub ho ha set_list has) hs hw h1) fun D' σ H ⟨F, S, s, h⟩ => by
    refine ⟨en S, s.en, (WPs.bindG (σ := σ) h s.same).imp (Same.refl H) fun d q u H1 f s1 ou ndf fr => ?_⟩
    have S1 := s.ext s1
    refine ⟨F, S, S1, (WPs.bindG (σ := σ) q S1.same).imp (Same.refl H1) fun lc q2 v H2 s2 at_ => ?_⟩
    split at q2
    · rename_i ds qg
      have S2 := S1.ext s2
      refine ⟨en S, S2.en, (WPs.bindG (σ := σ) q2 S2.same).imp (Same.refl H2) fun k q3 w H3 s3 r3 => ?_⟩
      cases r3 with
      | @int k =>
        have q3 : WPs X.K Y W M F D' σ (match ixN ds.length k with
          | some j => .ok (.nx (putL false S (.lst (ds.set j d)) lc))
          | none => .stuck) := q3
        cases hj : ixN ds.length k with
        | none => rw [hj] at q3; exact q3.elim
        | some j =>
          rw [hj] at q3
          obtain ⟨v0, fl, av, ov, nd, _, cl⟩ := s.openL qg
          have ev : v0 = v := (av.same (s1.trans s2)).one at_
          subst ev
          obtain ⟨p0, vs, g, rfl, hp, ow, rfl⟩ := ov.lst_inv (p := 0)
          have hl := ow.length
          obtain ⟨_, hjl, _, _⟩ := ixN_seq hj
          have s03 := s1.trans (s2.trans s3)
          have s13 := s2.trans s3
          have hp3 := s03 _ _ hp
          have ow3 := ow.mono s03
          have ou3 := ou.mono s13
          obtain ⟨u', f1, f', f2, g1, g2, g3, g4⟩ := ow3.at_ (List.getElem?_eq_getElem hjl)
          subst g3
          have ndg := List.nodup_cons.mp nd
          have nd1 := List.nodup_append.mp ndg.2
          have nd2 := List.nodup_append.mp nd1.2.1
          have hpf : p0 ∉ f := fun z => by
            have := fr p0 z
            rw [hp] at this; cases this
          have fx : Fix H3 (upd H3 p0 (.lst (vs.set j u))) := fix_upd hp3 rfl
          have ou4 : Own X.K Y (upd H3 p0 (.lst (vs.set j u))) u d f := ou3.frame fx fun q hq => upd_ne fun z => hpf (z ▸ hq)
          have ow4 := g4 _ u d f ou4 fx fun q hq => upd_ne fun z => ndg.1 (by rw [← z]; rcases List.mem_append.mp hq with hq | hq <;> simp [hq])
          refine ⟨p0, vs, k, j, rfl, rfl, hp3, by rw [hl]; exact hj, q3 σ _ (cl false _ _ (p0 :: (f1 ++ (f ++ f2))) (fun q o hq ho => (out_upd (fl := p0 :: (f1 ++ (f' ++ f2))) List.mem_cons_self) q o hq (s03 _ _ ho)) (.lst upd_same ow4) ?_ ?_ (fun z => nomatch z)) (Stay.refl M σ)⟩
          · have old : ∀ q, q ∈ f1 ∨ q ∈ f2 → q ∉ f := fun q hq z => by
              obtain ⟨o, ho, _⟩ := ow.there q (by rcases hq with hq | hq <;> simp [hq])
              have := fr q z
              rw [ho] at this; cases this
            refine List.nodup_cons.mpr ⟨fun z => ?_, List.nodup_append.mpr ⟨nd1.1, List.nodup_append.mpr ⟨ndf, nd2.2.1, fun x hx y hy e => ?_⟩, fun x hx y hy e => ?_⟩⟩
            · rcases List.mem_append.mp z with z | z
              · exact ndg.1 (by simp [z])
              · rcases List.mem_append.mp z with z | z
                · exact hpf z
                · exact ndg.1 (by simp [z])
            · subst e; exact old x (.inr hy) hx
            · subst e
              rcases List.mem_append.mp hy with hy | hy
              · exact old x (.inl hx) hy
              · exact nd1.2.2 x hx x (by simp [hy]) rfl
          · intro q hq
            rcases List.mem_cons.mp hq with rfl | hq
            · exact .inl List.mem_cons_self
            · rcases List.mem_append.mp hq with hq | hq
              · exact .inl (by simp [hq])
              · rcases List.mem_append.mp hq with hq | hq
                · exact .inr (fr q hq)
                · exact .inl (by simp [hq])
      | _ => exact q3.elim
    · exact q2.elim
end
/-! ### names that share -/
def sAlV (i v : Nat) : List Slot → Res Fl := fun S => match S[v]? with
  | some (.fz d) => .ok (.nx (setS S i (.fz d)))
  | some (.own d) => if i = v then .stuck else .ok (.nx (setS (setS S v .un) i (.own d)))
  | some (.ali s j) => if s = i then .stuck else .ok (.nx (setS S i (.ali s j)))
  | _ => .stuck
def sAlP (i v : Nat) (f : En → Res D) : List Slot → Res Fl := fun S => match S[v]? with
  | some (.fz (.lst ds)) => f (en S) >>= fun k => match k with
    | .int k => match atI ds k with
      | some d => .ok (.nx (setS S i (.fz d)))
      | none => .stuck
    | _ => .stuck
  | some (.own (.lst ds)) => f (en S) >>= fun k => match k with
    | .int k => match ixN ds.length k with
      | some j => match ds[j]? with
        | some d => if pureD d = true then .ok (.nx (setS S i (.fz d))) else if v = i then .stuck else .ok (.nx (setS S i (.ali v j)))
        | none => .stuck
      | none => .stuck
    | _ => .stuck
  | _ => .stuck
/-- all frozen, then stored -/
def sSetZ (i : Nat) (f : En → Res D) : List Slot → Res Fl := fun S => f (en S) >>= fun d => .ok (.nx (setS (frzAll S) i (.fz d)))
section
variable {X : Cx} {Y : Cl} {W : Wh} {M : Md} {a e o : Expr} {fa fe : En → Res D} {pos p px py p2 : Pos} {x y : Str}
theorem Sat.ali_at {K : PySem.W.Frag} {F H : Hp} {S : List Slot} {σ : St} (h : Sat K Y F S σ H) {v s j : Nat} (q : S[v]? = some (.ali s j)) : ∃ ds p vs u, S[s]? = some (.own (.lst ds)) ∧ j < ds.length ∧ σ[s]? = some (some (.ref p)) ∧ H p = some (.lst vs) ∧ vs[j]? = some u ∧ σ[v]? = some (some u) := by
  obtain ⟨G, w, fp, sw⟩ := h
  exact sw.ok v _ q
theorem Sat.own_at {K : PySem.W.Frag} {F H : Hp} {S : List Slot} {σ : St} (h : Sat K Y F S σ H) {v : Nat} {d : D} (q : S[v]? = some (.own d)) : ∃ u fl, σ[v]? = some (some u) ∧ Own K Y H u d fl := by
  obtain ⟨G, w, fp, sw⟩ := h
  obtain ⟨u, a, b, _⟩ := sw.ok v _ q
  exact ⟨u, _, a, b⟩
theorem s_alV (i v : Nat) (hN : X.N.Nodup) (hi : X.N[i]? = some x := by rfl) (hx : Loc X.env.scope x := by first | exact Or.inl rfl | exact Or.inr rfl) (hMi : M i = true := by rfl)
    (hv : X.N[v]? = some y := by rfl) (hvy : Vis X.env.scope y := by first | exact Or.inl rfl | exact Or.inr (Or.inl rfl) | exact Or.inr (Or.inr rfl)) (hd : (y == ("__debug__" : Str)) = false := by decide) (hcd : (y == ("__classdict__" : Str)) = false := by decide)
    (hs : swapsWith (.Name y py) (some (.Name x px)) pos.line X.env = pure false := by rfl) (hf : X.fn x = true ∨ X.env.scope.names.lookup x = some .local := by first | exact .inl rfl | exact .inr rfl) : JS X Y W M (.Assign [.Name x px] (.Name y py) pos) (sAlV i v) :=
  PS.imp (ps_set hN hi hx (pe_var hv hvy hd hcd) hs hf) fun D' σ H ⟨F, S, s, h⟩ => by
    obtain ⟨G, f1, f2, s', hz⟩ := s.deep
    unfold sAlV at h
    split at h
    · rename_i d q
      obtain ⟨u, hu, ru⟩ := hz v d q
      exact ⟨u, hu, h _ _ ((s'.setFz ru).shallow f1) (Stay.set hMi)⟩
    · rename_i d q
      split at h
      · exact h.elim
      · rename_i hne
        obtain ⟨u, fl, hu, _⟩ := s.own_at q
        exact ⟨u, hu, h _ _ (s.move q hu hne) (Stay.set hMi)⟩
    · rename_i t j q
      split at h
      · exact h.elim
      · rename_i hne
        obtain ⟨ds, p0, vs, u, h1, h2, h3, h4, h5, h6⟩ := s.ali_at q
        exact ⟨u, h6, h _ _ (s.setAli h1 h2 h3 h4 h5 hne) (Stay.set hMi)⟩
    · exact h.elim
theorem s_alP (i v : Nat) (hN : X.N.Nodup) (ha : J X Y W .r a fa) (hpl : PlainIx a := by exact fun _ _ => rfl) (hi : X.N[i]? = some x := by rfl) (hx : Loc X.env.scope x := by first | exact Or.inl rfl | exact Or.inr rfl) (hMi : M i = true := by rfl)
    (hv : X.N[v]? = some y := by rfl) (hvy : Vis X.env.scope y := by first | exact Or.inl rfl | exact Or.inr (Or.inl rfl) | exact Or.inr (Or.inr rfl)) (hd : (y == ("__debug__" : Str)) = false := by decide) (hcd : (y == ("__classdict__" : Str)) = false := by decide)
    (hs : swapsWith (.Subscript (.Name y py) a p2) (some (.Name x px)) pos.line X.env = pure false := by rfl) (hf : X.fn x = true ∨ X.env.scope.names.lookup x = some .local := by first | exact .inl rfl | exact .inr rfl) : JS X Y W M (.Assign [.Name x px] (.Subscript (.Name y py) a p2) pos) (sAlP i v fa) :=
  PS.imp (ps_set hN hi hx (pe_ix ix_list (pe_var hv hvy hd hcd) ha hpl) hs hf) fun D' σ H ⟨F, S, s, h⟩ => by
    obtain ⟨G, f1, f2, s', hz⟩ := s.deep
    unfold sAlP at h
    split at h
    · rename_i ds q
      obtain ⟨u, hu, ru⟩ := hz v _ q
      refine ⟨u, hu, en S, s.en, (WPs.bindG (σ := σ) h s.same).imp (Same.refl H) fun k q2 w H2 s2 r2 => ?_⟩
      cases r2 with
      | @int k =>
        have q2 : WPs X.K Y W M F D' σ (match atI ds k with
          | some d => .ok (.nx (setS S i (.fz d)))
          | none => .stuck) := q2
        split at q2
        · rename_i d hk
          cases ru with
          | @lst p0 vs _ hp rr =>
            obtain ⟨u3, hu3, ru3⟩ := rr.at hk
            exact ⟨p0, vs, k, u3, rfl, rfl, SqL.of (s2 _ _ (f2 _ _ hp)), hu3, q2 _ _ (((s'.ext s2).setFz ru3).shallow f1) (Stay.set hMi)⟩
        · exact q2.elim
      | _ => exact q2.elim
    · rename_i ds q
      obtain ⟨u, fl, hu, o⟩ := s.own_at q
      obtain ⟨p0, vs, g, rfl, hp, ow, _⟩ := o.lst_inv (p := 0)
      refine ⟨.ref p0, hu, en S, s.en, (WPs.bindG (σ := σ) h s.same).imp (Same.refl H) fun k q2 w H2 s2 r2 => ?_⟩
      cases r2 with
      | @int k =>
        have q2 : WPs X.K Y W M F D' σ (match ixN ds.length k with
          | some j => match ds[j]? with
            | some d => if pureD d = true then .ok (.nx (setS S i (.fz d))) else if v = i then .stuck else .ok (.nx (setS S i (.ali v j)))
            | none => .stuck
          | none => .stuck) := q2
        split at q2
        · rename_i j hj
          have hl := ow.length
          split at q2
          · rename_i d hd
            obtain ⟨u3, hu3, ru3⟩ := ow.reps.get hd
            have hat : atI vs k = some u3 := by
              have : ixN vs.length k = some j := by rw [hl]; exact hj
              show (ixN vs.length k).bind (fun j => vs[j]?) = some u3
              rw [this]
              exact hu3
            refine ⟨p0, vs, k, u3, rfl, rfl, SqL.of (s2 _ _ hp), hat, ?_⟩
            split at q2
            · rename_i hpd
              exact q2 _ _ (s.setPure s2 (ru3.mono s2) hpd) (Stay.set hMi)
            · split at q2
              · exact q2.elim
              · rename_i hne
                exact q2 _ _ ((s.ext s2).setAli q (List.getElem?_eq_some_iff.mp hd).1 hu (s2 _ _ hp) hu3 hne) (Stay.set hMi)
          · exact q2.elim
        · exact q2.elim
      | _ => exact q2.elim
    · exact h.elim
theorem s_setZ (i : Nat) (hN : X.N.Nodup) (he : J X Y W .r e fe) (hi : X.N[i]? = some x := by rfl) (hx : Loc X.env.scope x := by first | exact Or.inl rfl | exact Or.inr rfl) (hM : M i = true := by rfl) (hs : swapsWith e (some (.Name x px)) pos.line X.env = pure false := by rfl)
    (hf : X.fn x = true ∨ X.env.scope.names.lookup x = some .local := by first | exact .inl rfl | exact .inr rfl) : JS X Y W M (.Assign [.Name x px] e pos) (sSetZ i fe) :=
  PS.imp (ps_set hN hi hx he hs hf) fun D σ H ⟨F, S, s, h⟩ => ⟨en S, s.en, (WPs.bindG (σ := σ) h s.same).imp (Same.refl H) fun d p u H1 s1 r1 => p _ _ (((s.ext s1).frzAll.setFz r1).shallow (s.same.trans s1)) (Stay.set hM)⟩
end
/-! ### expressions that change a slot: pop -/
def JE (X : Cx) (Y : Cl) (W : Wh) (e : Expr) (f : List Slot → Res (D × List Slot)) : Prop := PE X e fun σ H Q => ∃ F S, Sat X.K Y F S σ H ∧ WPr X.K Y W σ H (f S) fun r => ∀ v H', Sat X.K Y F r.2 σ H' → Rep X.K Y H' v r.1 → pureD r.1 = true → Q v H'
/-- y.pop() -/
def xPop (loc : List Slot → Res Lc) (S : List Slot) : Res (D × List Slot) := loc S >>= fun lc => match getL S lc with
  | some (.lst ds) => match ds[ds.length - 1]? with
    | some d => if pureD d = true then .ok (d, putL false S (.lst ds.dropLast) lc) else .stuck
    | none => .stuck
  | _ => .stuck
/-- y.pop(k) -/
def xPopAt (loc : List Slot → Res Lc) (f : En → Res D) (S : List Slot) : Res (D × List Slot) := loc S >>= fun lc => match getL S lc with
  | some (.lst ds) => f (en S) >>= fun k => match k with
    | .int k => match ixN ds.length k with
      | some j => match ds[j]? with
        | some d => if (pureD d && szOk ds.length) = true then .ok (d, putL false S (.lst (ds.take j ++ ds.drop (j + 1))) lc) else .stuck
        | none => .stuck
      | none => .stuck
    | _ => .stuck
  | _ => .stuck
section
variable {X : Cx} {Y : Cl} {W : Wh} {M : Md} {a e o : Expr} {fa fe : En → Res D} {pos p : Pos} {loc : List Slot → Res Lc}
theorem pop_core {K : PySem.W.Frag} {F H H2 : Hp} {S : List Slot} {σ : St} {lc : Lc} {ds : List D} {d : D} {j : Nat} {v : V} {Q : VK} (s : Sat K Y F S σ H) (s2 : Same H H2) (at_ : AtL σ H lc v) (qg : getL S lc = some (.lst ds)) (hd : ds[j]? = some d) (hp : pureD d = true)
    (h : ∀ u H', Sat K Y F (putL false S (.lst (ds.take j ++ ds.drop (j + 1))) lc) σ H' → Rep K Y H' u d → pureD d = true → Q u H') : ∃ p vs u, v = .ref p ∧ H2 p = some (.lst vs) ∧ vs.length = ds.length ∧ vs[j]? = some u ∧ Q u (upd H2 p (.lst (vs.take j ++ vs.drop (j + 1)))) := by
  obtain ⟨v0, fl, av, ov, nd, _, cl⟩ := s.openL qg
  have ev : v0 = v := av.one at_
  subst ev
  obtain ⟨p0, vs, g, rfl, hpp, ow, rfl⟩ := ov.lst_inv (p := 0)
  have hp2 := s2 _ _ hpp
  obtain ⟨u, hu, ru⟩ := ow.reps.get hd
  have ndg := List.nodup_cons.mp nd
  obtain ⟨f', n1, n2, n3⟩ := (ow.mono s2).erase ndg.2 j
  have hn : p0 ∉ f' := fun z => ndg.1 (n2 p0 z)
  refine ⟨p0, vs, u, rfl, hp2, ow.length, hu, h u _ (cl false _ _ (p0 :: f') (fun q o hq ho => (out_upd (fl := p0 :: g) List.mem_cons_self) q o hq (s2 _ _ ho)) (.lst upd_same (n3.upd hp2 rfl hn)) (List.nodup_cons.mpr ⟨hn, n1⟩) (fun q hq => .inl ?_) (fun z => nomatch z)) ((ru.mono s2).fix (fix_upd hp2 rfl) hp) hp⟩
  rcases List.mem_cons.mp hq with rfl | hq
  · exact List.mem_cons_self
  · exact List.mem_cons_of_mem _ (n2 q hq)
theorem dropLast_td {α : Type} (l : List α) : l.take (l.length - 1) ++ l.drop (l.length - 1 + 1) = l.dropLast := by
  rw [List.dropLast_eq_take]
  by_cases h : l.length = 0
  · have : l = [] := List.length_eq_zero_iff.mp h
    subst this
    rfl
  · rw [List.drop_of_length_le (by omega), List.append_nil]
theorem je_pop {apos cpos : Pos} (ho : JLc X Y W o loc) (hbase : attributeBase o "pop" X.env (eval o X.env) = eval o X.env := by rfl) (hline : (apos.endLine == cpos.line) = true := by rfl) : JE X Y W (.Call (.Attribute o "pop" apos) [] [] cpos) (xPop loc) :=
  PE.imp (pe_bm0 F.plainAttrs_list F.slot_list_pop (by with_unfolding_all rfl) mt_pop ho hbase hline) fun σ H Q ⟨F, S, s, h⟩ => by
    refine ⟨F, S, s, (WPr.bind h).imp (Same.refl H) fun lc q v H1 s1 at_ => ?_⟩
    split at q
    · rename_i ds qg
      split at q
      · rename_i d hd
        split at q
        · rename_i hp
          have q : ∀ v H', Sat X.K Y F (putL false S (.lst ds.dropLast) lc) σ H' → Rep X.K Y H' v d → pureD d = true → Q v H' := q
          rw [← dropLast_td] at q
          obtain ⟨p0, vs, u, rfl, hp2, hl, hu, hq⟩ := pop_core (s.ext s1) (Same.refl H1) at_ qg hd hp q
          rw [← hl, dropLast_td] at hq
          exact ⟨.inl ⟨rfl, vs, SqL.of hp2⟩, p0, vs, u, rfl, rfl, hp2, by rw [hl]; exact hu, hq⟩
        · exact q.elim
      · exact q.elim
    · exact q.elim
theorem je_popAt {apos cpos : Pos} (ho : JLc X Y W o loc) (ha : J X Y W .r a fa) (hbase : attributeBase o "pop" X.env (eval o X.env) = eval o X.env := by rfl)
    (hfew : ((backTo cpos (starEach (a :: []) X.env)).all (fun x => !x.1) && (backToKw cpos (keywordEach [] X.env)).all (fun x => x.1.isSome)
      && decide ((a :: []).length + ([] : List Keyword).length + (if ([] : List Keyword).isEmpty then 0 else 1) < 30)) = true := by rfl)
    (hline : (apos.endLine == cpos.line) = true := by rfl) (hs : starEach (a :: []) X.env = (false, eval a X.env) :: starEach [] X.env := by rfl) (hplain : (backTo cpos (starEach [] X.env)).any (·.1) = false := by rfl) :
    JE X Y W (.Call (.Attribute o "pop" apos) [a] [] cpos) (xPopAt loc fa) :=
  PE.imp (pe_bm F.plainAttrs_list F.slot_list_pop (by with_unfolding_all rfl) mt_popAt ho (pa_cons ha pa_nil hs) hbase hfew hline hs hplain) fun σ H Q ⟨F, S, s, h⟩ => by
    refine ⟨F, S, s, (WPr.bind h).imp (Same.refl H) fun lc q v H1 s1 at_ => ?_⟩
    split at q
    · rename_i ds qg
      obtain ⟨v0, fl, av, ov, nd, _, cl⟩ := (s.ext s1).openL qg
      have ev : v0 = v := av.one at_
      subst ev
      refine ⟨tyV_own ov, en S, (s.ext s1).en, (WPr.bind q).imp s1 fun k q2 w H2 s2 r2 => ?_⟩
      cases r2 with
      | @int k =>
        have q2 : WPr X.K Y W σ H (match ixN ds.length k with
          | some j => match ds[j]? with
            | some d => if (pureD d && szOk ds.length) = true then .ok (d, putL false S (.lst (ds.take j ++ ds.drop (j + 1))) lc) else .stuck
            | none => .stuck
          | none => .stuck) fun r => ∀ v H', Sat X.K Y F r.2 σ H' → Rep X.K Y H' v r.1 → pureD r.1 = true → Q v H' := q2
        split at q2
        · rename_i j hj
          split at q2
          · rename_i d hd
            split at q2
            · rename_i hpz
              have hpz := Bool.and_eq_true_iff.mp hpz
              have q2 : ∀ v H', Sat X.K Y F (putL false S (.lst (ds.take j ++ ds.drop (j + 1))) lc) σ H' → Rep X.K Y H' v d → pureD d = true → Q v H' := q2
              obtain ⟨p0, vs, u, rfl, hp2, hl, hu, hq⟩ := pop_core (s.ext s1) s2 at_ qg hd hpz.1 q2
              obtain ⟨e1, e2, e3, e4⟩ := ixN_seq hj
              have hz := szOk_le hpz.2
              rw [sizeLine_eq] at hz
              refine ⟨p0, vs, k, j, u, rfl, rfl, hp2, by omega, by omega, by rw [hl]; exact e1, hu, ?_⟩
              rw [List.eraseIdx_eq_take_drop_succ]
              exact hq
            · exact q2.elim
          · exact q2.elim
        · exact q2.elim
      | _ => exact q2.elim
    · exact q.elim
end
end Ow
end
section
set_option linter.all false
set_option maxRecDepth 100000
set_option maxHeartbeats 2000000
/-! Ow18: defs that change what they are handed. -/
namespace Ow
open PySem L2 PySem.Spec
/-- a def that changes its m-th parameter: what it comes to, and that parameter's data behind it -/
def runM (k m : Nat) (g : List Slot → Res Fl) (ds : List D) : Res (D × D) := match ds[m]? with
  | some d => g ((ds.map Slot.fz).set m (.own d) ++ List.replicate k Slot.un) >>= fun r => match r with
    | .rt d S' => (match S'[m]? with
      | some (.own dm) => if pureD d = true then .ok (d, dm) else .stuck
      | _ => .stuck)
    | .nx S' => (match S'[m]? with
      | some (.own dm) => .ok (.non, dm)
      | _ => .stuck)
    | _ => .stuck
  | none => .stuck
def spFnM (K : PySem.W.Frag) (Y : Cl) (n m : Nat) (sem : List D → Res (D × D)) : Sp := fun vs H Q E => ∃ ds d0 fl vm, vs.length = n ∧ ds.length = n ∧ m < n ∧ vs[m]? = some vm ∧ ds[m]? = some d0 ∧ Own K Y H vm d0 fl ∧ fl.Nodup ∧ (∀ i v d, i ≠ m → vs[i]? = some v → ds[i]? = some d → Rep K Y (lessH fl H) v d) ∧
  match sem ds with
  | .ok (r, dm) => ∀ v H' fl', Out fl H H' → Own K Y H' vm dm fl' → fl'.Nodup → (∀ p ∈ fl', p ∈ fl ∨ H p = none) → Rep K Y H' v r → pureD r = true → Q v H'
  | _ => False
section
variable {K : PySem.W.Frag} {Y : Cl} {H : Hp}
theorem sat_startM {N : List Str} {vs : List V} {ds : List D} {n m k : Nat} {vm : V} {d0 : D} {fl : List Addr} (hv : vs.length = n) (hd : ds.length = n) (hmn : m < n) (hvm : vs[m]? = some vm) (hdm : ds[m]? = some d0) (o : Own K Y H vm d0 fl) (nd : fl.Nodup)
    (r : ∀ i v d, i ≠ m → vs[i]? = some v → ds[i]? = some d → Rep K Y (lessH fl H) v d) (hN : N.length = n + k) : Sat K Y (lessH fl H) ((ds.map Slot.fz).set m (.own d0) ++ List.replicate k Slot.un) (L2.start N vs) H := by
  have nfx : ∀ p ∈ fl, ∀ u, H p = some u → fixO u = false := fun p hp u e => by
    obtain ⟨u', a, b⟩ := o.there p hp
    rw [e] at a
    cases a
    exact b
  have hst : ∀ i, i < n → ∀ v, vs[i]? = some v → (L2.start N vs)[i]? = some (some v) := fun i hi v e => by
    unfold L2.start
    rw [List.getElem?_append_left (by simp; omega), List.getElem?_map, e]
    rfl
  refine ⟨lessH fl H, fun _ => m, fun i => if i = m then fl else [], Same.refl _, lessH_to, fun p u e hf => ?_, ?_, fun i x hx => ?_⟩
  · rw [lessH_out fun hm => by rw [nfx p hm u e] at hf; cases hf]
    exact e
  · unfold L2.start
    simp
    omega
  · by_cases hi : i < n
    · rw [List.getElem?_append_left (by simp; omega)] at hx
      by_cases him : i = m
      · subst him
        rw [List.getElem?_set_self (by simp; omega)] at hx
        cases hx
        refine ⟨vm, hst i hi vm hvm, ?_, ?_, ?_⟩
        · simpa using o
        · simpa using nd
        · intro p hp
          have hp : p ∈ fl := by simpa using hp
          exact ⟨rfl, if_pos hp⟩
      · rw [List.getElem?_set_ne (Ne.symm him), List.getElem?_map] at hx
        have h1 : vs[i]? = some vs[i] := List.getElem?_eq_getElem (by omega)
        have h2 : ds[i]? = some ds[i] := List.getElem?_eq_getElem (by omega)
        rw [h2] at hx
        cases hx
        exact ⟨_, hst i hi _ h1, r i _ _ him h1 h2⟩
    · rw [List.getElem?_append_right (by simp; omega)] at hx
      rw [List.eq_of_mem_replicate (List.mem_of_getElem? hx)]
      trivial
end
section
variable {P : Program} {w : World} {K : PySem.W.Frag} {mg : Str → Option Value} {base : Heap} {Y : Cl} {m : Nat}
theorem fnM {x qual : Str} {st : Stmt} {f : Addr} {fd : FuncData} {N ps : List Str} {k n e : Nat} {g : List Slot → Res Fl} (F : Fun K x qual st f fd) (S : FnScope N ps (defScope st)) (hn : ps.length = n) (hm : N.length = n + e)
    (hb : ∀ (cdv : Value) (A : Around) (outer : List Env) (s : Shared) (H : Hp) (E : XK), Room k (A.deeper (PyProof.Rows.envOfC qual (defScope st) s.heap.objs.size f cdv)) →
      JB (cxOf CX0 P w K mg base N qual (defScope st) f cdv A outer s H E).nox Y none (fun i => i != m) (defBody st) g) : FnOk P w K mg base CX0 (k + 1) f fd ps (spFnM K Y n m (runM e m g)) := by
  refine F.ok S (fun vs H Q E ⟨ds, d0, fl, vm, h, _⟩ => by rw [h, hn]) fun cdv A outer s H vs Q E hr ⟨ds, d0, fl, vm, hv, hd, hmn, hvm, hdm, o, nd, r, h⟩ => ⟨_, hb cdv A outer s H E hr, lessH fl H, _, sat_startM hv hd hmn hvm hdm o nd r hm, ?_⟩
  unfold runM at h
  rw [hdm] at h
  show WPs K Y none (fun i => i != m) (lessH fl H) _ _ (g ((ds.map Slot.fz).set m (.own d0) ++ List.replicate e Slot.un))
  have hst : (L2.start N vs)[m]? = some (some vm) := by
    unfold L2.start
    rw [List.getElem?_append_left (by simp; omega), List.getElem?_map, hvm]
    rfl
  have hMm : (fun i => i != m) m = false := by simp
  have fin : ∀ {S' : List Slot} {σ' : L2.St} {H' : Hp} {dm : D}, Sat K Y (lessH fl H) S' σ' H' → σ'[m]? = some (some vm) → S'[m]? = some (.own dm) → ∃ fl', Out fl H H' ∧ Own K Y H' vm dm fl' ∧ fl'.Nodup ∧ ∀ p ∈ fl', p ∈ fl ∨ H p = none := by
    intro S' σ' H' dm s' hσ hS
    obtain ⟨v, fl', a, b, c, d, _⟩ := s'.mut hS
    rw [hσ] at a
    cases a
    refine ⟨fl', fun p u hp hu => s'.same p u (by rw [lessH_out hp]; exact hu), b, c, fun p hp => ?_⟩
    by_cases hpf : p ∈ fl
    · exact .inl hpf
    · have := d p hp
      rw [lessH_out hpf] at this
      exact .inr this
  cases q : g ((ds.map Slot.fz).set m (.own d0) ++ List.replicate e Slot.un) with
  | stuck => simp only [q, stuck_bind] at h
  | exc e => simp only [q, exc_bind] at h
  | ok r =>
    simp only [q, ok_bind] at h
    cases r with
    | bk S' => exact h.elim
    | ct S' => exact h.elim
    | nx S' =>
      intro σ' H' s' st'
      dsimp only at h
      cases q2 : S'[m]? with
      | none => rw [q2] at h; exact h.elim
      | some z =>
        rw [q2] at h
        cases z with
        | own dm =>
          obtain ⟨fl', h1, h2, h3, h4⟩ := fin s' ((st' m hMm).trans hst) q2
          exact h .non H' fl' h1 h2 h3 h4 .non pureD_non
        | _ => exact h.elim
    | rt d S' =>
      intro v H' hr
      obtain ⟨σ', st', s'⟩ := hr
      dsimp only at h
      cases q2 : S'[m]? with
      | none => rw [q2] at h; exact h.elim
      | some z =>
        rw [q2] at h
        cases z with
        | own dm =>
          dsimp only at h
          by_cases hp : pureD d = true
          · rw [if_pos hp] at h
            have hml : m < S'.length := (List.getElem?_eq_some_iff.mp q2).1
            have e1 : (more S' (mk d))[m]? = some (.own dm) := by
              unfold more
              exact setS_ne (by rw [List.getElem?_append_left hml]; exact q2) (fun j z => nomatch z) (by omega)
            have hl := s'.len
            have hl' : S'.length = σ'.length := by
              simp [more, moreV, setS] at hl
              omega
            have e2 : (moreV σ' S'.length v)[m]? = some (some vm) := by
              unfold moreV
              rw [List.getElem?_set_ne (by omega), List.getElem?_append_left (by omega)]
              exact (st' m hMm).trans hst
            obtain ⟨fl', h1, h2, h3, h4⟩ := fin s' e2 e1
            have ro : RetS K Y (fun i => i != m) (lessH fl H) σ' S' H' v d := ⟨σ', Stay.refl _ _, s'⟩
            obtain ⟨_, fp, oo, _⟩ := ro.ok
            exact h v H' fl' h1 h2 h3 h4 oo.rep hp
          · rw [if_neg hp] at h
            exact h.elim
        | _ => exact h.elim
end
/-! ### arguments that do not touch what is changed -/
def FlOk (fl : List Addr) (H : Hp) : Prop := ∀ p ∈ fl, ∃ o, H p = some o ∧ fixO o = false
def JX (X : Cx) (Y : Cl) (W : Wh) (e : Expr) (f : En → Res D) : Prop := PE X e fun σ H Q => ∃ fl en, FlOk fl H ∧ EnOk X.K Y (lessH fl H) σ en ∧ WPr X.K Y W σ H (f en) fun d => ∀ v H1, Same H H1 → Rep X.K Y (lessH fl H1) v d → Q v H1
def AX (X : Cx) (Y : Cl) (W : Wh) (es : List Expr) (f : En → Res (List D)) : Prop := PA X es fun σ H Q => ∃ fl en, FlOk fl H ∧ EnOk X.K Y (lessH fl H) σ en ∧ WPr X.K Y W σ H (f en) fun ds => ∀ vs H1, Same H H1 → Reps X.K Y (lessH fl H1) vs ds → vs.length = es.length → Q vs H1
theorem FlOk.mono {fl : List Addr} {H H' : Hp} (h : FlOk fl H) (s : Same H H') : FlOk fl H' := fun p hp => by
  obtain ⟨o, a, b⟩ := h p hp
  exact ⟨o, s _ _ a, b⟩
theorem FlOk.fix {fl : List Addr} {H : Hp} (h : FlOk fl H) : Fix H (lessH fl H) := fun p u e hf => by
  rw [lessH_out fun hm => by
    obtain ⟨o, a, b⟩ := h p hm
    rw [e] at a
    cases a
    rw [b] at hf
    cases hf]
  exact e
section
variable {X : Cx} {Y : Cl} {W : Wh} {M : Md} {a e o : Expr} {es : List Expr} {fa fe : En → Res D} {fs : En → Res (List D)} {pos p : Pos} {loc : List Slot → Res Lc}
theorem jx_var (i : Nat) {x : Str} (hN : X.N[i]? = some x := by rfl) (hv : Vis X.env.scope x := by first | exact Or.inl rfl | exact Or.inr (Or.inl rfl) | exact Or.inr (Or.inr rfl)) (hd : (x == ("__debug__" : Str)) = false := by decide) (hcd : (x == ("__classdict__" : Str)) = false := by decide) : JX X Y W (.Name x p) (xVar i) :=
  PE.imp (pe_var hN hv hd hcd) fun σ H Q ⟨fl, en, hf, he, h⟩ => by
    unfold xVar at h
    split at h
    · rename_i d q
      obtain ⟨v, hv, r⟩ := he.2 i d q
      exact ⟨v, hv, h v H (Same.refl H) r⟩
    · exact h.elim
theorem jx_p (ha : J X Y W .r a fa) : JX X Y W a (xP fa) :=
  PE.imp ha fun σ H Q ⟨fl, en, hf, he, h⟩ => ⟨en, he.mono lessH_to, (WPr.bind h).imp (Same.refl H) fun d q v H1 s1 r1 => by
    split at q
    · rename_i hp
      exact q v H1 s1 (r1.fix (hf.mono s1).fix hp)
    · exact q.elim⟩
def oAtL : D → D → Res D
  | .lst ds, .int k => (match atI ds k with
    | some d => .ok d
    | none => .stuck)
  | _, _ => .stuck
def xAtL (i : Nat) (f : En → Res D) : En → Res D := x2 oAtL (xL (xVar i)) f
theorem jx_at (i : Nat) {x : Str} {p2 : Pos} (ha : J X Y W .r a fa) (hs : PlainIx a := by exact fun _ _ => rfl) (hN : X.N[i]? = some x := by rfl) (hv : Vis X.env.scope x := by first | exact Or.inl rfl | exact Or.inr (Or.inl rfl) | exact Or.inr (Or.inr rfl)) (hd : (x == ("__debug__" : Str)) = false := by decide) (hcd : (x == ("__classdict__" : Str)) = false := by decide) :
    JX X Y W (.Subscript (.Name x p) a p2) (xAtL i fa) :=
  PE.imp (pe_ix ix_list (pe_var hN hv hd hcd) ha hs) fun σ H Q ⟨fl, en, hf, he, h⟩ => by
    unfold xAtL x2 xL xVar at h
    cases q : en[i]? with
    | none => rw [q] at h; exact h.elim
    | some z =>
      cases z with
      | none => rw [q] at h; exact h.elim
      | some d =>
        rw [q] at h
        obtain ⟨v, hv, r⟩ := he.2 i d q
        have h : WPr X.K Y W σ H ((if isL d = true then Res.ok d else .stuck) >>= fun x => fa en >>= fun y => oAtL x y) fun d => ∀ v H1, Same H H1 → Rep X.K Y (lessH fl H1) v d → Q v H1 := h
        by_cases hl : isL d = true
        · rw [if_pos hl] at h
          refine ⟨v, hv, en, he.mono lessH_to, (WPr.bind (g := fun y => oAtL d y) h).imp (Same.refl H) fun k q2 w H1 s1 r1 => ?_⟩
          cases r with
          | @lst p0 vs ds hp rr =>
            cases r1 with
            | @int kk =>
              have q2 : WPr X.K Y W σ H (match atI ds kk with
                | some d => .ok d
                | none => .stuck) fun d => ∀ v H1, Same H H1 → Rep X.K Y (lessH fl H1) v d → Q v H1 := q2
              split at q2
              · rename_i z hz
                obtain ⟨u, hu, ru⟩ := rr.at hz
                exact ⟨p0, vs, kk, u, rfl, rfl, SqL.of (s1 _ _ (lessH_to _ _ hp)), hu, q2 u H1 s1 (ru.mono (lessH_same s1))⟩
              · exact q2.elim
            | _ => exact q2.elim
          | _ => cases k <;> exact q2.elim
        · rw [if_neg hl] at h
          exact h.elim
theorem ax_nil : AX X Y W [] aNil := PA.imp pa_nil fun σ H Q ⟨fl, en, hf, he, h⟩ => h [] H (Same.refl H) .nil rfl
theorem ax_cons (ha : JX X Y W a fa) (hr : AX X Y W es fs) (hs : starEach (a :: es) X.env = (false, eval a X.env) :: starEach es X.env := by rfl) : AX X Y W (a :: es) (aCons fa fs) :=
  PA.imp (pa_cons ha hr hs) fun σ H Q ⟨fl, en, hf, he, h⟩ => ⟨fl, en, hf, he, (WPr.bind h).imp (Same.refl H) fun d q v H1 s1 r1 => ⟨fl, en, hf.mono s1, he.mono (lessH_same s1), (WPr.bind q).imp s1 fun ds q2 vs H2 s2 r2 l2 => q2 (v :: vs) H2 (s1.trans s2) (.cons (r1.mono (lessH_same s2)) r2) (by simp [l2])⟩⟩
/-- the arguments, the m-th one the changed one -/
def AM (X : Cx) (Y : Cl) (W : Wh) (m : Nat) (es : List Expr) (loc : List Slot → Res Lc) (fs : En → Res (List D)) : Prop := PA X es fun σ H Q => ∃ F S lc d v fl, Sat X.K Y F S σ H ∧ getL S lc = some d ∧ loc S = .ok lc ∧ AtL σ H lc v ∧ FlOk fl H ∧ EnOk X.K Y (lessH fl H) σ (en (unL S lc)) ∧
  WPr X.K Y W σ H (fs (en (unL S lc))) fun ds => ∀ vs H1, Same H H1 → vs[m]? = some v → m < es.length → Reps X.K Y (lessH fl H1) (vs.eraseIdx m) ds → vs.length = es.length → Q vs H1
theorem am_0 (ho : JLc X Y W a loc) (hr : AX X Y W es fs) (hs : starEach (a :: es) X.env = (false, eval a X.env) :: starEach es X.env := by rfl) : AM X Y W 0 (a :: es) loc fs :=
  PA.imp (pa_cons ho hr hs) fun σ H Q ⟨F, S, lc, d, v, fl, s, hg, hl, at_, hf, he, h⟩ => ⟨F, S, s, by
    rw [hl]
    intro v' H1 s1 at1
    have ev : v = v' := (at_.same s1).one at1
    subst ev
    exact ⟨fl, _, hf.mono s1, he.mono (lessH_same s1), h.imp s1 fun ds q vs H2 s2 r2 l2 => q (v :: vs) H2 (s1.trans s2) rfl (by simp) r2 (by simp [l2])⟩⟩
theorem am_s {m : Nat} (ha : JX X Y W a fa) (hr : AM X Y W m es loc fs) (hs : starEach (a :: es) X.env = (false, eval a X.env) :: starEach es X.env := by rfl) : AM X Y W (m + 1) (a :: es) loc (aCons fa fs) :=
  PA.imp (pa_cons ha hr hs) fun σ H Q ⟨F, S, lc, d, v, fl, s, hg, hl, at_, hf, he, h⟩ => ⟨fl, _, hf, he, (WPr.bind h).imp (Same.refl H) fun x q u H1 s1 r1 =>
    ⟨F, S, lc, d, v, fl, s.ext s1, hg, hl, at_.same s1, hf.mono s1, he.mono (lessH_same s1), (WPr.bind q).imp s1 fun ds q2 vs H2 s2 hm hlm r2 l2 => q2 (u :: vs) H2 (s1.trans s2) hm (by simp; omega) (.cons (r1.mono (lessH_same s2)) r2) (by simp [l2])⟩⟩
/-- the call -/
def xCallM (m : Nat) (sem : List D → Res (D × D)) (loc : List Slot → Res Lc) (fs : En → Res (List D)) (S : List Slot) : Res (D × List Slot) := noX (loc S) >>= fun lc => match getL S lc with
  | some d => fs (en (unL S lc)) >>= fun ds => noX (sem (ds.insertIdx m d)) >>= fun r => .ok (r.1, putL false S r.2 lc)
  | none => .stuck
theorem je_callM {k n m : Nat} {f : Addr} {fd : FuncData} {ps : List Str} {sem : List D → Res (D × D)} {x : Str} (F : FnOk X.prog X.w X.K X.mg X.base CX0 k f fd ps (spFnM X.K Y n m sem)) (hr : Room k X.A) (hm : X.mg x = some (.ref f)) (hk : PySem.W.keepIn X.K (.ref f) = true) (hb : Binds X.K fd ps []) (ha : AM X Y W m (e :: es) loc fs) (hl : (e :: es).length = n := by rfl) (hg : Gl X x := by rfl)
    (hdb : (x == ("__debug__" : Str)) = false := by decide) (he : starEach (e :: es) X.env = (false, eval e X.env) :: starEach es X.env := by rfl) (hpl : (backTo pos (starEach es X.env)).any (·.1) = false := by rfl) :
    JE X Y W (.Call (.Name x p) (e :: es) [] pos) (xCallM m sem loc fs) :=
  PE.imp (pe_call F hr hg hm hk hb .nil pass0 ha hdb he hpl) fun σ H Q ⟨F, S, s, h⟩ => by
    unfold xCallM at h
    cases ql : loc S with
    | stuck => rw [ql] at h; exact h.elim
    | exc x => rw [ql] at h; exact h.elim
    | ok lc =>
      rw [ql] at h
      have h : WPr X.K Y W σ H (match getL S lc with
        | some d => fs (en (unL S lc)) >>= fun ds => noX (sem (ds.insertIdx m d)) >>= fun r => .ok (r.1, putL false S r.2 lc)
        | none => .stuck) fun r => ∀ v H', Sat X.K Y F r.2 σ H' → Rep X.K Y H' v r.1 → pureD r.1 = true → Q v H' := h
      cases qg : getL S lc with
      | none => rw [qg] at h; exact h.elim
      | some d =>
        rw [qg] at h
        obtain ⟨v, fl, at_, o, nd, _, ls, cl⟩ := s.openL2 qg
        refine ⟨F, S, lc, d, v, fl, s, qg, ql, at_, o.there, ls.en, (WPr.bind h).imp (Same.refl H) fun ds q vs H1 s1 hvm hml r1 l1 => ?_⟩
        show spFnM X.K Y n m sem (vs ++ []) H1 Q _
        rw [List.append_nil]
        have hl2 := r1.length
        have hdl : ds.length + 1 = n := by
          rw [List.length_eraseIdx, if_pos (by omega)] at hl2
          omega
        have hins : (ds.insertIdx m d).length = n := by
          rw [List.length_insertIdx, if_pos (by omega)]
          exact hdl
        refine ⟨ds.insertIdx m d, d, fl, v, l1.trans hl, hins, by omega, hvm, ?_, o.mono s1, nd, fun i v' d' him hv' hd' => ?_, ?_⟩
        · rw [List.getElem?_insertIdx_self, if_pos (by omega)]
        · by_cases hlt : i < m
          · rw [List.getElem?_insertIdx_of_lt hlt] at hd'
            obtain ⟨u, hu, ru⟩ := r1.get hd'
            rw [List.getElem?_eraseIdx_of_lt hlt, hv'] at hu
            cases hu
            exact ru
          · have hgt : m < i := by omega
            rw [List.getElem?_insertIdx_of_gt hgt] at hd'
            obtain ⟨u, hu, ru⟩ := r1.get hd'
            rw [List.getElem?_eraseIdx_of_ge (by omega)] at hu
            rw [show i - 1 + 1 = i by omega, hv'] at hu
            cases hu
            exact ru
        · cases qs : sem (ds.insertIdx m d) with
          | stuck => rw [qs] at q; exact q.elim
          | exc x => rw [qs] at q; exact q.elim
          | ok rd =>
            rw [qs] at q
            obtain ⟨r, dm⟩ := rd
            have q : ∀ v H', Sat X.K Y F (putL false S dm lc) σ H' → Rep X.K Y H' v r → pureD r = true → Q v H' := q
            intro v' H' fl' h1 h2 h3 h4 h5 h6
            refine q v' H' (cl false H' dm fl' (fun p u hp hu => h1 p u hp (s1 _ _ hu)) h2 h3 (fun p hp => (h4 p hp).imp id fun z => s1.free z) (fun z => nomatch z)) h5 h6
theorem locV_calm (i : Nat) : ∀ S err, locV i S ≠ .exc err := fun S err => by unfold locV; split <;> exact fun h => nomatch h
/-! ### statements out of these -/
def sDoE (f : List Slot → Res (D × List Slot)) : List Slot → Res Fl := fun S => f S >>= fun r => .ok (.nx r.2)
def sSetE (i : Nat) (f : List Slot → Res (D × List Slot)) : List Slot → Res Fl := fun S => f S >>= fun r => .ok (.nx (setS r.2 i (.fz r.1)))
theorem s_doE {fe : List Slot → Res (D × List Slot)} (he : JE X Y W e fe) (hs : swapsWith e none pos.line X.env = pure false := by rfl) : JS X Y W M (.Expr e pos) (sDoE fe) :=
  PS.imp (ps_expr he hs) fun D σ H ⟨F, S, s, h⟩ => ⟨F, S, s, (WPs.bindG (σ := σ) h s.same).imp (Same.refl H) fun r q v H1 s1 _ _ => q σ H1 s1 (Stay.refl M σ)⟩
theorem s_setE (i : Nat) {x : Str} {px : Pos} {fe : List Slot → Res (D × List Slot)} (hN : X.N.Nodup) (he : JE X Y W e fe) (hi : X.N[i]? = some x := by rfl) (hx : Loc X.env.scope x := by first | exact Or.inl rfl | exact Or.inr rfl) (hM : M i = true := by rfl) (hs : swapsWith e (some (.Name x px)) pos.line X.env = pure false := by rfl)
    (hf : X.fn x = true ∨ X.env.scope.names.lookup x = some .local := by first | exact .inl rfl | exact .inr rfl) : JS X Y W M (.Assign [.Name x px] e pos) (sSetE i fe) :=
  PS.imp (ps_set hN hi hx he hs hf) fun D σ H ⟨F, S, s, h⟩ => ⟨F, S, s, (WPs.bindG (σ := σ) h s.same).imp (Same.refl H) fun r q v H1 s1 r1 hp => q _ _ (s1.setPure (Same.refl H1) r1 hp) (Stay.set hM)⟩
/-- tests that change a slot -/
def TE' (X : Cx) (Y : Cl) (W : Wh) (e : Expr) (f : List Slot → Res (Bool × List Slot)) : Prop := PT X e fun σ H Q => ∃ F S, Sat X.K Y F S σ H ∧ WPr X.K Y W σ H (f S) fun r => ∀ H', Sat X.K Y F r.2 σ H' → Q r.1 H'
def uBl (f : List Slot → Res (D × List Slot)) : List Slot → Res (Bool × List Slot) := fun S => f S >>= fun r => match r.1 with
  | .bl b => .ok (b, r.2)
  | _ => .stuck
def uNo (f : List Slot → Res (Bool × List Slot)) : List Slot → Res (Bool × List Slot) := fun S => f S >>= fun r => .ok (!r.1, r.2)
def uOr (f : List Slot → Res (Bool × List Slot)) (g : En → Res Bool) : List Slot → Res (Bool × List Slot) := fun S => f S >>= fun r => if r.1 = true then .ok (true, r.2) else noX (g (en r.2)) >>= fun b => .ok (b, r.2)
def sIfE (c : List Slot → Res (Bool × List Slot)) (f g : List Slot → Res Fl) : List Slot → Res Fl := fun S => c S >>= fun r => if r.1 = true then f r.2 else g r.2
theorem tb_val {fe : List Slot → Res (D × List Slot)} (h : JE X Y W e fe) (he : ∀ whole, isTrue e X.env whole = (do let v ← whole; standAt e.pos; holding [v] (truthy v)) := by intro _; rfl) : TE' X Y W e (uBl fe) :=
  PT.imp (pt_val h he) fun σ H Q ⟨F, S, s, h⟩ => ⟨F, S, s, (WPr.bind h).imp (Same.refl H) fun r q v H1 s1 r1 hp => by
    obtain ⟨d, S'⟩ := r
    cases d with
    | bl b =>
      cases r1
      exact ⟨b, rfl, q H1 s1⟩
    | _ => exact q.elim⟩
theorem tb_not {g : List Slot → Res (Bool × List Slot)} (h : TE' X Y W e g) : TE' X Y W (.UnaryOp .Not e pos) (uNo g) :=
  PT.imp (pt_not h) fun σ H Q ⟨F, S, s, h⟩ => ⟨F, S, s, (WPr.bind h).imp (Same.refl H) fun r q H1 s1 => q H1 s1⟩
theorem s_ifE {c : Expr} {ga : List Slot → Res (Bool × List Slot)} {sa sb : List Stmt} {f g : List Slot → Res Fl} (hc : TE' X Y W c ga) (ha : JB X Y W M sa f) (hb : JB X Y W M sb g) : JS X Y W M (.If c sa sb pos) (sIfE ga f g) :=
  PS.imp (ps_if hc ha hb) fun D σ H ⟨F, S, s, h⟩ => ⟨F, S, s, (WPs.bindG (σ := σ) h s.same).imp (Same.refl H) fun r p H1 s1 => by
    obtain ⟨b, S'⟩ := r
    cases b with
    | true => exact ⟨F, S', s1, p⟩
    | false => exact ⟨F, S', s1, p⟩⟩
end
end Ow
end
section
set_option linter.all false
set_option maxRecDepth 100000
set_option maxHeartbeats 2000000
/-! Ow19: targets; lists put together that share their items; loops out of pops; four names at once. -/
namespace Ow
open PySem L2 PySem.Spec
section
variable {X : Cx} {Y : Cl} {W : Wh} {M : Md} {a b e : Expr} {fa fb fe : En → Res D} {pos p p2 : Pos}
theorem pgn (i : Nat) {x : Str} {px : Pos} (hN : X.N.Nodup) (hi : X.N[i]? = some x := by rfl) (hx : Loc X.env.scope x := by first | exact Or.inl rfl | exact Or.inr rfl) (hf : X.fn x = true ∨ X.env.scope.names.lookup x = some .local := by first | exact .inl rfl | exact .inr rfl) : PG X (.Name x px) (gName i) := pg_name hN hi hx hf
theorem pgn2 (i j : Nat) {x y : Str} {px py pt : Pos} {kt : Nat} (hc : X.calm = true) (hN : X.N.Nodup) (hi : X.N[i]? = some x := by rfl) (hj : X.N[j]? = some y := by rfl) (hx : Loc X.env.scope x := by first | exact Or.inl rfl | exact Or.inr rfl) (hy : Loc X.env.scope y := by first | exact Or.inl rfl | exact Or.inr rfl)
    (hfx : X.fn x = true ∨ X.env.scope.names.lookup x = some .local := by first | exact .inl rfl | exact .inr rfl) (hfy : X.fn y = true ∨ X.env.scope.names.lookup y = some .local := by first | exact .inl rfl | exact .inr rfl)
    (hn : (assignEach [.Name x px, .Name y py] X.env).length = 2 := by rfl) (hst : (assignEach [.Name x px, .Name y py] X.env).findIdx? (·.1) = none := by rfl) (h1 : (assignEach (.Name x px :: [.Name y py]) X.env).map (·.2) = assign (.Name x px) X.env :: (assignEach [.Name y py] X.env).map (·.2) := by rfl)
    (h2 : (assignEach (.Name y py :: []) X.env).map (·.2) = assign (.Name y py) X.env :: (assignEach [] X.env).map (·.2) := by rfl) : PG X (.Tuple [.Name x px, .Name y py] kt pt) (g2 X.K i j) := pg_pair hc hN hi hj hx hy hfx hfy hn hst h1 h2
/-- list + list, read -/
def oCatR : D → D → Res D
  | .lst as, .lst bs => if szOk (as.length + bs.length) = true then .ok (.lst (as ++ bs)) else .stuck
  | _, _ => .stuck
theorem oCatR_calm : Calm2 oCatR := calm2_ite fun d e => by unfold oCatR; split <;> (try split) <;> simp
theorem j_catR (ha : J X Y W .r a fa) (hb : J X Y W .r b fb) : J X Y W .r (.BinOp a .Add b pos) (x2 oCatR fa fb) :=
  j_op op_cat (fun H x y d e Q rx ry ⟨z, hz, po⟩ => by
    unfold oCatR at hz
    split at hz
    · split at hz
      · rename_i hc
        cases hz
        cases rx with
        | lst h1 r1 =>
          cases ry with
          | lst h2 r2 =>
            refine ⟨_, _, _, _, rfl, rfl, h1, h2, by rw [r1.length, r2.length]; exact szOk_le hc, fun p hp => ?_⟩
            exact po _ _ (same_new hp) (.lst upd_same ((r1.append r2).mono (same_new hp)))
      · cases hz
    · cases hz) oCatR_calm ha hb
variable {lo hi : Option Expr} {fl fh : En → Res (Option Int)}
def xSlR (f : En → Res D) (l h : En → Res (Option Int)) : En → Res D := fun en => f en >>= fun d => l en >>= fun lo => h en >>= fun hi => match d with
  | .lst ds => .ok (.lst (cutG ds lo hi))
  | _ => .stuck
theorem j_sliceR (ha : J X Y W .r a fa) (hl : O X Y W lo fl) (hh : O X Y W hi fh) : J X Y W .r (.Subscript a (.Slice lo hi none p2) pos) (xSlR fa fl fh) :=
  PE.imp (pe_slice sl_list ha hl hh) fun σ H Q ⟨en, he, h⟩ => by
    refine ⟨en, he, (WPr.bind h).imp (Same.refl H) fun d p => ?_⟩
    intro v H1 s1 r1
    refine ⟨en, he.mono s1, (WPr.bindO p).imp s1 fun l q => ?_⟩
    intro H2 s2
    refine ⟨en, he.mono (s1.trans s2), (WPr.bindO q).imp (s1.trans s2) fun h q2 => ?_⟩
    intro H3 s3
    have r3 := r1.mono (s2.trans s3)
    have s13 := s1.trans (s2.trans s3)
    cases r3 with
    | @lst p0 vs ds hp rr =>
      refine ⟨p0, vs, rfl, SqL.of hp, fun l hl => ?_⟩
      have q2 : Po X.K Y .r (.lst (cutG ds _ _)) H Q := q2
      exact q2 _ _ (s13.trans (same_new hl)) (.lst upd_same ((rr.cut _ _).mono (same_new hl)))
    | _ => exact q2.elim
end
/-! a loop over y[pop] -/
def srcE (v : Nat) (f : List Slot → Res (D × List Slot)) (S : List Slot) : Res (List D × List Slot) := match (frzV v S)[v]? with
  | some (.fz (.lst ds)) => f (frzV v S) >>= fun r => match r.1 with
    | .int j => match atI ds j with
      | some d => itD d >>= fun l => .ok (l, r.2)
      | _ => .stuck
    | _ => .stuck
  | _ => .stuck
section
variable {X : Cx} {Y : Cl} {W : Wh} {M : Md} {e tg : Expr} {fe : List Slot → Res (D × List Slot)} {p : Pos} {i : Nat}
theorem is_atE (v : Nat) {y : Str} {py : Pos} (he : JE X Y W e fe) (hs : PlainIx e := by exact fun _ _ => rfl) (hv : X.N[v]? = some y := by rfl) (hvy : Vis X.env.scope y := by first | exact Or.inl rfl | exact Or.inr (Or.inl rfl) | exact Or.inr (Or.inr rfl)) (hd : (y == ("__debug__" : Str)) = false := by decide) (hcd : (y == ("__classdict__" : Str)) = false := by decide) :
    IS X Y W tg (.Subscript (.Name y py) e p) (gName i) (srcE v fe) (b1 i) := ⟨_, pi_list (pe_ix ix_list (pe_var hv hvy hd hcd) he hs), fun σ H R ⟨F, S, s, h⟩ => by
  obtain ⟨F', f1, f2, s', hz⟩ := s.frzV v
  unfold srcE at h
  split at h
  · rename_i ds q
    obtain ⟨u, hu, ru⟩ := hz v _ q
    refine ⟨u, hu, F', _, s', (WPr.bind h).imp (Same.refl H) fun r q v2 H2 s2 r2 hp => ?_⟩
    obtain ⟨d, S'⟩ := r
    cases r2 with
    | @int j =>
      have q : WPr X.K Y W σ H (match atI ds j with
        | some d => itD d >>= fun l => .ok (l, S')
        | _ => .stuck) fun r => ∀ (J : It) (H1 F1 : Hp), Same F F1 → Sat X.K Y F1 r.2 σ H1 → ItOk X.K Y J (gName i) r.1 (b1 i) F1 → R J H1 := q
      cases q3 : atI ds j with
      | none => rw [q3] at q; exact q.elim
      | some d3 =>
        rw [q3] at q
        cases ru with
        | @lst a vs _ ha r =>
          obtain ⟨u3, hu3, ru3⟩ := r.at q3
          have q : WPr X.K Y W σ H (itD d3 >>= fun l => .ok (l, S')) fun r => ∀ (J : It) (H1 F1 : Hp), Same F F1 → Sat X.K Y F1 r.2 σ H1 → ItOk X.K Y J (gName i) r.1 (b1 i) F1 → R J H1 := q
          cases z : itD d3 with
          | stuck => rw [z] at q; exact q.elim
          | exc x => cases d3 <;> cases z
          | ok l =>
            rw [z] at q
            obtain ⟨a3, vs3, rfl, hs3, rs3⟩ := itD_rep ru3 z
            have s2' : Sat X.K Y F' S' σ H2 := s2
            exact ⟨a, vs, j, .ref a3, rfl, rfl, SqL.of (s2'.same _ _ ha), hu3, a3, rfl, ⟨vs3, s2'.same.seq hs3⟩, q _ H2 F' f1 s2' (itok_l hs3 rs3)⟩
    | _ => exact q.elim
  · exact h.elim⟩
end
end Ow
end
section
set_option linter.all false
set_option maxRecDepth 100000
set_option maxHeartbeats 2000000
/-! Ow20: a name's list handed to another list; a popped thing appended. -/
namespace Ow
open PySem L2 PySem.Spec
def sAppV (loc : List Slot → Res Lc) (y : Nat) : List Slot → Res Fl := fun S => loc S >>= fun lc => match getL (setS S y .un) lc, S[y]? with
  | some (.lst ds), some (.own d) => if szOk (ds.length + 1) = true then .ok (.nx (putL true (setS S y .un) (.lst (ds ++ [d])) lc)) else .stuck
  | some (.lst ds), some (.fz d) => if (pureD d && szOk (ds.length + 1)) = true then .ok (.nx (putL true S (.lst (ds ++ [d])) lc)) else .stuck
  | _, _ => .stuck
def sAppE (s : Nat) (f : List Slot → Res (D × List Slot)) : List Slot → Res Fl := fun S => match S[s]? with
  | some (.own (.lst _)) => f S >>= fun r => match r.2[s]? with
    | some (.own (.lst ds)) => if szOk (ds.length + 1) = true then .ok (.nx (r.2.set s (.own (.lst (ds ++ [r.1]))))) else .stuck
    | _ => .stuck
  | _ => .stuck
section
variable {X : Cx} {Y : Cl} {W : Wh} {M : Md} {e o : Expr} {pos p : Pos} {loc : List Slot → Res Lc}
theorem getL_un {S : List Slot} {lc : Lc} {y : Nat} {d : D} (h : getL (setS S y .un) lc = some d) : getL S lc = some d := by
  have key : ∀ (s : Nat) (e : D), (setS S y .un)[s]? = some (Slot.own e) → S[s]? = some (Slot.own e) := fun s e he => by
    rcases setS_get he with ⟨_, z, _⟩ | ⟨_, x, hx, hxy⟩
    · cases z
    · rcases kill_ne hxy with ⟨z, _⟩ | ⟨rfl, _⟩
      · cases z
      · exact hx
  cases lc with
  | top s =>
    have h' : (match (setS S y .un)[s]? with
      | some (.own d) => some d
      | _ => none) = some d := h
    show (match S[s]? with
      | some (.own d) => some d
      | _ => none) = some d
    split at h'
    · rename_i q
      rw [key s _ q]
      exact h'
    · cases h'
  | it s j =>
    have h' : (match (setS S y .un)[s]? with
      | some (.own (.lst ds)) => ds[j]?
      | _ => none) = some d := h
    show (match S[s]? with
      | some (.own (.lst ds)) => ds[j]?
      | _ => none) = some d
    split at h'
    · rename_i q
      rw [key s _ q]
      exact h'
    · cases h'
theorem s_appV (y : Nat) {x : Str} {apos cpos px : Pos} (ho : JLc X Y W o loc) (hN : X.N[y]? = some x := by rfl) (hv : Vis X.env.scope x := by first | exact Or.inl rfl | exact Or.inr (Or.inl rfl) | exact Or.inr (Or.inr rfl)) (hd : (x == ("__debug__" : Str)) = false := by decide) (hcd : (x == ("__classdict__" : Str)) = false := by decide)
    (hbase : attributeBase o "append" X.env (eval o X.env) = eval o X.env := by rfl)
    (hfew : ((backTo cpos (starEach ((.Name x px) :: []) X.env)).all (fun x => !x.1) && (backToKw cpos (keywordEach [] X.env)).all (fun x => x.1.isSome)
      && decide (((.Name x px : Expr) :: []).length + ([] : List Keyword).length + (if ([] : List Keyword).isEmpty then 0 else 1) < 30)) = true := by rfl)
    (hline : (apos.endLine == cpos.line) = true := by rfl) (hs : starEach ((.Name x px) :: []) X.env = (false, eval (.Name x px) X.env) :: starEach [] X.env := by rfl) (hplain : (backTo cpos (starEach [] X.env)).any (·.1) = false := by rfl)
    (hsw : swapsWith (.Call (.Attribute o "append" apos) [.Name x px] [] cpos) none pos.line X.env = pure false := by rfl) :
    JS X Y W M (.Expr (.Call (.Attribute o "append" apos) [.Name x px] [] cpos) pos) (sAppV loc y) :=
  PS.imp (ps_expr (pe_bm F.plainAttrs_list F.slot_list_append (by with_unfolding_all rfl) mt_append ho (pa_cons (pe_var hN hv hd hcd) pa_nil hs) hbase hfew hline hs hplain) hsw) fun D' σ H ⟨F, S, s, h⟩ => by
    refine ⟨F, S, s, (WPs.bindG h s.same).imp (Same.refl H) fun lc q v H1 s1 at_ => ?_⟩
    have S1 := s.ext s1
    split at q
    · rename_i ds d hg hy
      split at q
      · rename_i hz
        obtain ⟨u, fy, hu, oy, ndy, _, less, _⟩ := S1.mut2 hy
        have S2 := less fy (fun _ h => h)
        obtain ⟨v0, fl, a, b, c, _, cl⟩ := S2.openL hg
        have ev : v0 = v := (a.same lessH_to).one at_
        subst ev
        obtain ⟨p0, vs, g, rfl, hp, ow, rfl⟩ := b.lst_inv (p := 0)
        have hp1 : H1 p0 = some (.lst vs) := lessH_to _ _ hp
        have ow1 := ow.mono (lessH_to (fl := fy))
        have hl := ow.length
        have nd' := List.nodup_cons.mp c
        have dis : ∀ q ∈ p0 :: g, q ∉ fy := fun q hq hm => by
          obtain ⟨o, ho, _⟩ := b.there q hq
          unfold lessH at ho
          rw [if_pos hm] at ho
          cases ho
        have hz' := szOk_lt (n := ds.length) (by unfold szOk at hz ⊢; simp at hz ⊢; omega)
        refine ⟨.inl ⟨rfl, vs, SqL.of hp1⟩, u, hu, p0, vs, u, rfl, rfl, hp1, by omega, q σ _ (cl true _ _ (p0 :: (g ++ fy)) (fun q o hq ho => ?_) (.lst upd_same ?_) ?_ ?_ ?_) (Stay.refl M σ)⟩
        · rw [upd_ne (show q ≠ p0 from fun z => hq (by rw [z]; exact List.mem_cons_self))]
          exact lessH_to _ _ ho
        · exact Owns.append (ow1.upd hp1 rfl nd'.1) ((Owns.one oy).upd hp1 rfl (dis p0 List.mem_cons_self))
        · refine List.nodup_cons.mpr ⟨fun hm => (List.mem_append.mp hm).elim nd'.1 (dis p0 List.mem_cons_self), List.nodup_append.mpr ⟨nd'.2, ndy, fun x hx y hy e => ?_⟩⟩
          subst e
          exact dis x (List.mem_cons_of_mem _ hx) hy
        · intro q hq
          rcases List.mem_cons.mp hq with rfl | hq
          · exact .inl List.mem_cons_self
          · rcases List.mem_append.mp hq with hq | hq
            · exact .inl (List.mem_cons_of_mem _ hq)
            · exact .inr (if_pos hq)
        · intro _ ds0 p1 vs0 e1 e2 e3
          cases e1
          cases e2
          rw [hp] at e3
          cases e3
          refine ⟨_, _, rfl, upd_same, fun j x hj hx => ⟨by simp; omega, ?_⟩⟩
          rw [List.getElem?_append_left (List.getElem?_eq_some_iff.mp hx).1]
          exact hx
      · exact q.elim
    · rename_i ds d hg hy
      split at q
      · rename_i hz
        have hz := Bool.and_eq_true_iff.mp hz
        have hg' := getL_un hg
        obtain ⟨u, hu, ru⟩ := S1.en.2 y d (by unfold en; rw [List.getElem?_map, hy]; rfl)
        obtain ⟨v0, fl, a, b, c, _, cl⟩ := S1.openL hg'
        have ev : v0 = v := a.one at_
        subst ev
        refine ⟨tyV_own b, u, hu, mk_app H1 v0 _ fl [u] [d] [] _ true (fun _ H3 => D'.nx σ H3) b c (Owns.pur (.cons ru .nil) (by rw [pureDs_cons, hz.1, pureDs_nil]; rfl)) .nil (fun _ _ z => nomatch z) (by show (if szOk (ds.length + 1) = true then some (D.lst (ds ++ [d]), true) else none) = _; rw [if_pos hz.2]) fun H' fl' o1 o2 o3 o4 o5 => q σ H' (cl true H' _ fl' o1 o2 o3 (fun p hp => (o4 p hp).elim .inl (fun z => nomatch z)) o5) (Stay.refl M σ)⟩
      · exact q.elim
    · exact q.elim
theorem s_appE (s : Nat) {x : Str} {apos cpos px : Pos} {fe : List Slot → Res (D × List Slot)} (he : JE X Y W e fe) (hN : X.N[s]? = some x := by rfl) (hv : Vis X.env.scope x := by first | exact Or.inl rfl | exact Or.inr (Or.inl rfl) | exact Or.inr (Or.inr rfl)) (hd : (x == ("__debug__" : Str)) = false := by decide) (hcd : (x == ("__classdict__" : Str)) = false := by decide)
    (hbase : attributeBase (.Name x px) "append" X.env (eval (.Name x px) X.env) = eval (.Name x px) X.env := by rfl)
    (hfew : ((backTo cpos (starEach (e :: []) X.env)).all (fun x => !x.1) && (backToKw cpos (keywordEach [] X.env)).all (fun x => x.1.isSome)
      && decide ((e :: []).length + ([] : List Keyword).length + (if ([] : List Keyword).isEmpty then 0 else 1) < 30)) = true := by rfl)
    (hline : (apos.endLine == cpos.line) = true := by rfl) (hs : starEach (e :: []) X.env = (false, eval e X.env) :: starEach [] X.env := by rfl) (hplain : (backTo cpos (starEach [] X.env)).any (·.1) = false := by rfl)
    (hsw : swapsWith (.Call (.Attribute (.Name x px) "append" apos) [e] [] cpos) none pos.line X.env = pure false := by rfl) :
    JS X Y W M (.Expr (.Call (.Attribute (.Name x px) "append" apos) [e] [] cpos) pos) (sAppE s fe) :=
  PS.imp (ps_expr (pe_bm F.plainAttrs_list F.slot_list_append (by with_unfolding_all rfl) mt_append (pe_var hN hv hd hcd) (pa_cons he pa_nil hs) hbase hfew hline hs hplain) hsw) fun D' σ H ⟨F, S, st, h⟩ => by
    unfold sAppE at h
    split at h
    · rename_i ds0 q0
      obtain ⟨v, fl0, hv, o0⟩ := st.own_at q0
      refine ⟨v, hv, tyV_own o0, F, S, st, (WPs.bindG (σ := σ) h st.same).imp (Same.refl H) fun r q u H1 s1 ru hp => ?_⟩
      obtain ⟨d, S'⟩ := r
      have q : WPs X.K Y W M F D' σ (match S'[s]? with
        | some (.own (.lst ds)) => if szOk (ds.length + 1) = true then .ok (.nx (S'.set s (.own (.lst (ds ++ [d]))))) else .stuck
        | _ => .stuck) := q
      split at q
      · rename_i ds q1
        split at q
        · rename_i hz
          have hg : getL S' (.top s) = some (.lst ds) := by
            show (match S'[s]? with
              | some (.own d) => some d
              | _ => none) = _
            rw [q1]
          obtain ⟨v0, fl, a, b, c, _, cl⟩ := s1.openL hg
          have ev : v0 = v := by
            have a' : σ[s]? = some (some v0) := a
            rw [hv] at a'
            cases a'
            rfl
          subst ev
          exact mk_app H1 v0 _ fl [u] [d] [] _ true (fun _ H3 => D'.nx σ H3) b c (Owns.pur (.cons ru .nil) (by rw [pureDs_cons, hp, pureDs_nil]; rfl)) .nil (fun _ _ z => nomatch z) (by show (if szOk (ds.length + 1) = true then some (D.lst (ds ++ [d]), true) else none) = _; rw [if_pos hz]) fun H' fl' o1 o2 o3 o4 o5 => q σ H' (cl true H' _ fl' o1 o2 o3 (fun p hp => (o4 p hp).elim .inl (fun z => nomatch z)) o5) (Stay.refl M σ)
        · exact q.elim
      · exact q.elim
    · exact h.elim
end
end Ow
end
section
set_option linter.all false
set_option maxRecDepth 100000
set_option maxHeartbeats 2000000
/-! Ow21: lists of lists of whole numbers: their order, sorted, least. -/
namespace Ow
open PySem L2 PySem.Spec
def rLtD (K : PySem.W.Frag) : R2 := fun x y H Q => ∃ d e, Dp K H x d ∧ Dp K H y e ∧ PySem.W.alike d e = true ∧ d ≠ .none ∧ d.depth ≤ 64 ∧ Q (.bl (PySem.W.dataLt d e)) H
theorem op_ltD {X : Cx} (hu : X.A.units + 64 < cLine) : OpR X (compareOp .Lt) (rLtD X.K) := by
  intro pins s σ H x y v u Q I rx ry h
  obtain ⟨d, e, hd, he, al, nn, dp, q⟩ := h
  obtain ⟨as, r1⟩ := Dp.reads I d x v hd rx
  obtain ⟨bs, r2⟩ := Dp.reads I e y u he ry
  exact PySem.W.rcLt_alike d e X.A s v u as bs r1 r2 al nn (by have := Nat.min_le_left d.depth e.depth; omega) _ _ _ _ ⟨.bl _, H, I, rfl, q⟩
theorem alike_ints : ∀ a b : List Int, PySem.W.alikeAll (a.map PyData.int) (b.map PyData.int) = true
  | [], [] => by simp [PySem.W.alikeAll]
  | [], _ :: _ => by simp [PySem.W.alikeAll]
  | _ :: _, [] => by simp [PySem.W.alikeAll]
  | x :: a, y :: b => by simp [PySem.W.alikeAll, PySem.W.alike, alike_ints a b]
theorem toks_ints : ∀ a b : List Int, PyProof.Rows.lexLt PyProof.Rows.itemOrd (PySem.W.keyToksAll (a.map PyData.int)) (PySem.W.keyToksAll (b.map PyData.int)) = HT.lexLt a b
  | [], [] => by rw [List.map_nil, PySem.W.keyToksAll]; decide
  | [], y :: b => by
    rw [List.map_nil, List.map_cons, PySem.W.toks_all_cons, PySem.W.keyToksAll, PySem.W.lex_atom (by decide), PySem.W.lex_one]
    rfl
  | x :: a, [] => by
    rw [List.map_nil, List.map_cons, PySem.W.toks_all_cons, PySem.W.keyToksAll, PySem.W.lex_atom (by decide), PySem.W.lex_one]
    rfl
  | x :: a, y :: b => by
    rw [List.map_cons, List.map_cons, HT.lexLt_cons]
    have al : PySem.W.alike (.int x) (.int y) = true := by simp [PySem.W.alike]
    by_cases h : x = y
    · subst h
      rw [if_pos rfl, PySem.W.dataLt_all_yes al (by rw [PyData.eqv]; simp), toks_ints a b]
    · rw [if_neg h, PySem.W.dataLt_all_no al (by rw [PyData.eqv]; simp [h]), PySem.W.dataLt_int]
theorem dataLt_ints (a b : List Int) : PySem.W.dataLt (.list (a.map PyData.int)) (.list (b.map PyData.int)) = HT.lexLt a b := by rw [PySem.W.dataLt_list, toks_ints]
theorem depth_ints : ∀ a : List Int, PyData.depthAll (a.map PyData.int) = 0
  | [] => by rw [List.map_nil, PyData.depthAll]
  | x :: a => by rw [List.map_cons, PyData.depthAll, PyData.depth, depth_ints a]; rfl
theorem depth_l (a : List Int) : (PyData.list (a.map PyData.int)).depth = 1 := by rw [PyData.depth, depth_ints]
theorem dp_ints {K : PySem.W.Frag} {Y : Cl} {H : Hp} {v : V} {d : D} {ns : List Int} (r : Rep K Y H v d) (h : ilD d = some ns) : Dp K H v (.list (ns.map PyData.int)) := by
  obtain ⟨p, rfl, hs⟩ := ilD_rep r h
  exact .lst hs (dpAll_ints ns)
def oLtL : D → D → Res D := fun d e => match ilD d, ilD e with
  | some a, some b => .ok (.bl (HT.lexLt a b))
  | _, _ => .stuck
section
variable {X : Cx} {Y : Cl} {W : Wh} {k : Kd} {a b : Expr} {fa fb : En → Res D} {pos p : Pos}
theorem op2_ltL : Op2 X.K Y k (rLtD X.K) oLtL := by
  intro H x y d e Q rx ry ⟨z, hz, po⟩
  unfold oLtL at hz
  split at hz
  · rename_i a b ha hb
    cases hz
    refine ⟨_, _, dp_ints rx ha, dp_ints ry hb, ?_, (fun z => nomatch z), by rw [depth_l]; decide, ?_⟩
    · rw [PySem.W.alike]
      exact alike_ints a b
    · rw [dataLt_ints]
      exact po.pure (Same.refl H) .bl (pureD_bl _)
  · cases hz
theorem oLtL_calm : Calm2 oLtL := calm2_ite fun d e => by unfold oLtL; split <;> simp
theorem j_ltL {n : Nat} (hr : Room n X.A) (ha : J X Y W .r a fa) (hb : J X Y W .r b fb) : J X Y W k (.Compare a [.Lt] [b] pos) (x2 oLtL fa fb) := j_cmp (op_ltD hr.units) op2_ltL oLtL_calm ha hb (nomark _)
theorem t_ltL {n : Nat} (hr : Room n X.A) (ha : J X Y W .r a fa) (hb : J X Y W .r b fb) : T X Y W (.Compare a [.Lt] [b] pos) (tBl (x2 oLtL fa fb)) := t_cmp (op_ltD hr.units) op2_ltL oLtL_calm ha hb (nomark _)
end
def leL (p q : V × List Int) : Bool := !HT.lexLt q.2 p.2
def rSortedLL (K : PySem.W.Frag) : List V → Hp → VK → Prop := fun vs H Q => ∃ (a : Addr) (L : List (V × List Int)), vs = [.ref a] ∧ SqL K H a (L.map (·.1)) ∧ (∀ p ∈ L, Dp K H p.1 (.list (p.2.map PyData.int))) ∧ ∀ l, H l = none → Q (.ref l) (upd H l (.lst ((L.mergeSort leL).map (·.1))))
theorem each_vals : ∀ {L : List (V × List Int)} {us : List Value}, Vals (L.map (·.1)) us → PySem.W.EachIs (fun (v : Value) (p : V × List Int) => RelV p.1 v) us L
  | [], _, .nil => .nil
  | p :: L, _, .cons h t => .cons h (each_vals t)
theorem vals_each : ∀ {us : List Value} {L : List (V × List Int)}, PySem.W.EachIs (fun (v : Value) (p : V × List Int) => RelV p.1 v) us L → Vals (L.map (·.1)) us
  | _, _, .nil => .nil
  | _, _, .cons h t => .cons h (vals_each t)
theorem sortedLL_swap (a b : V × List Int) : PySem.W.sortLe (PyProof.Rows.listOrd PyProof.Rows.itemOrd) false (fun p : V × List Int => PySem.W.keyToks (.list (p.2.map PyData.int))) a b = leL a b := by
  show (!PyProof.Rows.lexLt PyProof.Rows.itemOrd (PySem.W.keyToks (.list (b.2.map PyData.int))) (PySem.W.keyToks (.list (a.2.map PyData.int)))) = !HT.lexLt b.2 a.2
  rw [PySem.W.keyToks, PySem.W.keyToks, toks_ints]
theorem cr_sortedLL {X : Cx} (hu : X.A.units + 64 < cLine) : CallR X (.builtin "sorted") (rSortedLL X.K) := by
  intro pins s σ H vs us Q I r h
  obtain ⟨a, L, rfl, hs, hD, q⟩ := h
  obtain ⟨its, rv, hl, hz⟩ := I.list hs
  rw [Vals.ref1 r]
  have hev := each_vals rv
  let h1 : Heap := PySem.W.sortingHeap (PySem.W.copyHeap s.heap its) (s.heap.objs.size + 1) its
  have kp : ∀ b o, s.heap.get? b = some o → h1.get? b = some o := fun b o e => PySem.W.sorting_copy_old e
  let ds : List PyData := L.map fun p => .list (p.2.map PyData.int)
  have er : PySem.W.EachIs (fun v d => ∃ as, Reads h1 v d as) its ds := by
    have : ∀ {us : List Value} {L : List (V × List Int)}, PySem.W.EachIs (fun (v : Value) (p : V × List Int) => RelV p.1 v) us L → (∀ p ∈ L, Dp X.K H p.1 (.list (p.2.map PyData.int))) → PySem.W.EachIs (fun v d => ∃ as, Reads h1 v d as) us (L.map fun p => .list (p.2.map PyData.int)) := by
      intro us L e
      induction e with
      | nil => exact fun _ => .nil
      | cons hr _ ih =>
        intro hd
        obtain ⟨as, ra⟩ := Dp.reads I _ _ _ (hd _ List.mem_cons_self) hr
        exact .cons ⟨as, PyProof.Rows.Reads.keeps kp ra⟩ (ih fun p hp => hd p (List.mem_cons_of_mem _ hp))
    exact this hev hD
  have hal : PySem.W.AllAlike ds := fun d hd d' hd' => by
    obtain ⟨p, _, rfl⟩ := List.mem_map.mp hd
    obtain ⟨p', _, rfl⟩ := List.mem_map.mp hd'
    rw [PySem.W.alike]
    exact alike_ints _ _
  have S : PySem.W.SortsAt X.prog X.w X.A.in1.in1 { s with heap := h1 } (PySem.W.dataKind h1 ds) its :=
    PySem.W.SortsAt.data (s := { s with heap := h1 }) er hal (.inr fun d hd => by
      obtain ⟨p, _, rfl⟩ := List.mem_map.mp hd
      exact ⟨by simp, by intro xs; simp⟩) fun d hd => by
      obtain ⟨p, _, rfl⟩ := List.mem_map.mp hd
      rw [depth_l]
      show X.A.units + 1 + 1 + 1 < cLine
      omega
  refine PySem.W.sorted_vals hl.isList S (by rw [← rv.length]; exact hz) ?_
  have hkey : PySem.W.EachIs (fun v (p : V × List Int) => (PySem.W.dataKind h1 ds).keyOf v = some (PySem.W.keyToks (.list (p.2.map PyData.int)))) its L := by
    have : ∀ {us : List Value} {M : List (V × List Int)}, PySem.W.EachIs (fun (v : Value) (p : V × List Int) => RelV p.1 v) us M → (∀ p ∈ M, p ∈ L) → PySem.W.EachIs (fun v (p : V × List Int) => (PySem.W.dataKind h1 ds).keyOf v = some (PySem.W.keyToks (.list (p.2.map PyData.int)))) us M := by
      intro us M e
      induction e with
      | nil => exact fun _ => .nil
      | cons hr _ ih =>
        intro hm
        have hp := hm _ List.mem_cons_self
        obtain ⟨as, ra⟩ := Dp.reads I _ _ _ (hD _ hp) hr
        exact .cons (PySem.W.dataKind_some hal (List.mem_map.mpr ⟨_, hp, rfl⟩) (PyProof.Rows.Reads.keeps kp ra)) (ih fun p hp => hm p (List.mem_cons_of_mem _ hp))
    exact this hev fun p hp => hp
  have out := PySem.W.sortVals_each (κ := PySem.W.dataKind h1 ds) (rev := false) (R := fun (v : Value) (p : V × List Int) => RelV p.1 v) (fun p : V × List Int => PySem.W.keyToks (.list (p.2.map PyData.int))) hev hkey
  have em : L.mergeSort (PySem.W.sortLe (PySem.W.dataKind h1 ds).toKeyOrd false fun p : V × List Int => PySem.W.keyToks (.list (p.2.map PyData.int))) = L.mergeSort leL := PySem.W.sort_congr fun a _ b _ => sortedLL_swap a b
  rw [em] at out
  have vo := vals_each out
  obtain ⟨ep, he'⟩ := PyProof.Rows.sortedAll_at s.heap its (PySem.W.sortVals (PySem.W.dataKind h1 ds) false its its).toArray
  have hlen : ((L.mergeSort leL).map (·.1)).length ≤ sizeLine := by
    rw [List.length_map, (List.mergeSort_perm _ _).length_eq]
    rw [List.length_map] at hz
    exact hz
  exact ⟨.ref _, upd H (s.heap.objs.size + 1) (.lst ((L.mergeSort leL).map (·.1))), I.laid (t' := s.toks) (fun _ _ => PyProof.Rows.sortedAll_old) (Nat.le_succ _) ⟨hlen, _, ep, vo, he'⟩, rfl, q _ (I.hok.fresh (Nat.le_succ _))⟩
/-! ### as words -/
def llD : List D → Option (List (List Int))
  | [] => some []
  | d :: ds => match ilD d, llD ds with
    | some a, some r => some (a :: r)
    | _, _ => none
def leI (a b : List Int) : Bool := !HT.lexLt b a
def sortLL (A : List (List Int)) : List (List Int) := A.mergeSort leI
section
variable {K : PySem.W.Frag} {Y : Cl} {F H H' : Hp}
/-- a list of lists of whole numbers, each with its place -/
theorem llD_own : ∀ {vs : List V} {ds : List D} {fp : List Addr} {A : List (List Int)}, Owns K Y H vs ds fp → llD ds = some A → (∀ d ∈ ds, ∃ xs, d = .lst xs) → ∃ L : List (V × List Int), L.map (·.1) = vs ∧ L.map (·.2) = A ∧ Owns K Y H (L.map (·.1)) (L.map fun p => .lst (p.2.map D.int)) fp ∧ ∀ p ∈ L, Dp K H p.1 (.list (p.2.map PyData.int))
  | _, _, _, A, .nil, h, _ => by
    cases h
    exact ⟨[], rfl, rfl, .nil, fun _ z => nomatch z⟩
  | v :: vs, d :: ds, _, A, .cons (f := f) (g := g) o r, h, hl => by
    unfold llD at h
    split at h
    · rename_i a B ha hB
      cases h
      obtain ⟨L, e1, e2, e3, e4⟩ := llD_own r hB fun d hd => hl d (List.mem_cons_of_mem _ hd)
      obtain ⟨xs, rfl⟩ := hl d List.mem_cons_self
      have ex := intsOf_map (ds := xs) ha
      subst ex
      refine ⟨(v, a) :: L, by simp [e1], by simp [e2], .cons o e3, fun p hp => ?_⟩
      rcases List.mem_cons.mp hp with rfl | hp
      · exact dp_ints o.rep ha
      · exact e4 p hp
    · cases h
theorem Owns.perm {f : V × List Int → D} {L L' : List (V × List Int)} (h : L.Perm L') : ∀ {fp : List Addr}, Owns K Y H (L.map (·.1)) (L.map f) fp → ∃ fp', fp'.Perm fp ∧ Owns K Y H (L'.map (·.1)) (L'.map f) fp' := by
  induction h with
  | nil => exact fun o => ⟨_, List.Perm.refl _, o⟩
  | cons x _ ih =>
    intro fp o
    cases o with
    | cons a b =>
      obtain ⟨g', h1, h2⟩ := ih b
      exact ⟨_, List.Perm.append_left _ h1, .cons a h2⟩
  | swap x y l =>
    intro fp o
    cases o with
    | cons a b =>
      cases b with
      | cons c d =>
        refine ⟨_, ?_, .cons c (.cons a d)⟩
        rw [← List.append_assoc, ← List.append_assoc]
        exact List.Perm.append_right _ List.perm_append_comm
  | trans _ _ ih1 ih2 =>
    intro fp o
    obtain ⟨g1, h1, h2⟩ := ih1 o
    obtain ⟨g2, h3, h4⟩ := ih2 h2
    exact ⟨g2, h3.trans h1, h4⟩
theorem sortLL_map (L : List (V × List Int)) : (L.mergeSort leL).map (·.2) = sortLL (L.map (·.2)) := PySem.W.sort_maps (r := leL) (s := leI) (fun p : V × List Int => p.2) (fun _ _ _ _ => rfl)
end
def allL : List D → Bool
  | [] => true
  | .lst _ :: r => allL r
  | _ :: _ => false
theorem allL_is : ∀ {ds : List D}, allL ds = true → ∀ d ∈ ds, ∃ xs, d = .lst xs
  | d :: ds, h, e, he => by
    unfold allL at h
    split at h
    · rename_i h0; cases h0
    · rename_i h0
      cases h0
      rcases List.mem_cons.mp he with rfl | he
      · exact ⟨_, rfl⟩
      · exact allL_is h e he
    · cases h
/-- return sorted(x), x a slot's own -/
def sRetSort (i : Nat) : List Slot → Res Fl := fun S => match S[i]? with
  | some (.own (.lst ds)) => match llD ds with
    | some A => if allL ds = true then .ok (.rt (.lst ((sortLL A).map fun a => .lst (a.map D.int))) (setS S i .un)) else .stuck
    | none => .stuck
  | _ => .stuck
section
variable {X : Cx} {Y : Cl} {W : Wh} {M : Md} {pos p px : Pos}
theorem s_retSort (i : Nat) {x : Str} {n : Nat} (hr : Room n X.A) (hg : Gl X "sorted") (hm : X.mg "sorted" = none) (hN : X.N[i]? = some x := by rfl) (hv : Vis X.env.scope x := by first | exact Or.inl rfl | exact Or.inr (Or.inl rfl) | exact Or.inr (Or.inr rfl)) (hd : (x == ("__debug__" : Str)) = false := by decide) (hcd : (x == ("__classdict__" : Str)) = false := by decide)
    (hs : starEach ((.Name x px) :: []) X.env = (false, eval (.Name x px) X.env) :: starEach [] X.env := by rfl) (hpl : (backTo pos (starEach [] X.env)).any (·.1) = false := by rfl) {pos' : Pos} :
    JS X Y W M (.Return (some (.Call (.Name "sorted" p) [.Name x px] [] pos)) pos') (sRetSort i) :=
  PS.imp (ps_ret (pe_callB (cr_sortedLL hr.units) hg hm (by decide +kernel) (pa_cons (pe_var hN hv hd hcd) pa_nil hs) (by decide) (by decide) hs hpl)) fun D' σ H ⟨F, S, s, h⟩ => by
    unfold sRetSort at h
    split at h
    · rename_i ds q
      split at h
      · rename_i A hA
        split at h
        · rename_i hall
          obtain ⟨v, fl, hσ, o, nd, _, less, _⟩ := s.mut2 q
          obtain ⟨q0, vs, g, rfl, hq, ow, rfl⟩ := o.lst_inv (p := 0)
          obtain ⟨L, e1, e2, e3, e4⟩ := llD_own ow hA (allL_is hall)
          refine ⟨.ref q0, hσ, q0, L, rfl, SqL.of (by rw [e1]; exact hq), e4, fun l hl => ?_⟩
          have ndg := List.nodup_cons.mp nd
          obtain ⟨g', hp, ow'⟩ := e3.perm (List.mergeSort_perm L leL).symm
          have hdata : ((L.mergeSort leL).map fun p : V × List Int => D.lst (p.2.map D.int)) = (sortLL A).map fun a => .lst (a.map D.int) := by
            rw [← e2, ← sortLL_map, List.map_map]
            rfl
          rw [hdata] at ow'
          have ln : l ∉ g' := fun z => by
            obtain ⟨o', ho, _⟩ := ow.there l (hp.mem_iff.mp z)
            rw [ho] at hl
            cases hl
          have own' : Own X.K Y (upd H l (.lst ((L.mergeSort leL).map (·.1)))) (.ref l) (.lst ((sortLL A).map fun a => .lst (a.map D.int))) (l :: g') := .lst upd_same (ow'.mono (same_new hl))
          have S2 := less (q0 :: g) (fun _ h => h)
          refine h (.ref l) _ ⟨σ, Stay.refl M σ, ?_⟩
          refine S2.more.setMk (i := (setS S i .un).length) (fun p u e => ?_) own' (List.nodup_cons.mpr ⟨ln, hp.nodup_iff.mpr ndg.2⟩) fun p hpm => ?_
          · have e' := lessH_to _ _ e
            exact same_new hl _ _ e'
          · rcases List.mem_cons.mp hpm with rfl | hpm
            · show (if p ∈ q0 :: g then none else H p) = none
              split
              · rfl
              · exact hl
            · exact if_pos (List.mem_cons_of_mem _ (hp.mem_iff.mp hpm))
        · exact h.elim
      · exact h.elim
    · exact h.elim
end
end Ow
end
section
set_option linter.all false
set_option maxRecDepth 100000
set_option maxHeartbeats 2000000
/-! Ow22: the least of a new list of lists. -/
namespace Ow
open PySem L2 PySem.Spec PySem.W
def minLL (x : List Int) (xs : List (List Int)) : List Int := xs.foldl (fun a y => if HT.lexLt y a then y else a) x
theorem minD_lists : ∀ (xs : List (List Int)) (x : List Int), minD (.list (x.map PyData.int)) (xs.map fun a => .list (a.map PyData.int)) = .list ((minLL x xs).map PyData.int)
  | [], x => rfl
  | y :: xs, x => by
    have ih := fun z => minD_lists xs z
    unfold minD minLL at *
    rw [List.map_cons, List.foldl_cons, List.foldl_cons, dataLt_ints]
    by_cases h : HT.lexLt y x = true
    · rw [if_pos h, if_pos h]; exact ih y
    · rw [if_neg h, if_neg h]; exact ih x
theorem ints_inj : ∀ {a b : List Int}, a.map PyData.int = b.map PyData.int → a = b
  | [], [], _ => rfl
  | [], _ :: _, h => by cases h
  | _ :: _, [], h => by cases h
  | x :: a, y :: b, h => by
    rw [List.map_cons, List.map_cons] at h
    have h1 := (List.cons.inj h).1
    have h2 := ints_inj (List.cons.inj h).2
    cases h1
    rw [h2]
def rMinLL (K : PySem.W.Frag) : List V → Hp → VK → Prop := fun vs H Q => ∃ (a : Addr) (p0 : V × List Int) (L : List (V × List Int)), vs = [.ref a] ∧ SqL K H a ((p0 :: L).map (·.1)) ∧ (∀ p ∈ p0 :: L, Dp K H p.1 (.list (p.2.map PyData.int))) ∧ ∀ p ∈ p0 :: L, p.2 = minLL p0.2 (L.map (·.2)) → Q p.1 H
theorem dpAll_of {K : PySem.W.Frag} {H : Hp} : ∀ {L : List (V × List Int)}, (∀ p ∈ L, Dp K H p.1 (.list (p.2.map PyData.int))) → DpAll K H (L.map (·.1)) (L.map fun p => .list (p.2.map PyData.int))
  | [], _ => .nil
  | p :: L, h => .cons (h p List.mem_cons_self) (dpAll_of fun q hq => h q (List.mem_cons_of_mem _ hq))
theorem depthAll_lists : ∀ A : List (V × List Int), PyData.depthAll (A.map fun p => .list (p.2.map PyData.int)) ≤ 1
  | [] => by rw [List.map_nil, PyData.depthAll]; exact Nat.zero_le _
  | p :: A => by
    rw [List.map_cons, PyData.depthAll, depth_l]
    have := depthAll_lists A
    exact Nat.max_le.mpr ⟨Nat.le_refl _, this⟩
theorem cr_minLL {X : Cx} (hc : X.calm = true) (hu : X.A.units + 64 < cLine) : CallR X (.builtin "min") (rMinLL X.K) := by
  intro pins s σ H vs us Q I r h
  obtain ⟨a, p0, L, rfl, hs, hD, q⟩ := h
  obtain ⟨its, rv, hl, hz⟩ := I.list hs
  rw [Vals.ref1 r]
  obtain ⟨as, ra⟩ := Dp.readsAll I _ _ _ (dpAll_of hD) rv
  have al : AlikeAll ((p0 :: L).map fun p => PyData.list (p.2.map PyData.int)) := ⟨fun x hx y hy => by
    obtain ⟨p, _, rfl⟩ := List.mem_map.mp hx
    obtain ⟨p', _, rfl⟩ := List.mem_map.mp hy
    rw [PySem.W.alike]
    exact alike_ints _ _, fun x hx => by
    obtain ⟨p, _, rfl⟩ := List.mem_map.mp hx
    simp⟩
  have hd := depthAll_lists (p0 :: L)
  rw [List.map_cons] at ra al hd
  refine min_list_data (vs := its.toArray) (I.ok.hd hc) hl.isList ra al (by omega) fun i v h' tk bs hv rd kp => ?_
  have hv' : its[i]? = some v := by simpa using hv
  have hlen := rv.length
  have hi : i < (p0 :: L).length := by
    have := (List.getElem?_eq_some_iff.mp hv').1
    rw [List.length_map] at hlen
    omega
  obtain ⟨u, hu1, ru⟩ := rv.get (i := i) (x := ((p0 :: L)[i]).1) (by rw [List.getElem?_map, List.getElem?_eq_getElem hi]; rfl)
  rw [hv'] at hu1
  cases hu1
  have hmem : (p0 :: L)[i] ∈ p0 :: L := List.getElem_mem hi
  obtain ⟨as2, r2⟩ := Dp.reads I _ _ _ (hD _ hmem) ru
  have r2' := PyProof.Rows.Reads.keeps kp r2
  have em := minD_lists (L.map (·.2)) p0.2
  rw [List.map_map] at em
  have rd' : Reads h' v (.list ((minLL p0.2 (L.map (·.2))).map PyData.int)) bs := by
    rw [← em]
    exact rd
  have un := PySem.W.alike_unique _ _ v _ _ (by rw [PySem.W.alike]; exact alike_ints _ _) r2' rd'
  have e2 : ((p0 :: L)[i]).2 = minLL p0.2 (L.map (·.2)) := ints_inj (by injection un)
  exact ⟨_, H, I.kept kp, ru, q _ hmem e2⟩
def oMinLL : D → Res D := fun d => match d with
  | .lst ds => match llD ds with
    | some (x :: xs) => if allL ds = true then .ok (.lst ((minLL x xs).map D.int)) else .stuck
    | _ => .stuck
  | _ => .stuck
theorem oMinLL_calm : Calm1 oMinLL := calm1_ite fun d => by unfold oMinLL; split <;> (try split) <;> (try split) <;> simp
section
variable {X : Cx} {Y : Cl} {W : Wh} {a : Expr} {fa : En → Res D} {pos p : Pos}
theorem jn_minLL {n : Nat} (hr : Room n X.A) (hc : X.calm = true) (hg : Gl X "min") (hm : X.mg "min" = none) (ha : J X Y W .n a fa) (hs : starEach (a :: []) X.env = (false, eval a X.env) :: starEach [] X.env := by rfl) (hpl : (backTo pos (starEach [] X.env)).any (·.1) = false := by rfl) :
    J X Y W .n (.Call (.Name "min" p) [a] [] pos) (x1 oMinLL fa) :=
  PE.imp (pe_callB (cr_minLL hc hr.units) hg hm (by decide +kernel) (pa_cons ha pa_nil hs) (by decide) (by decide) hs hpl) fun σ H Q ⟨en, he, h⟩ => ⟨en, he, (WPr.bind h).imp (Same.refl H) fun d q => by
    intro v H1 fp sh o nd fr
    obtain ⟨z, ez, pz⟩ := WPr.calm (oMinLL_calm d) q
    unfold oMinLL at ez
    split at ez
    · rename_i ds
      split at ez
      · rename_i x xs hA
        split at ez
        · rename_i hall
          cases ez
          obtain ⟨q0, vs, g, rfl, hq, ow, rfl⟩ := o.lst_inv (p := 0)
          obtain ⟨L, e1, e2, e3, e4⟩ := llD_own ow hA (allL_is hall)
          cases L with
          | nil => cases e2
          | cons p0 L =>
            have ex : p0.2 = x ∧ L.map (·.2) = xs := by
              rw [List.map_cons] at e2
              exact ⟨(List.cons.inj e2).1, (List.cons.inj e2).2⟩
            refine ⟨q0, p0, L, rfl, SqL.of (by rw [e1]; exact hq), e4, fun p hp hpe => ?_⟩
            obtain ⟨i, hi, hpi⟩ := List.getElem_of_mem hp
            obtain ⟨u, f', hu, of, hsub⟩ := Owns.get (i := i) (d := .lst (p.2.map D.int)) e3 (by rw [List.getElem?_map, List.getElem?_eq_getElem hi, hpi]; rfl)
            rw [List.getElem?_map, List.getElem?_eq_getElem hi, hpi] at hu
            cases hu
            rw [ex.1, ex.2] at hpe
            rw [hpe] at of
            have pz : Po X.K Y .n (.lst ((minLL x xs).map D.int)) H Q := pz
            exact pz _ H1 f' sh of (hsub.nodup (List.nodup_cons.mp nd).2) fun w hw => fr w (List.mem_cons_of_mem _ (hsub.mem hw))
        · cases ez
      · cases ez
    · cases ez⟩
end
end Ow
end
section
set_option linter.all false
set_option maxRecDepth 100000
set_option maxHeartbeats 2000000
/-! Ow23: or behind a test that changes a slot; a name's item of a pair handed in. -/
namespace Ow
open PySem L2 PySem.Spec
section
variable {X : Cx} {Y : Cl} {W : Wh} {a b : Expr} {fu : List Slot → Res (Bool × List Slot)} {gb : En → Res Bool} {pos : Pos}
theorem tb_or (ha : TE' X Y W a fu) (hb : T X Y W b gb) : TE' X Y W (.BoolOp .Or [a, b] pos) (uOr fu gb) :=
  PT.imp (PW.pt (pw_or ha (pw_or1 hb))) fun σ H Q ⟨F, S, s, h⟩ => ⟨F, S, s, (WPr.bind h).imp (Same.refl H) fun r q H1 s1 => by
    obtain ⟨c, S'⟩ := r
    cases c with
    | true => exact q H1 s1
    | false =>
      have s1' : Sat X.K Y F S' σ H1 := s1
      have q : WPr X.K Y W σ H (noX (gb (en S')) >>= fun b => Res.ok (b, S')) fun r => ∀ H', Sat X.K Y F r.2 σ H' → Q r.1 H' := q
      rw [if_neg Bool.false_ne_true]
      refine ⟨en S', s1'.en, ?_⟩
      cases z : gb (en S') with
      | stuck => rw [z] at q; exact q.elim
      | exc e => rw [z] at q; exact q.elim
      | ok v =>
        rw [z] at q
        exact fun H2 s2 => q H2 (s1'.ext s2)⟩
end
end Ow
end
section
set_option linter.all false
set_option maxRecDepth 100000
set_option maxHeartbeats 2000000
/-! Ow24: list(range(n)). -/
namespace Ow
open PySem L2 PySem.Spec
def upI (n : Nat) : List Int := (List.range n).map fun k => ((k : Nat) : Int)
def oRange : D → Res D := fun d => match d with
  | .int n => if (decide (0 ≤ n) && decide (n ≤ 16777215)) = true then .ok (.lst ((upI n.toNat).map D.int)) else .stuck
  | _ => .stuck
section
variable {X : Cx} {Y : Cl} {W : Wh} {a : Expr} {fa : En → Res D} {pos pos2 p p2 : Pos}
theorem j_listRange (hc : X.calm = true) (hg : Gl X "list") (hm : X.mg "list" = none) (hg2 : Gl X "range") (hm2 : X.mg "range" = none) (ha : J X Y W .r a fa) (na : starEach (a :: []) X.env = (false, eval a X.env) :: starEach [] X.env := by rfl)
    (na2 : starEach [.Call (.Name "range" p2) [a] [] pos2] X.env = (false, eval (.Call (.Name "range" p2) [a] [] pos2) X.env) :: starEach [] X.env := by rfl) :
    J X Y W .n (.Call (.Name "list" p) [.Call (.Name "range" p2) [a] [] pos2] [] pos) (x1 oRange fa) :=
  PE.imp (pe_listRg hc hg hm (prg_1 hg2 hm2 ha na) na2) fun σ H Q ⟨en, he, h⟩ => ⟨en, he, (WPr.bind h).imp (Same.refl H) fun d q v H1 s1 r1 => by
    unfold oRange at q
    split at q
    · rename_i n
      cases r1
      split at q
      · rename_i hz
        simp only [Bool.and_eq_true, decide_eq_true_eq] at hz
        have q : Po X.K Y .n (.lst ((upI n.toNat).map D.int)) H Q := q
        refine ⟨n, rfl, RgOk.of_le (Int.le_refl _) (by omega) (by decide) hz.1, fun l hl => ?_⟩
        have e : rgV 0 n = (upI n.toNat).map V.int := by
          unfold rgV upI
          rw [List.map_map, Int.sub_zero]
          exact List.map_congr_left fun k _ => by simp
        rw [e]
        exact q _ _ [l] (s1.trans (same_new hl)) (own_ints hl) (List.nodup_cons.mpr ⟨List.not_mem_nil, .nil⟩) (fun w hw => by cases List.mem_singleton.mp hw; exact s1.free hl)
      · exact q.elim
    · exact q.elim⟩
end
end Ow
end
section
set_option linter.all false
set_option maxRecDepth 100000
set_option maxHeartbeats 2000000
/-! Ow25: len of a dict whose keys are tuples. -/
namespace Ow
open PySem L2 PySem.Spec
def oLenT : D → Res D := fun d => match d with
  | .dT kvs => .ok (.int kvs.length)
  | _ => .stuck
section
variable {X : Cx} {Y : Cl} {W : Wh} {k : Kd} {a : Expr} {fa : En → Res D} {pos p : Pos}
theorem oLenT_calm : Calm1 oLenT := calm1_ite fun d => by unfold oLenT; split <;> simp
theorem j_lenT (hg : Gl X "len") (hm : X.mg "len" = none) (ha : J X Y W .r a fa) (hs : starEach (a :: []) X.env = (false, eval a X.env) :: starEach [] X.env := by rfl) (hpl : (backTo pos (starEach [] X.env)).any (·.1) = false := by rfl) : J X Y W k (.Call (.Name "len" p) [a] [] pos) (x1 oLenT fa) :=
  j_cb1 call_len_dT (fun H v d Q r ⟨z, hz, po⟩ => by
    unfold oLenT at hz
    split at hz
    · cases hz
      cases r with
      | dT h q => exact ⟨_, _, rfl, h, by rw [q.length]; exact po.pure (Same.refl H) .int (pureD_int _)⟩
    · cases hz) oLenT_calm hg hm (by decide +kernel) ha (by decide) (by decide) hs hpl
end
end Ow
end
section
set_option linter.all false
set_option maxRecDepth 100000
set_option maxHeartbeats 2000000
/-! Ow26: for x in v, where v is a list of its own whose items the body may change in place. -/
namespace Ow
open PySem L2 PySem.Spec
def forA (i v n : Nat) (b : List Slot → Res Fl) : Nat → List Slot → Res Fl
  | 0, S => match S[v]? with
    | some (.own (.lst ds)) => if ds.length = n then .ok (.nx S) else .stuck
    | _ => .stuck
  | m + 1, S => match S[v]? with
    | some (.own (.lst ds)) => if ds.length = n then (b (setS S i (.ali v (n - (m + 1)))) >>= fun r => match r with
      | .nx S' => forA i v n b m S'
      | .ct S' => forA i v n b m S'
      | .bk S' => .ok (.nx S')
      | .rt d S' => .ok (.rt d S')) else .stuck
    | _ => .stuck
def sForA (i v : Nat) (b : List Slot → Res Fl) : List Slot → Res Fl := fun S => match S[v]? with
  | some (.own (.lst ds)) => forA i v ds.length b ds.length S
  | _ => .stuck
abbrev noV (M : Md) (v : Nat) : Md := fun k => M k && (k != v)
section
variable {X : Cx} {Y : Cl} {W : Wh} {M : Md} {b : List Slot → Res Fl} {body : List Stmt} {pos : Pos} {tg : Expr}
theorem s_forA (i v : Nat) {y : Str} {py : Pos} (hp : PassesOwn (model X.prog X.w) X.A X.env X.xe) (hc : X.calm = true) (hg : PG X tg (gName i)) (hb : JB X Y W (noV M v) body b) (hM : M i = true := by rfl) (hiv : i ≠ v := by decide)
    (hv : X.N[v]? = some y := by rfl) (hvy : Vis X.env.scope y := by first | exact Or.inl rfl | exact Or.inr (Or.inl rfl) | exact Or.inr (Or.inr rfl)) (hd : (y == ("__debug__" : Str)) = false := by decide) (hcd : (y == ("__classdict__" : Str)) = false := by decide)
    (hfs : ∀ x, foldedSetIterable (.Name y py) X.env x = pure x := by intro _; rfl) : JS X Y W M (.For tg (.Name y py) body [] pos) (sForA i v b) := by
  refine PS.imp (ps_for hp hc (pi_list (pe_var hv hvy hd hcd)) hg hb hfs) fun D σ H ⟨F, S, s, h⟩ => ?_
  have hMi : noV M v i = true := by
    show (M i && (i != v)) = true
    rw [hM]
    simpa using hiv
  have hMv : noV M v v = false := by
    show (M v && (v != v)) = false
    simp
  have wkS : ∀ {σ σ' : St}, Stay (noV M v) σ σ' → Stay M σ σ' := fun a => a.mono fun k hk => by
    show (M k && (k != v)) = false
    rw [hk]
    rfl
  unfold sForA at h
  split at h
  · rename_i ds hS
    obtain ⟨G, w, fp, sw⟩ := id s
    obtain ⟨u, hu, ow, _, _⟩ := sw.ok v _ hS
    obtain ⟨p, vs, g, rfl, hp', os, _⟩ := ow.lst_inv (p := 0)
    refine ⟨.ref p, hu, p, rfl, ⟨vs, SqL.of hp'⟩, fun k m σ1 H1 => m = ds.length - k ∧ k ≤ ds.length ∧ ∃ S1, Sat X.K Y F S1 σ1 H1 ∧ Stay (noV M v) σ σ1 ∧ WPs X.K Y W M F D σ (forA i v ds.length b (ds.length - k) S1),
      ⟨ds.length, rfl, Nat.zero_le _, S, s, Stay.refl _ σ, h⟩, ?_⟩
    rintro k m σ1 H1 ⟨rfl, hk, S1, s1, y1, q⟩
    have hσ : σ1[v]? = some (some (.ref p)) := (y1 v hMv).trans hu
    by_cases hlt : k < ds.length
    · obtain ⟨r, hr⟩ : ∃ r, ds.length - k = r + 1 := ⟨ds.length - k - 1, by omega⟩
      rw [hr] at q
      unfold forA at q
      split at q
      · rename_i ds1 hS1
        by_cases hl : ds1.length = ds.length
        · rw [if_pos hl, show ds.length - (r + 1) = k by omega] at q
          obtain ⟨G1, w1, fp1, sw1⟩ := id s1
          obtain ⟨u1, hu1, ow1, _, _⟩ := sw1.ok v _ hS1
          rw [hσ] at hu1
          cases hu1
          obtain ⟨p1, vs1, g1, e1, hp1, os1, _⟩ := ow1.lst_inv (p := p)
          cases e1
          have hlv : vs1.length = ds1.length := os1.length
          have hx : vs1[k]? = some vs1[k] := List.getElem?_eq_getElem (by omega)
          refine .inr ⟨⟨vs1, vs1[k], SqL.of hp1, hx⟩, fun σ' H' => ∃ S', Sat X.K Y F S' σ' H' ∧ Stay (noV M v) σ σ' ∧ WPs X.K Y W M F D σ (forA i v ds.length b r S'), fun σ' H' ⟨S', a1, a2, a3⟩ => ⟨_, by omega, rfl, hlt, S', a1, a2, by rw [show ds.length - (k + 1) = r by omega]; exact a3⟩, fun x H' hy => ?_⟩
          obtain ⟨rfl, hx2⟩ := hy
          have := hx2 vs1 (SqL.of hp1)
          rw [hx] at this
          cases this
          show tS X.K Y W (noV M v) b _ (σ1.set i (some vs1[k])) H'
          have y2 : Stay (noV M v) σ (σ1.set i (some vs1[k])) := y1.trans (Stay.set hMi)
          refine ⟨F, _, s1.setAli hS1 (by omega) hσ hp1 hx (Ne.symm hiv), ?_⟩
          cases qb : b (setS S1 i (.ali v k)) with
          | stuck => rw [qb] at q; exact q
          | exc e => rw [qb] at q; exact q
          | ok r2 =>
            rw [qb] at q
            cases r2 with
            | rt d S2 => exact fun v2 H2 r => q v2 H2 (RetS.stay (wkS y2) (by
                obtain ⟨σ', a, b⟩ := r
                exact ⟨σ', wkS a, b⟩))
            | nx S' => exact fun σ' H' s' st => ⟨S', s', y2.trans st, q⟩
            | ct S' => exact fun σ' H' s' st => ⟨S', s', y2.trans st, q⟩
            | bk S' => exact fun σ' H' s' st => q σ' H' s' (wkS (y2.trans st))
        · rw [if_neg hl] at q
          exact q.elim
      · exact q.elim
    · have e0 : ds.length - k = 0 := by omega
      rw [e0] at q
      unfold forA at q
      split at q
      · rename_i ds1 hS1
        by_cases hl : ds1.length = ds.length
        · rw [if_pos hl] at q
          obtain ⟨G1, w1, fp1, sw1⟩ := id s1
          obtain ⟨u1, hu1, ow1, _, _⟩ := sw1.ok v _ hS1
          rw [hσ] at hu1
          cases hu1
          obtain ⟨p1, vs1, g1, e1, hp1, os1, _⟩ := ow1.lst_inv (p := p)
          cases e1
          have hlv : vs1.length = ds1.length := os1.length
          exact .inl ⟨⟨vs1, SqL.of hp1, by omega⟩, q σ1 H1 s1 (wkS y1)⟩
        · rw [if_neg hl] at q
          exact q.elim
      · exact q.elim
  · exact h.elim
end
end Ow
end
section
set_option linter.all false
set_option maxRecDepth 100000
set_option maxHeartbeats 2000000
/-! Ow27: len(set(a list of numbers)). -/
namespace Ow
open PySem L2 PySem.Spec PyProof.Rows
/-- each number once -/
def ddI (ns : List Int) : List Int := firstMet (fun i => ns.getD i 0) ns.length
def oLenSet : D → Res D := fun d => match ilD d with
  | some ns => if decide (ns.length ≤ 4000) = true then .ok (.int (ddI ns).length) else .stuck
  | none => .stuck
section
variable {X : Cx} {Y : Cl} {W : Wh} {k : Kd} {a : Expr} {fa : En → Res D} {ta : TE} {pos q p p2 : Pos}
def tLS (K : PySem.W.Frag) (ta : TE) : TE := fun σ H Q => ta σ H fun x G => ∃ (b : Addr) (ms : List Int), x = .ref b ∧ SqL K G b (ms.map V.int) ∧ ms.length ≤ 4000 ∧ Q (.int (ddI ms).length) G
theorem pe_lenS (hc : X.calm = true) (hg : Gl X "len") (hm : X.mg "len" = none) (gs : Gl X "set") (ms : X.mg "set" = none) (ha : PE X a ta)
    (na : starEach [a] X.env = (false, eval a X.env) :: starEach [] X.env := by rfl) : PE X (.Call (.Name "len" p) [.Call (.Name "set" p2) [a] [] q] [] pos) (tLS X.K ta) :=
  ⟨fun pins s σ H Q I h => Call_ (ld_blt I hg hm boot_len (callWith_builtin1 (args_cons (Call_ (ld_blt I gs ms PyProof.Rows.boot_set
    (callWith_type1 (args_cons (thn (ha.run pins s σ H _ I h) fun v z ⟨x, G, J, rv, b, ns, e, hb, hz, hq⟩ => args_nil (by
      subst e
      cases rv
      obtain ⟨its, r, pl, _⟩ := J.list hb
      have n1 : its.toArray.size = ns.length := by rw [List.size_toArray, ← r.length, List.length_map]
      refine call_set_list (ns := ns) (J.ok.hd hc) pl.isList (by simpa using RZ.intsAre_vals r) (by rw [n1]; unfold scanBound; omega) fun g tk S keep => ?_
      rw [n1] at S
      obtain ⟨o, es, ep, t, ho, hx, hd, _, _, _, hf, hn⟩ := S
      exact args_nil (call_len_set ho hx hd hf (by have := firstMet_length_le (fun i => ns.getD i 0) ns.length; rw [hn]; omega) ⟨.int (ddI ns).length, G, (J.kept (fun c o e => keep c o (Heap.lt_size e) e)).tok _, ⟨_, by rw [hn]; rfl⟩, hq⟩))) na) na rfl))) rfl) rfl rfl))⟩
theorem j_lenSet (hc : X.calm = true) (hg : Gl X "len") (hm : X.mg "len" = none) (gs : Gl X "set") (ms : X.mg "set" = none) (ha : J X Y W .r a fa)
    (na : starEach [a] X.env = (false, eval a X.env) :: starEach [] X.env := by rfl) : J X Y W k (.Call (.Name "len" p) [.Call (.Name "set" p2) [a] [] q] [] pos) (x1 oLenSet fa) :=
  PE.imp (pe_lenS hc hg hm gs ms ha na) fun σ H Q ⟨en, he, h⟩ => ⟨en, he, (WPr.bind h).imp (Same.refl H) fun d z v G s1 r1 => by
    unfold oLenSet at z
    split at z
    · rename_i ns hn
      by_cases hz : decide (ns.length ≤ 4000) = true
      · rw [if_pos hz] at z
        obtain ⟨b, e, hb⟩ := ilD_rep r1 hn
        have z : Po X.K Y k (.int (ddI ns).length) H Q := z
        exact ⟨b, ns, e, hb, of_decide_eq_true hz, z.pure s1 .int (pureD_int _)⟩
      · rw [if_neg hz] at z
        exact z.elim
    · exact z.elim⟩
end
end Ow
end
section
set_option linter.all false
set_option maxRecDepth 100000
set_option maxHeartbeats 4000000
/-! Ow28: sorted(set(a list of numbers)). -/
namespace Ow
open PySem L2 PySem.Spec PyProof.Rows
abbrev nSet (w : World) : Obj := { cls := .type "set", dict := none, data := .set #[] 0 (.fresh 0 0 (!w.params.followText "set-order")) }
section
variable {P : Program} {w : World} {A : Around} {E : Value → Shared → Prop} {s : Shared}
/-- set(a list of numbers), by what its walk is -/
theorem set_of {l : Addr} {us : Array Value} (ns : List Int) {Q : Value → Shared → Prop} (calm : A.handled = none) (hl : s.heap.IsList l us) (hi : IntsAre us.toList ns) (room : ns.length + 1 < scanBound)
    (h : ∀ (g : Heap) (tk c : Nat), SetR w g s.heap.objs.size (fun j => decide (j ∈ ns)) c → (∀ b o, s.heap.get? b = some o → g.get? b = some o) → Q (.ref s.heap.objs.size) { s with heap := g, toks := tk }) :
    wpAny (model P w) A (call (.type "set") [.ref l]) Q E s := by
  have n1 : us.size = ns.length := by have q := IntsAre.length hi; rwa [Array.length_toList] at q
  obtain ⟨c0, tl, hmro⟩ := F.called_set.mro
  have hmade := F.called_set.made; have hsub := F.called_set.sub
  refine wpAny_call (codeAny_of_tree (?_ : wpAny _ _ (callAny (.type "set") _) _ _ _))
  refine wpAny_pure ⟨Code.quiet_builtin _ (by decide +kernel), codeAny_builtin F.entry_type_call ?_⟩; rw [Around.under_plain (weight_type_call_type "set" [.ref l] []) rfl]
  have y1 := F.called_set.notType; have y2 := F.called_set.canCreate; have y3 := F.typeCall_set_1 (.ref l)
  repeat (any_goals (first | assumption | wp_step))
  refine codeAny_mono (code_set_led1 (.ref l) (E := E) (Q₁ := fun v z => v = .ref s.heap.objs.size ∧ z = { s with heap := s.heap.push (nSet w) }) ⟨rfl, rfl⟩) fun r z hr => ?_
  cases r with
  | error e => exact hr
  | ok fl =>
    cases fl with
    | ret v =>
      obtain ⟨rfl, rfl⟩ := hr
      have hS : (s.heap.push (nSet w)).get? s.heap.objs.size = some (nSet w) := Heap.get?_push_size _ rfl
      have hT : Shared.TypeIs { s with heap := s.heap.push (nSet w) } (.ref s.heap.objs.size) "set" := ⟨_, hS, rfl⟩
      have y4 := F.called_set.init.lookup; have y5 := F.called_set.init.bind (.ref s.heap.objs.size)
      repeat (any_goals (first | assumption | wp_step))
      refine codeAny_mono (codeAny_call_builtin (R := wants (fun r z => r = .none ∧ ∃ g tk c, z = { s with heap := g, toks := tk } ∧ SetR w g s.heap.objs.size (fun j => decide (j ∈ ns)) c ∧ ∀ b o, s.heap.get? b = some o → g.get? b = some o) E)
        F.called_set.init.plain F.entry_set_init (check_set_init_1 hT ?_)) fun r z hr => ?_
      · obtain ⟨⟨oc, od, dt, sl⟩, ho, hc, nl, hd⟩ := hl
        simp only at hc hd; subst hc; subst hd
        have ho' : (s.heap.push (nSet w)).get? l = some { cls := .type "list", dict := od, data := .seq us nl, slots := sl } := Heap.get?_push_of_some _ ho
        have y6 := F.sub_list_set; have y7 := F.sub_list_frozenset
        have y8 : (Value.type "list" == Value.type "dict") = false := by decide
        have hl1 : (s.heap.push (nSet w)).IsList l us := ⟨_, ho', rfl, nl, rfl⟩
        unfold Builtin.«set.__init__» noKeywords Builtin.Frozenset.updateFrom; generalize hPI : pyIter = PI; wp_walk; subst hPI
        refine wpAny_pyIter_list hl1 (wpAny_bind (wpAny_runValue ?_))
        have lt1 : l < s.heap.objs.size := Heap.lt_size ho
        have z1 : (s.heap.push (nSet w)).objs.size = s.heap.objs.size + 1 := Heap.size_push ..
        have ne1 : l ≠ (s.heap.push (nSet w)).objs.size := by rw [z1]; exact Nat.ne_of_lt (Nat.lt_succ_of_lt lt1)
        have ne2 : s.heap.objs.size ∉ [(s.heap.push (nSet w)).objs.size, l] := by
          rw [z1]; simp only [List.mem_cons, List.not_mem_nil, or_false]
          exact not_or.mpr ⟨Nat.ne_of_lt (Nat.lt_succ_self _), Nat.ne_of_gt lt1⟩
        have hv : ∀ (i : Nat) (v : Value), us[i]? = some v → ∃ k t, ns[i]? = some k ∧ v = .int k t := fun i v hv => by
          have lt2 : i < ns.length := n1 ▸ (Array.getElem?_eq_some_iff.mp hv).1
          obtain ⟨t, e⟩ := IntsAre.int_at hi i v (by rw [Array.getElem?_toList]; exact hv)
          exact ⟨ns[i], t, List.getElem?_eq_getElem lt2, by rw [e, List.getD_eq_getElem?_getD, List.getElem?_eq_getElem lt2]; rfl⟩
        refine set_update_ints ((Walks.list (by simp [calm]) _ l ne1 us).toS) s.heap.objs.size ne2 ns n1 room hv (us.size - 0) 0 _ (by omega) (Nat.zero_le _) ⟨⟨_, Heap.get?_push_size _ rfl, rfl, rfl⟩, (hl1.push _)⟩
          ⟨0, Nat.le_refl 0, setR_new_at (Heap.get?_push_of_some _ hS)⟩ fun z c hm _ hS' => ?_
        obtain ⟨g, gn, dr, tk, os⟩ := z
        have e1 : gn = s.gens := hm.gens; have e2 : dr = s.drawn := hm.drawn; have e3 : os = s.os := hm.os
        subst e1; subst e2; subst e3
        show wpAny _ _ _ _ _ _
        refine wpAny_pure (?_ : wpAny _ _ (ret Value.none) _ _ _)
        refine wpAny_pure ⟨rfl, g, tk, c, rfl, hS', fun b o e => hm.heap b o ?_ (Heap.get?_push_of_some _ (Heap.get?_push_of_some _ e))⟩
        have lt3 : b < s.heap.objs.size := Heap.lt_size e
        simp only [List.mem_cons, List.not_mem_nil, or_false]
        exact not_or.mpr ⟨Nat.ne_of_lt lt3, by rw [z1]; exact Nat.ne_of_lt (Nat.lt_succ_of_lt lt3)⟩
      · cases r with
        | error e => exact hr
        | ok fl =>
          cases fl with
          | ret v =>
            obtain ⟨rfl, g, tk, c, rfl, hS', hk⟩ := hr
            repeat (any_goals (first | assumption | wp_step))
            exact h _ _ _ hS' hk
          | _ => exact hr.elim
    | _ => exact hr.elim
/-- sorted(a set of numbers), of any size -/
theorem sorted_of {a : Addr} {S : Int → Bool} {n : Nat} {Q : Value → Shared → Prop} (R : SetR w s.heap a S n) (calm : A.handled = none) (room : n ≤ 100000)
    (h : ∀ z p (out : Array Value) (c : Nat) (ns : List Int), (∀ b o, s.heap.get? b = some o → z.heap.get? b = some o) → z.gens = s.gens → z.os = s.os → s.heap.objs.size ≤ p → z.heap.get? p = some (seqObj "list" out c) → IntsAre out.toList ns → ns.Pairwise (· < ·) → (∀ k, k ∈ ns ↔ S k = true) → Q (.ref p) z) :
    wpAny (model P w) A (call (.builtin "sorted") [.ref a]) Q E s := by
  obtain ⟨o, es, ep, t, ho, hx, hd, good, nd, mem, hb, hf, hn, hr, hl⟩ := R
  refine Calls.call_function_entry kind_sorted plain_sorted entry_sorted (args_sorted1 _) (?_ : wpAny _ _ (Builtin.«sorted» _) _ _ _)
  unfold Builtin.«sorted»
  refine wpAny_bind (m := checkCount "sorted" 1 1 _) (wpAny_pure (wpAny_bind (collect_set (A := A.in1) calm ⟨o, ho, hx.1, hd⟩ hf hb hr hl fun z vs keep hz gz oz pm => ?_)))
  have len : vs.length ≤ 100000 := by rw [pm.length_eq, List.length_map, Array.length_toList]; omega
  have hI : IntsAre vs (vs.map Builtin.Re.reRawOf) := L2.ints_of vs fun v hv => by
    obtain ⟨e, he, q⟩ := List.mem_map.mp (pm.mem_iff.mp hv)
    obtain ⟨k, tk, g1, _⟩ := good e he
    exact ⟨k, tk, q ▸ g1⟩
  have pk : (vs.map Builtin.Re.reRawOf).Perm (es.toList.map keyOf) := by have q := pm.map Builtin.Re.reRawOf; rwa [List.map_map] at q
  have big : vs.length ≤ sizeLine := by rw [sizeLine_eq]; omega
  refine wpAny_bind (wpAny_newList ?_ big)
  have oL : (z.heap.push (seqObj "list" vs.toArray 0)).get? z.heap.objs.size = some (seqObj "list" vs.toArray 0) := Heap.get?_push_size _ rfl
  refine wpAny_bind (wpAny_holding (wpAny_call_entry slot_list_sort ⟨_, oL, rfl⟩ entry_list_sort (SrtO.list_sort_ord SrtO.swo_int oL big (fun h2 => SrtO.ints_sortable hI h2) fun out q1 q2 => ⟨_, rfl, ?_⟩) (args_list_sort _)))
  obtain ⟨k1, k2, k3⟩ := SrtO.ints_out hI q1 q2
  obtain ⟨c, hc⟩ := sortedHeap_at (vs := vs) (out := out.toArray) oL
  have pn := k2.trans pk
  refine wpAny_pure ⟨_, rfl, h _ z.heap.objs.size out.toArray c _ (fun b u e => ?_) gz oz hz hc (by simpa using k1) (lt_of_le_nodup _ k3 (pn.nodup_iff.mpr nd)) fun k => by rw [pn.mem_iff, ← mem k]⟩
  have q := keep b u e
  have lt1 := Heap.lt_size q
  rw [sortedHeap_old (Nat.ne_of_lt lt1) (by rw [size_push']; exact Nat.lt_succ_of_lt lt1)]
  exact Heap.get?_push_of_some _ q
end
def oSortSet : D → Res D := fun d => match ilD d with
  | some ns => if decide (ns.length ≤ 4000) = true then .ok (.lst (((ddI ns).mergeSort fun a b => decide (a ≤ b)).map D.int)) else .stuck
  | none => .stuck
theorem mem_ddI {ns : List Int} {k : Int} : k ∈ ddI ns ↔ k ∈ ns := by
  have := firstMet_any (fun i => ns.getD i 0) ns.length k
  have e : (List.range ns.length).map (fun i => ns.getD i 0) = ns := by
    refine List.ext_getElem? fun i => ?_
    rw [List.getElem?_map]
    by_cases h : i < ns.length
    · rw [List.getElem?_range h, List.getElem?_eq_getElem h]
      simp [List.getD_eq_getElem?_getD, h]
    · rw [List.getElem?_eq_none (by simpa using h), List.getElem?_eq_none (by omega)]
      rfl
  rw [e] at this
  have g : ∀ l : List Int, l.any (· == k) = true ↔ k ∈ l := fun l => by simp
  rw [← g, ← g]
  unfold ddI
  rw [this]
theorem dedup_nodup {l : List Int} {k : Int} (h : l.Nodup) : (step_dedup l k).Nodup := by
  unfold step_dedup
  split
  · exact h
  · rename_i c
    refine List.nodup_append.mpr ⟨h, List.nodup_cons.mpr ⟨List.not_mem_nil, .nil⟩, fun a ha b hb e => c ?_⟩
    cases List.mem_singleton.mp hb
    subst e
    simpa using ha
theorem nodup_ddI (ns : List Int) : (ddI ns).Nodup := by
  have : ∀ n, (firstMet (fun i => ns.getD i 0) n).Nodup := fun n => by
    induction n with
    | zero => rw [firstMet_zero]; exact .nil
    | succ n ih => rw [firstMet_succ]; exact dedup_nodup ih
  exact this _
theorem rising_same : ∀ {a b : List Int}, a.Pairwise (· < ·) → b.Pairwise (· ≤ ·) → b.Nodup → (∀ x, x ∈ a ↔ x ∈ b) → a = b := fun {a b} ha hb nb h => by
  refine List.Perm.eq_of_pairwise (le := fun a b => a ≤ b) (fun a b _ _ x y => Int.le_antisymm x y) (ha.imp fun h => Int.le_of_lt h) hb ((List.perm_ext_iff_of_nodup ?_ nb).mpr h)
  rw [List.nodup_iff_pairwise_ne]
  exact ha.imp fun h e => by omega
section
variable {X : Cx} {Y : Cl} {W : Wh} {a : Expr} {fa : En → Res D} {ta : TE} {pos q p p2 : Pos}
def tSS (K : PySem.W.Frag) (ta : TE) : TE := fun σ H Q => ta σ H fun x G => ∃ (b : Addr) (ms : List Int), x = .ref b ∧ SqL K G b (ms.map V.int) ∧ ms.length ≤ 4000 ∧ ∀ r, G r = none → Q (.ref r) (upd G r (.lst (((ddI ms).mergeSort fun a b => decide (a ≤ b)).map V.int)))
theorem pe_sortS (hc : X.calm = true) (hg : Gl X "sorted") (hm : X.mg "sorted" = none) (gs : Gl X "set") (ms : X.mg "set" = none) (ha : PE X a ta)
    (na : starEach [a] X.env = (false, eval a X.env) :: starEach [] X.env := by rfl) : PE X (.Call (.Name "sorted" p) [.Call (.Name "set" p2) [a] [] q] [] pos) (tSS X.K ta) :=
  ⟨fun pins s σ H Q I h => Call_ (ld_blt I hg hm (by decide +kernel : bootBuiltins "sorted" = some (.builtin "sorted")) (callWith_builtin1 (args_cons (Call_ (ld_blt I gs ms PyProof.Rows.boot_set
    (callWith_type1 (args_cons (thn (ha.run pins s σ H _ I h) fun v z ⟨x, G, J, rv, b, ns, e, hb, hz, hq⟩ => args_nil (by
      subst e
      cases rv
      obtain ⟨its, r, pl, _⟩ := J.list hb
      refine set_of ns (J.ok.hd hc) pl.isList (by simpa using RZ.intsAre_vals r) (by unfold scanBound; omega) fun g tk c S keep => args_nil ?_
      have J2 : Inv X pins σ G { z with heap := g, toks := tk } := J.kept keep
      have few : c ≤ 4000 := by
        obtain ⟨o, es, ep, t, _, _, _, _, nd, mem, _, _, hn, _⟩ := S
        have := List.Nodup.length_le_of_subset nd (l₂ := ns) fun k hk => by simpa using (mem k).mpr hk
        rw [List.length_map, Array.length_toList, hn] at this
        omega
      refine sorted_of S (J2.ok.hd hc) (by omega) fun y r2 out c2 ks k1 g1 o1 hr ho hI hp hmem => ?_
      have hn : G r2 = none := J2.hok.fresh hr
      have ek : ks = (ddI ns).mergeSort fun a b => decide (a ≤ b) := by
        refine rising_same hp ?_ ((List.mergeSort_perm _ _).nodup_iff.mpr (nodup_ddI ns)) fun k => ?_
        · have := List.pairwise_mergeSort (le := fun a b : Int => decide (a ≤ b)) (fun a b c h1 h2 => by simp at *; omega) (fun a b => by simp; omega) (ddI ns)
          exact this.imp (by simp)
        · rw [hmem, (List.mergeSort_perm _ _).mem_iff, mem_ddI, decide_eq_true_eq]
      have big : (ks.map V.int).length ≤ sizeLine := by
        rw [ek, List.length_map, (List.mergeSort_perm _ _).length_eq, sizeLine_eq]
        have : (ddI ns).length ≤ ns.length := firstMet_length_le _ _
        omega
      have J3 : Inv X pins σ (upd G r2 (.lst (ks.map V.int))) { { z with heap := g, toks := tk } with heap := y.heap, gens := y.gens, drawn := y.drawn, toks := y.toks } :=
        J2.call (ch := []) (Un.laid k1 hr hn) (J2.hok.laid k1 hr ⟨big, out.toList, c2, vals_of_ints hI, ho⟩) (by rw [g1]; exact J2.bare) (fun _ z => nomatch z)
      have ey : y = { { z with heap := g, toks := tk } with heap := y.heap, gens := y.gens, drawn := y.drawn, toks := y.toks } := by
        cases y
        cases z
        cases o1
        rfl
      rw [ey]
      subst ek
      exact ⟨.ref r2, _, J3, rfl, hq r2 hn⟩)) na) na rfl))) rfl) rfl rfl))⟩
theorem jn_sortSet (hc : X.calm = true) (hg : Gl X "sorted") (hm : X.mg "sorted" = none) (gs : Gl X "set") (ms : X.mg "set" = none) (ha : J X Y W .r a fa)
    (na : starEach [a] X.env = (false, eval a X.env) :: starEach [] X.env := by rfl) : J X Y W .n (.Call (.Name "sorted" p) [.Call (.Name "set" p2) [a] [] q] [] pos) (x1 oSortSet fa) :=
  PE.imp (pe_sortS hc hg hm gs ms ha na) fun σ H Q ⟨en, he, h⟩ => ⟨en, he, (WPr.bind h).imp (Same.refl H) fun d z v G s1 r1 => by
    unfold oSortSet at z
    split at z
    · rename_i ns hn
      by_cases hz : decide (ns.length ≤ 4000) = true
      · rw [if_pos hz] at z
        obtain ⟨b, e, hb⟩ := ilD_rep r1 hn
        have z : Po X.K Y .n (.lst (((ddI ns).mergeSort fun a b => decide (a ≤ b)).map D.int)) H Q := z
        exact ⟨b, ns, e, hb, of_decide_eq_true hz, fun l hl => z _ _ [l] (s1.trans (same_new hl)) (own_ints hl) (List.nodup_cons.mpr ⟨List.not_mem_nil, .nil⟩) fun w hw => by cases List.mem_singleton.mp hw; exact s1.free hl⟩
      · rw [if_neg hz] at z
        exact z.elim
    · exact z.elim⟩
end
end Ow
end
section
set_option linter.all false
set_option maxRecDepth 100000
set_option maxHeartbeats 2000000
/-! Ow29: len([x for x in xs if c]), whatever x is. -/
namespace Ow
open PySem L2 PySem.Spec
/-- a value of which nothing is kept -/
def xU (f : En → Res D) : En → Res D := fun en => f en >>= fun _ => .ok .non
section
variable {X : Cx} {Y : Cl} {W : Wh} {k : Kd} {α : Type} {elt tg iter : Expr} {ifs : List Expr} {scope : Scope} {pos pos2 p : Pos} {g : TG} {L : En → Res (List α)} {bnd : α → Bd} {gc : En → Res Bool} {f : En → Res D}
theorem tln_of {wi : TI} {vs : List Nat} {σ : St} {H : Hp} {Q Q2 : VK} (hq : ∀ (D : Addr) (acc : List V) (G : Hp), G D = some (.lst acc) → Q (.int acc.length) G → Q2 (.ref D) G) (hw : ∀ (σ : St) (H : Hp) (R : It → Hp → Prop), (∃ en, EnOk X.K Y H σ en ∧ WPr X.K Y W σ H (L en) fun l => ∀ (J : It) (H1 : Hp), Same H H1 → ItOk X.K Y J g l bnd H1 → R J H1) → wi σ H R)
    (hb : ∀ a, ∀ p ∈ bnd a, p.1 ∈ vs) (h : tJ X.K Y W k (x1 oLen (xLc L bnd vs gc (xU f))) σ H Q) : tLc wi g (tT X.K Y none gc) (tJ X.K Y none .r f) vs σ H Q2 := by
  obtain ⟨en, hE, h⟩ := h
  have h : WPr X.K Y W σ H (L en >>= fun l => (if szOk l.length = true then noX (lcR bnd gc (xU f) (wipeE en vs) l) >>= fun ds => .ok (.lst ds) else .stuck) >>= oLen) fun d => Po X.K Y k d H Q := by
    have e : x1 oLen (xLc L bnd vs gc (xU f)) en = (L en >>= fun l => (if szOk l.length = true then noX (lcR bnd gc (xU f) (wipeE en vs) l) >>= fun ds => .ok (.lst ds) else .stuck) >>= oLen) := by
      unfold x1 xLc
      cases L en <;> rfl
    rwa [e] at h
  refine hw σ H _ ⟨en, hE, (WPr.bind h).imp (Same.refl H) fun l q J H1 sh ok D hD => ?_⟩
  by_cases hz : szOk l.length = true
  · rw [if_pos hz] at q
    cases q0 : lcR bnd gc (xU f) (wipeE en vs) l with
    | stuck => rw [q0] at q; exact q.elim
    | exc x => rw [q0] at q; exact q.elim
    | ok ds =>
      rw [q0] at q
      have q : Po X.K Y k (.int (ds.length : Nat)) H Q := q
      have hE1 := (hE.mono sh).wipe vs
      refine ⟨fun i m H' => m = l.length - i ∧ i ≤ l.length ∧ Same H1 H' ∧ ∃ acc rest, H' D = some (.lst acc) ∧ acc.length ≤ i ∧ lcR bnd gc (xU f) (wipeE en vs) (l.drop i) = .ok rest ∧ acc.length + rest.length = ds.length,
        ⟨_, rfl, Nat.zero_le _, same_new hD, [], ds, upd_same, Nat.le_refl _, q0, by simp⟩, ?_⟩
      rintro i m H' ⟨rfl, hi, s1, acc, rest, hacc, al, hr, ed⟩
      by_cases hlt : i < l.length
      · have hd : l[i]? = some l[i] := List.getElem?_eq_getElem hlt
        rw [List.drop_eq_getElem_cons hlt] at hr
        refine .inr ⟨ok.go i H' s1 hlt, _, fun H'' z => ⟨l.length - (i + 1), by omega, z⟩, fun x H'' hy => ?_⟩
        obtain ⟨s2, hg⟩ := ok.step i l[i] H' x H'' (wipe σ vs) hd s1 hy
        refine hg _ fun ws bd => ?_
        have hk : ∀ p ∈ ws, p.1 ∈ vs := fun p hp => by
          have hm : p.1 ∈ ws.map (·.1) := List.mem_map_of_mem hp
          rw [bd.keys] at hm
          obtain ⟨r, hr1, hr2⟩ := List.mem_map.mp hm
          exact hr2 ▸ hb _ r hr1
        have s12 := s1.trans s2
        have hE2 : EnOk X.K Y H'' (setV (wipe σ vs) ws) (setE (wipeE en vs) (bnd l[i])) := (hE1.mono s12).setE bd s12
        refine ⟨by rw [wipe_setV hk]; exact wipe_twice σ vs vs (fun _ h => h), _, hE2, ?_⟩
        rcases lc_cons_inv hr with ⟨hc, hr'⟩ | ⟨hc, d, ds', hf, hr', rfl⟩
        · rw [hc]
          intro H3 s3
          rw [if_neg Bool.false_ne_true]
          exact ⟨rfl, hlt, s12.trans s3, acc, rest, (s2.trans s3) _ _ hacc, by omega, hr', ed⟩
        · rw [hc]
          intro H3 s3
          rw [if_pos rfl]
          refine ⟨_, hE2.mono s3, ?_⟩
          have hf : xU f (setE (wipeE en vs) (bnd l[i])) = .ok d := hf
          unfold xU at hf
          cases q3 : f (setE (wipeE en vs) (bnd l[i])) with
          | stuck => rw [q3] at hf; cases hf
          | exc x => rw [q3] at hf; cases hf
          | ok d' =>
            intro y H4 s4 _
            have s34 := (s2.trans s3).trans s4
            have hD4 : H4 D = some (.lst acc) := s34 _ _ hacc
            refine ⟨acc, hD4, szOk_lt (by unfold szOk at hz ⊢; simp at hz ⊢; omega), rfl, hlt, fun p u e => ?_, acc ++ [y], ds', upd_same, by simp; omega, hr', by simp at ed ⊢; omega⟩
            have : p ≠ D := fun z => by
              subst z
              rw [hD] at e
              cases e
            rw [upd_ne this]
            exact (s1.trans s34) p u e
      · have : i = l.length := by omega
        subst this
        rw [List.drop_length] at hr
        cases hr
        have ed : acc.length = ds.length := by simpa using ed
        exact .inl ⟨ok.stop H' s1, hq D acc H' hacc (by rw [ed]; exact q.pure (sh.trans s1) .int (pureD_int _))⟩
  · rw [if_neg hz] at q
    exact q.elim
/-- len of a list comprehension of what is never kept -/
theorem j_lenLc (own : List (Str × Nat)) (gl : Gl X "len") (ml : X.mg "len" = none) (hc : X.calm = true) (hN : X.N.Nodup) (hi : IE X Y W tg iter g L bnd)
    (hg : ∀ (s : Shared) (H : Hp) (C : Addr) (cl : List (Str × Addr)) (fp : List Addr), PG (X.blk s H scope (compEnvC scope cl C X.env) fp) tg g)
    (ht : ∀ (s : Shared) (H : Hp) (C : Addr) (cl : List (Str × Addr)) (fp : List Addr), CTs (X.blk s H scope (compEnvC scope cl C X.env) fp) Y ifs gc)
    (he : ∀ (s : Shared) (H : Hp) (C : Addr) (cl : List (Str × Addr)) (fp : List Addr), J (X.blk s H scope (compEnvC scope cl C X.env) fp) Y none .r elt f)
    (hb : ∀ a, ∀ p ∈ bnd a, p.1 ∈ own.map (·.2)) (ok : blkC X.N X.env.scope scope own = true := by with_unfolding_all rfl) (hs : ∀ x, foldedSetIterable iter X.env x = pure x := by intro _; rfl)
    (na : starEach ((.ListComp elt [⟨tg, iter, ifs, 0⟩] scope pos) :: []) X.env = (false, eval (.ListComp elt [⟨tg, iter, ifs, 0⟩] scope pos) X.env) :: starEach [] X.env := by rfl) (hpl : (backTo pos2 (starEach [] X.env)).any (·.1) = false := by rfl) :
    J X Y W k (.Call (.Name "len" p) [.ListComp elt [⟨tg, iter, ifs, 0⟩] scope pos] [] pos2) (x1 oLen (xLc L bnd (own.map (·.2)) gc (xU f))) := by
  obtain ⟨wi, hpi, hw⟩ := hi.ex
  have P := pe_lc (pos := pos) (tt := tT X.K Y none gc) (te := tJ X.K Y none .r f) hc hN hpi (blkOk_by ok) hg ht he hs
  exact PE.imp (pe_callB (p := p) call_len gl ml (by decide +kernel) (pa_cons P pa_nil na) (by decide) (by decide) na hpl) fun σ H Q h =>
    tln_of (Q2 := fun x G => ∃ y n, [x] = [y] ∧ LenV X.K y G n ∧ Q (V.int (n : Nat)) G) (fun D acc G e q => ⟨_, acc.length, rfl, .inl ⟨acc, .inl (.inl e), rfl⟩, q⟩) hw hb h
end
end Ow
end
section
set_option linter.all false
set_option maxRecDepth 100000
set_option maxHeartbeats 4000000
/-! Ow30: list(reversed(a list)). -/
namespace Ow
open PySem L2 PySem.Spec PyProof.Rows
section
variable {P : Program} {w : World} {A : Around} {E : Value → Shared → Prop} {s : Shared}
/-- a list filled out of a list walked from its end -/
theorem init_rev {R : Result → Shared → Prop} {it l S : Addr} {us : Array Value} (calm : A.handled = none) (hit : s.heap.IsRevIter it l ((us.size : Int) - 1)) (hl : s.heap.IsList l us) (ne : l ≠ it) (room : us.size ≤ sizeLine)
    (hS : s.heap.get? S = some { cls := .type "list", data := .seq #[] }) (n1 : S ≠ it) (n2 : S ≠ l)
    (hR : ∀ g tk (acc : Array Value) c, (∀ b o, b ≠ S → b ≠ it → s.heap.get? b = some o → g.get? b = some o) → g.get? S = some { cls := .type "list", dict := none, data := .seq acc c, slots := #[] } → ItemsOf (fun i v => us[us.size - 1 - i]? = some v) acc us.size → R (.ok (.ret .none)) { s with heap := g, toks := tk }) :
    wpAny (model P w) A.in1 (Builtin.«list.__init__» ⟨[.ref S, .ref it], []⟩) (fun fin z => match fin with | .done f => R (.ok f) z | .again c => c.quiet = true ∧ codeAny (model P w) A c R z) (fun e z => R (.error e) z) s := by
  have Wk := (Walks.listRev (prog := P) (w := w) (A := A.in1) calm it l ne us).toS
  show wpAny _ _ (do let old ← Builtin.List.listItems (.ref S); Builtin.List.listUpdate (.ref S) (fun _ => #[]); letGo old.toList.reverse; Builtin.List.listExtendWith (.ref S) (.ref it) .none) _ _ s
  refine wpAny_bind ?_; unfold Builtin.List.listItems; refine wpAny_bind (wpAny_seqItems hS rfl (wpAny_pure ?_))
  show wpAny _ _ (updateSeq S (fun _ => #[]) >>= fun _ => letGo (#[] : Array Value).toList.reverse >>= fun _ => Builtin.List.listExtendWith (.ref S) (.ref it) .none) _ _ s
  refine wpAny_bind (wpAny_updateSeq hS rfl ?_)
  have S2 := Heap.get?_update_self (Obj.mapSeq (fun _ => (#[] : Array Value))) hS rfl
  have oth : ∀ b o, b ≠ S → s.heap.get? b = some o → (s.heap.update S (Obj.mapSeq (fun _ => (#[] : Array Value)))).get? b = some o := fun b o hb e => (Heap.get?_update_other _ _ (Ne.symm hb)).trans e
  refine wpAny_bind (wpAny_letGo ?_)
  have hit2 : (s.heap.update S (Obj.mapSeq (fun _ => (#[] : Array Value)))).IsRevIter it l ((us.size : Int) - 1) := hit.at fun o e => oth it o (Ne.symm n1) e
  have hl2 : (s.heap.update S (Obj.mapSeq (fun _ => (#[] : Array Value)))).IsList l us := hl.at fun o e => oth l o (Ne.symm n2) e
  have hT : ({ s with heap := s.heap.update S (Obj.mapSeq (fun _ => (#[] : Array Value))) } : Shared).TypeIs (.ref it) "list_reverseiterator" := Heap.IsRevIter.typeIs (s := { s with heap := s.heap.update S (Obj.mapSeq (fun _ => (#[] : Array Value))) }) hit2
  have q1 : Builtin.List.listSameRef (.ref S) (.ref it) = false := by simp [Builtin.List.listSameRef, n1]
  unfold Builtin.List.listExtendWith
  refine wpAny_bind (wpAny_typeOf hT ?_); rw [if_neg (by rw [q1]; decide)]
  refine wpAny_bind (wpAny_pyIter_revIter (s := { s with heap := s.heap.update S (Obj.mapSeq (fun _ => (#[] : Array Value))) }) hit2 (wpAny_bind (wpAny_holding ?_)))
  unfold Builtin.List.listLengthHint
  refine wpAny_bind (wpAny_specialOf hT RT.nolen_lri (?_ : wpAny _ A.in1 (specialOf (Value.ref it) (Str.ofString "__length_hint__") >>= _) _ _ _))
  refine wpAny_bind (wpAny_specialOf hT RT.hint_lri ?_)
  generalize hid : ("list_reverseiterator.__length_hint__" : String) = id0; wp_delta
  rw [show splitId id0 = some ("list_reverseiterator", "__length_hint__") from by subst hid; decide +kernel]; subst hid
  refine wpAny_bind (wpAny_isInstance (b := true) hT (by rw [isSubtype_type]; kernel_rfl) (wpAny_pure ?_)); rw [if_neg (by decide)]
  have z0 : ((us.size : Nat) : Int) - 1 - ((0 : Nat) : Int) = (us.size : Int) - 1 := by omega
  have nS : S ∉ [it, l] := by simp only [List.mem_cons, List.not_mem_nil, or_false, not_or]; exact ⟨n1, n2⟩
  refine wpAny_pure ⟨plainId_quiet F.plain_extend_loop _, codeAny_extend_loopS Wk room _ nS _ us.size 0 _ _ _ rfl (Nat.zero_le _) ⟨Nat.zero_le _, by rw [z0]; exact hit2, hl2⟩ S2 (ItemsOf.nil _) fun z acc c hm hz hacc => ?_⟩
  rw [Moved.eq_with hm]
  refine hR z.heap z.toks acc c (fun b o hb hb2 e => hm.heap b o (fun hmem => ?_) (oth b o hb e)) hz hacc
  rcases List.mem_cons.mp hmem with e1 | e1
  · exact hb e1
  · exact hb2 (List.mem_singleton.mp e1)
theorem list_of_rev {it l : Addr} {us : Array Value} {Q : Value → Shared → Prop} (calm : A.handled = none) (hit : s.heap.IsRevIter it l ((us.size : Int) - 1)) (hl : s.heap.IsList l us) (ne : l ≠ it) (room : us.size ≤ sizeLine)
    (h : ∀ g tk (acc : Array Value) c, (∀ b o, b ≠ it → s.heap.get? b = some o → g.get? b = some o) → g.get? s.heap.objs.size = some { cls := .type "list", dict := none, data := .seq acc c, slots := #[] } → ItemsOf (fun i v => us[us.size - 1 - i]? = some v) acc us.size → Q (.ref s.heap.objs.size) { s with heap := g, toks := tk }) :
    wpAny (model P w) A (call (.type "list") [.ref it]) Q E s := by
  refine callType_codes (Q₁ := fun v z => v = .ref s.heap.objs.size ∧ z = { s with heap := s.heap.push { cls := .type "list", data := .seq #[] } }) F.called_list (F.typeCall_list_1 _) F.entry_list_init (code_list_new _ ⟨rfl, rfl⟩) fun v z hz => ?_
  obtain ⟨rfl, rfl⟩ := hz
  obtain ⟨oi, hoi, _⟩ := id hit
  obtain ⟨ol, hol, _⟩ := id hl
  have hS : (s.heap.push { cls := .type "list", data := .seq #[] }).get? s.heap.objs.size = some { cls := .type "list", data := .seq #[] } := Heap.get?_push_size _ rfl
  exact ⟨⟨_, hS, rfl⟩, F.args_list_init_2 _ _, init_rev (A := A.in1) calm (hit.at fun o e => Heap.get?_push_of_some _ e) (hl.push _) ne room hS (Nat.ne_of_gt (Heap.lt_size hoi)) (Nat.ne_of_gt (Heap.lt_size hol)) fun g tk acc c k k2 k3 =>
    ⟨rfl, h g tk acc c (fun b o hb e => k b o (Nat.ne_of_lt (Heap.lt_size e)) hb (Heap.get?_push_of_some _ e)) k2 k3⟩⟩
end
theorem pureDs_all : ∀ ds : List D, pureDs ds = ds.all pureD
  | [] => pureDs_nil
  | d :: ds => by rw [pureDs_cons, List.all_cons, pureDs_all ds]
def oRevL : D → Res D := fun d => match d with
  | .lst ds => if pureDs ds = true then .ok (.lst ds.reverse) else .stuck
  | _ => .stuck
section
variable {X : Cx} {Y : Cl} {W : Wh} {e : Expr} {fe : En → Res D} {te : TE} {pos pos2 p p2 : Pos}
def tLR (K : PySem.W.Frag) (te : TE) : TE := fun σ H Q => te σ H fun v G => ∃ (a : Addr) (xs : List V), v = .ref a ∧ SqL K G a xs ∧ ∀ q, G q = none → Q (.ref q) (upd G q (.lst xs.reverse))
theorem pe_listRev (hc : X.calm = true) (hg : Gl X "list") (hm : X.mg "list" = none) (hg2 : Gl X "reversed") (hm2 : X.mg "reversed" = none) (he : PE X e te)
    (na : starEach [e] X.env = (false, eval e X.env) :: starEach [] X.env := by rfl)
    (na2 : starEach [.Call (.Name "reversed" p2) [e] [] pos2] X.env = (false, eval (.Call (.Name "reversed" p2) [e] [] pos2) X.env) :: starEach [] X.env := by rfl) :
    PE X (.Call (.Name "list" p) [.Call (.Name "reversed" p2) [e] [] pos2] [] pos) (tLR X.K te) :=
  ⟨fun pins s σ H Q I h => Call_ (ld_blt I hg hm boot_list (callWith_type1 (args_cons (Call_ (ld_blt I hg2 hm2 PyProof.Rows.boot_reversed (callWith_type1 (args_cons (thn (he.run pins s σ H _ I h) fun u z ⟨v, G, J, rv, a, xs, ev, hq, q⟩ => args_nil (by
    subst ev
    obtain rfl : u = Value.ref a := rv
    obtain ⟨its, r, pl, hz⟩ := J.list hq
    refine call_reversed_list pl.isList (args_nil ?_)
    have k0 : ∀ b o, z.heap.get? b = some o → (z.heap.push (revObj a ((its.toArray.size : Int) - 1))).get? b = some o := fun b o e => Heap.get?_push_of_some _ e
    have J2 : Inv X pins σ G { z with heap := z.heap.push (revObj a ((its.toArray.size : Int) - 1)) } := J.kept (t' := z.toks) k0
    obtain ⟨f0, f1, f2, f3, f4, f5⟩ := J.fpOk (H' := G) (b := z.heap.objs.size) (Nat.le_refl _) (J.hok.fresh (Nat.le_refl _))
    have hl := pl.isList
    obtain ⟨ol, hol, _⟩ := id hl
    have ne : a ≠ z.heap.objs.size := Nat.ne_of_lt (Heap.lt_size hol)
    refine list_of_rev (s := { z with heap := z.heap.push (revObj a ((its.toArray.size : Int) - 1)) }) (J.ok.hd hc) ⟨_, Heap.get?_push_size _ rfl, rfl, rfl⟩ (hl.push _) ne (by rw [List.size_toArray, ← r.length]; exact hz) fun g tk acc c hk hS hi => ?_
    have le : z.heap.objs.size ≤ (z.heap.push (revObj a ((its.toArray.size : Int) - 1))).objs.size := by rw [Heap.size_push]; exact Nat.le_succ _
    have hn := J.hok.fresh le
    have J3 : Inv X pins σ (upd G (z.heap.push (revObj a ((its.toArray.size : Int) - 1))).objs.size (.lst xs.reverse)) { z with heap := g, toks := tk } :=
      J.laid (t' := tk) (fun b o e => hk b o (Nat.ne_of_lt (Heap.lt_size e)) (k0 b o e)) le ⟨by rw [List.length_reverse]; exact hz, acc.toList, c, RT.vals_rev r hi, by rw [Array.toArray_toList]; exact hS⟩
    exact ⟨.ref _, _, J3, rfl, q _ hn⟩)) na) na rfl))) na2) na2 rfl))⟩
theorem jn_listRev (hc : X.calm = true) (hg : Gl X "list") (hm : X.mg "list" = none) (hg2 : Gl X "reversed") (hm2 : X.mg "reversed" = none) (he : J X Y W .r e fe)
    (na : starEach [e] X.env = (false, eval e X.env) :: starEach [] X.env := by rfl)
    (na2 : starEach [.Call (.Name "reversed" p2) [e] [] pos2] X.env = (false, eval (.Call (.Name "reversed" p2) [e] [] pos2) X.env) :: starEach [] X.env := by rfl) :
    J X Y W .n (.Call (.Name "list" p) [.Call (.Name "reversed" p2) [e] [] pos2] [] pos) (x1 oRevL fe) :=
  PE.imp (pe_listRev hc hg hm hg2 hm2 he na na2) fun σ H Q ⟨en, hen, h⟩ => ⟨en, hen, (WPr.bind h).imp (Same.refl H) fun d z v G s1 r1 => by
    unfold oRevL at z
    split at z
    · rename_i ds
      by_cases hz : pureDs ds = true
      · rw [if_pos hz] at z
        have z : Po X.K Y .n (.lst ds.reverse) H Q := z
        cases r1 with
        | lst h1 r1 =>
          refine ⟨_, _, rfl, .inl (.inl h1), fun l hl => ?_⟩
          exact po_new (z.mono s1) r1.reverse (by rw [pureDs_all, List.all_reverse, ← pureDs_all]; exact hz) hl
      · rw [if_neg hz] at z
        exact z.elim
    · exact z.elim⟩
end
end Ow
end
section
set_option linter.all false
set_option maxRecDepth 100000
set_option maxHeartbeats 2000000
/-! Ow31: sorted(a new list of lists). -/
namespace Ow
open PySem L2 PySem.Spec
def oSortLL : D → Res D := fun d => match d with
  | .lst ds => match llD ds with
    | some A => if allL ds = true then .ok (.lst ((sortLL A).map fun a => .lst (a.map D.int))) else .stuck
    | none => .stuck
  | _ => .stuck
theorem oSortLL_calm : Calm1 oSortLL := calm1_ite fun d => by unfold oSortLL; split <;> (try split) <;> (try split) <;> simp
section
variable {X : Cx} {Y : Cl} {W : Wh} {a : Expr} {fa : En → Res D} {pos p : Pos}
theorem jn_sortLL {n : Nat} (hr : Room n X.A) (hg : Gl X "sorted") (hm : X.mg "sorted" = none) (ha : J X Y W .n a fa) (hs : starEach (a :: []) X.env = (false, eval a X.env) :: starEach [] X.env := by rfl) (hpl : (backTo pos (starEach [] X.env)).any (·.1) = false := by rfl) :
    J X Y W .n (.Call (.Name "sorted" p) [a] [] pos) (x1 oSortLL fa) :=
  PE.imp (pe_callB (cr_sortedLL hr.units) hg hm (by decide +kernel) (pa_cons ha pa_nil hs) (by decide) (by decide) hs hpl) fun σ H Q ⟨en, he, h⟩ => ⟨en, he, (WPr.bind h).imp (Same.refl H) fun d q => by
    intro v H1 fp sh o nd fr
    obtain ⟨z, ez, pz⟩ := WPr.calm (oSortLL_calm d) q
    unfold oSortLL at ez
    split at ez
    · rename_i ds
      split at ez
      · rename_i A hA
        split at ez
        · rename_i hall
          cases ez
          obtain ⟨q0, vs, g, rfl, hq, ow, rfl⟩ := o.lst_inv (p := 0)
          obtain ⟨L, e1, e2, e3, e4⟩ := llD_own ow hA (allL_is hall)
          refine ⟨q0, L, rfl, SqL.of (by rw [e1]; exact hq), e4, fun l hl => ?_⟩
          have ndg := List.nodup_cons.mp nd
          obtain ⟨g', hp, ow'⟩ := e3.perm (List.mergeSort_perm L leL).symm
          have hd : ((L.mergeSort leL).map fun p : V × List Int => D.lst (p.2.map D.int)) = (sortLL A).map fun a => .lst (a.map D.int) := by
            rw [← e2, ← sortLL_map, List.map_map]; rfl
          rw [hd] at ow'
          have ln : l ∉ g' := fun z => by
            obtain ⟨o', ho, _⟩ := ow.there l (hp.mem_iff.mp z)
            rw [ho] at hl
            cases hl
          have pz : Po X.K Y .n (.lst ((sortLL A).map fun a => .lst (a.map D.int))) H Q := pz
          refine pz (.ref l) _ (l :: g') (sh.trans (same_new hl)) (.lst upd_same (ow'.mono (same_new hl))) (List.nodup_cons.mpr ⟨ln, hp.nodup_iff.mpr ndg.2⟩) fun w hw => ?_
          rcases List.mem_cons.mp hw with rfl | hw
          · exact sh.free hl
          · exact fr w (List.mem_cons_of_mem _ (hp.mem_iff.mp hw))
        · cases ez
      · cases ez
    · cases ez⟩
end
end Ow
end
section
set_option linter.all false
set_option maxRecDepth 100000
set_option maxHeartbeats 4000000
/-! LibSem: the plain functions that many laws share. -/
namespace Ow.Lib
open PySem L2 PySem.Spec
noncomputable def sem_divisor : List D → Res D := runB 0 (bSeq (sSet 0 (x1 oAbs (xVar 0)))
 (bSeq (sSet 1 (x1 oAbs (xVar 1)))
 (bSeq (sWhile (tBl (x2 oGt (xVar 1) (xC (.int 0)))) (sPar 0 1 (xVar 1) (x2 oMod (xVar 0) (xVar 1))))
 (sRetV 0))))
noncomputable def sem_ratio : List D → Res D := runB 1 (bSeq (sIf (tBl (x2 oEq (xVar 1) (xC (.int 0)))) (sRaise 1) bN)
 (bSeq (sSet 2 (xCall sem_divisor (aCons (xVar 0) (aCons (xVar 1) aNil))))
 (bSeq (sIf (tBl (x2 oLt (xVar 1) (xC (.int 0)))) (sSet 2 (x2 oSub (xC (.int 0)) (xVar 2))) bN)
 (sRet (xTup (aCons (x2 oDiv (xVar 0) (xVar 2)) (aCons (x2 oDiv (xVar 1) (xVar 2)) aNil)))))))
noncomputable def semX_ratio : List D → Res D := runB 1 (bSeq (sIf (tBl (x2 oEq (xVar 1) (xC (.int 0)))) (sRaise 1) bN)
 (bSeq (sSet 2 (xCall sem_divisor (aCons (xVar 0) (aCons (xVar 1) aNil))))
 (bSeq (sIf (tBl (x2 oLt (xVar 1) (xC (.int 0)))) (sSet 2 (x2 oSub (xC (.int 0)) (xVar 2))) bN)
 (sRet (xTup (aCons (x2 oDiv (xVar 0) (xVar 2)) (aCons (x2 oDiv (xVar 1) (xVar 2)) aNil)))))))
noncomputable def sem_over : List D → Res D := runB 0 (sRet (xCall sem_ratio (aCons (x2 oMul (x2 oIx (xVar 0) (xC (.int 0))) (x2 oIx (xVar 1) (xC (.int 1)))) (aCons (x2 oMul (x2 oIx (xVar 0) (xC (.int 1))) (x2 oIx (xVar 1) (xC (.int 0)))) aNil))))
noncomputable def semX_over : List D → Res D := runB 0 (sRet (xCallX semX_ratio (aCons (x2 oMul (x2 oIx (xVar 0) (xC (.int 0))) (x2 oIx (xVar 1) (xC (.int 1)))) (aCons (x2 oMul (x2 oIx (xVar 0) (xC (.int 1))) (x2 oIx (xVar 1) (xC (.int 0)))) aNil))))
noncomputable def sem__law_cell_at : List D → Res D := runB 0 (bSeq (sIf (tBl (x2 oLt (xVar 1) (x1 oLen (xVar 0)))) (sRet (xP (x2 oIx (xVar 0) (xVar 1)))) bN)
 (sRet (xC (.int 0))))
noncomputable def sem__law_whole : List D → Res D := runB 0 (sRet (xP (xAn (x1 (isBI "int") (xVar 0)) (xNo (x1 (isBI "bool") (xVar 0))))))
noncomputable def sem__law_divisor : List D → Res D := runB 0 (bSeq (sSet 0 (x1 oAbs (xVar 0)))
 (bSeq (sSet 1 (x1 oAbs (xVar 1)))
 (bSeq (sWhile (tBl (x2 oGt (xVar 1) (xC (.int 0)))) (sPar 0 1 (xVar 1) (x2 oMod (xVar 0) (xVar 1))))
 (sRetV 0))))
noncomputable def sem__law_lowest : List D → Res D := runB 1 (bSeq (sSet 2 (xCall sem__law_divisor (aCons (xVar 0) (aCons (xVar 1) aNil))))
 (bSeq (sIf (tBl (x2 oLt (xVar 1) (xC (.int 0)))) (sSet 2 (x2 oSub (xC (.int 0)) (xVar 2))) bN)
 (sRet (xTup (aCons (x2 oDiv (xVar 0) (xVar 2)) (aCons (x2 oDiv (xVar 1) (xVar 2)) aNil))))))
noncomputable def sem__law_is_fraction : List D → Res D := runB 0 (bSeq (sIf (tOr' (tNo (tBl (x1 (isBI "tuple") (xVar 0)))) (tOr' (tBl (x2 oNe (x1 oLen (xVar 0)) (xC (.int 2)))) (tOr' (tNo (tBl (xCall sem__law_whole (aCons (x2 oIx (xVar 0) (xC (.int 0))) aNil)))) (tNo (tBl (xCall sem__law_whole (aCons (x2 oIx (xVar 0) (xC (.int 1))) aNil))))))) (sRet (xC (.bl false))) bN)
 (sRet (xP (xAn (x2 oGt (x2 oIx (xVar 0) (xC (.int 1))) (xC (.int 0))) (x2 oEq (xCall sem__law_divisor (aCons (x2 oIx (xVar 0) (xC (.int 0))) (aCons (x2 oIx (xVar 0) (xC (.int 1))) aNil))) (xC (.int 1)))))))
noncomputable def sem__law_fraction_by : List D → Res D := runB 2 (bSeq (sSet 2 (x2 oAdd (x2 oMod (xVar 0) (x2 oPow (xC (.int 10)) (xC (.int 18)))) (x2 oMul (xC (.int 48271)) (x2 oAdd (xVar 1) (xC (.int 1))))))
 (bSeq (sSet 2 (x2 oMod (x2 oMul (xVar 2) (xVar 2)) (xC (.int 2147483647))))
 (bSeq (sSet 3 (xP (x2 oIx (xLst (aCons (x2 oSub (x2 oMod (x2 oDiv (xVar 2) (xC (.int 6))) (xC (.int 13))) (xC (.int 6))) (aCons (x2 oSub (x2 oMod (x2 oDiv (xVar 2) (xC (.int 6))) (xC (.int 200001))) (x2 oPow (xC (.int 10)) (xC (.int 5)))) (aCons (x2 oSub (x2 oMod (xVar 0) (x2 oMul (xC (.int 2)) (x2 oPow (xC (.int 10)) (xC (.int 9))))) (x2 oPow (xC (.int 10)) (xC (.int 9)))) aNil)))) (x2 oMod (x2 oDiv (xVar 2) (xC (.int 6))) (xC (.int 3))))))
 (sRet (xCall sem__law_lowest (aCons (xVar 3) (aCons (x2 oAdd (xC (.int 1)) (x2 oMod (xVar 2) (xC (.int 6)))) aNil)))))))
noncomputable def sem__law_great : List D → Res D := runB 1 (bSeq (sSet 2 (x2 oSub (x2 oMod (xVar 0) (x2 oSub (x2 oMul (xC (.int 2)) (x2 oPow (xC (.int 10)) (xC (.int 60)))) (xC (.int 1)))) (x2 oSub (x2 oPow (xC (.int 10)) (xC (.int 60))) (xC (.int 1)))))
 (sRet (xCall sem__law_lowest (aCons (xVar 2) (aCons (x2 oAdd (xC (.int 1)) (x2 oMod (xVar 1) (x2 oSub (x2 oPow (xC (.int 10)) (xC (.int 60))) (xC (.int 1))))) aNil)))))
noncomputable def sem__law_worth : List D → Res D := runB 0 (sRet (xP (xAn (xCall sem__law_is_fraction (aCons (xVar 0) aNil)) (x2 oEq (x2 oMul (x2 oIx (xVar 0) (xC (.int 0))) (xVar 2)) (x2 oMul (xVar 1) (x2 oIx (xVar 0) (xC (.int 1))))))))
noncomputable def sem_plus : List D → Res D := runB 0 (sRet (xCall sem_ratio (aCons (x2 oAdd (x2 oMul (x2 oIx (xVar 0) (xC (.int 0))) (x2 oIx (xVar 1) (xC (.int 1)))) (x2 oMul (x2 oIx (xVar 1) (xC (.int 0))) (x2 oIx (xVar 0) (xC (.int 1))))) (aCons (x2 oMul (x2 oIx (xVar 0) (xC (.int 1))) (x2 oIx (xVar 1) (xC (.int 1)))) aNil))))
noncomputable def sem_minus : List D → Res D := runB 0 (sRet (xCall sem_ratio (aCons (x2 oSub (x2 oMul (x2 oIx (xVar 0) (xC (.int 0))) (x2 oIx (xVar 1) (xC (.int 1)))) (x2 oMul (x2 oIx (xVar 1) (xC (.int 0))) (x2 oIx (xVar 0) (xC (.int 1))))) (aCons (x2 oMul (x2 oIx (xVar 0) (xC (.int 1))) (x2 oIx (xVar 1) (xC (.int 1)))) aNil))))
noncomputable def sem_times : List D → Res D := runB 0 (sRet (xCall sem_ratio (aCons (x2 oMul (x2 oIx (xVar 0) (xC (.int 0))) (x2 oIx (xVar 1) (xC (.int 0)))) (aCons (x2 oMul (x2 oIx (xVar 0) (xC (.int 1))) (x2 oIx (xVar 1) (xC (.int 1)))) aNil))))
noncomputable def sem__law_block : List D → Res D := runB 2 (bSeq (sSet 2 (xC (.int 0)))
 (bSeq (sIf (tBl (x2 oLt (x2 oAdd (xC (.int 1)) (x2 oMod (x2 oDiv (xVar 1) (xC (.int 8))) (xC (.int 62)))) (x1 oLen (xVar 0)))) (sSet 2 (x2 oDiv (x2 oIx (xVar 0) (x2 oAdd (xC (.int 1)) (x2 oMod (x2 oDiv (xVar 1) (xC (.int 8))) (xC (.int 62))))) (x2 oPow (xC (.int 10)) (xC (.int 64))))) bN)
 (bSeq (sForG (srcK (iR1 (x2 oMod (xVar 1) (xC (.int 8))))) (b1 3) (sSet 2 (x2 oDiv (xVar 2) (xC (.int 2147483587)))))
 (sRet (x2 oMod (xVar 2) (xC (.int 2147483587)))))))
noncomputable def sem__law_mixed : List D → Res D := runB 2 (bSeq (sSet 2 (xC (.int 0)))
 (bSeq (sIf (tBl (x2 oGt (x1 oLen (xVar 0)) (xC (.int 0)))) (sSet 2 (xP (x2 oIx (xVar 0) (xC (.int 0))))) bN)
 (bSeq (sIf (tBl (x2 oEq (x2 oMod (x2 oDiv (xVar 2) (x2 oPow (xC (.int 10)) (xC (.int 6)))) (xC (.int 2))) (xC (.int 1)))) (sRet (xCall sem__law_block (aCons (xVar 0) (aCons (xVar 1) aNil)))) bN)
 (bSeq (sIf (tBl (x2 oGt (x1 oLen (xVar 0)) (xC (.int 0)))) (sSet 2 (xP (x2 oIx (xVar 0) (x2 oMod (xVar 1) (x2 oMin (xC (.int 63)) (x1 oLen (xVar 0))))))) bN)
 (bSeq (sSet 3 (x2 oAdd (x2 oMod (xVar 2) (x2 oPow (xC (.int 10)) (xC (.int 18)))) (x2 oMul (xC (.int 48271)) (x2 oAdd (xVar 1) (xC (.int 1))))))
 (bSeq (sSet 3 (x2 oAdd (x2 oMod (x2 oMul (xVar 3) (xVar 3)) (xC (.int 2147483629))) (x2 oMul (xC (.int 69621)) (xVar 1))))
 (sRet (x2 oMod (x2 oMul (xVar 3) (xVar 3)) (xC (.int 2147483587))))))))))
noncomputable def sem__law_any : List D → Res D := runB 6 (bSeq (sSet 3 (xLc (iR1 (xVar 2)) (b1 7) [7] tYs (xLst aNil)))
 (bSeq (sSet 4 (x2 oAdd (xC (.int 2)) (x2 oMod (xCall sem__law_mixed (aCons (xVar 0) (aCons (xVar 1) aNil))) (xC (.int 3)))))
 (bSeq (sForG (srcK (iR1 (xVar 2))) (b1 5) (sForG (srcK (iR1 (xVar 5))) (b1 6) (bSeq (sSet 8 (xCall sem__law_mixed (aCons (xVar 0) (aCons (x2 oAdd (x2 oAdd (x2 oAdd (xVar 1) (xC (.int 1))) (x2 oMul (xC (.int 8)) (xVar 5))) (xVar 6)) aNil))))
 (sIf (tBl (x2 oNe (x2 oMod (xVar 8) (xVar 4)) (xC (.int 0)))) (bSeq (sMeth (locP 3 (xVar 5)) (aCons (x2 oMod (x2 oDiv (xVar 8) (xC (.int 12))) (x2 oAdd (x1 oLen (x2 oIx (xVar 3) (xVar 5))) (xC (.int 1)))) (aCons (xP (xVar 6)) aNil)) opIns)
 (sMeth (locP 3 (xVar 6)) (aCons (x2 oMod (x2 oDiv (xVar 8) (xC (.int 128))) (x2 oAdd (x1 oLen (x2 oIx (xVar 3) (xVar 6))) (xC (.int 1)))) (aCons (xP (xVar 5)) aNil)) opIns)) bN))))
 (sRetV 3))))
noncomputable def sem_ties : List D → Res D := runB 3 (bSeq (sSet 1 (xLst aNil))
 (bSeq (sForG (srcK (iR1 (x1 oLen (xVar 0)))) (b1 2) (sSet 1 (x2 oCat (xVar 1) (xLc (iL (x1 oSort (x2 oIx (xVar 0) (xVar 2)))) (b1 3) [3] (tBl (x2 oLt (xVar 2) (xVar 3))) (xTup (aCons (xP (xVar 2)) (aCons (xP (xVar 3)) aNil)))))))
 (sRetV 1)))
noncomputable def sem_come_to : List D → Res D := runB 3 (bSeq (sSet 3 (xC (.dI [])))
 (bSeq (sPutI 3 (xC (.bl true)) (xVar 1))
 (bSeq (sSet 4 (xLst (aCons (xP (xVar 1)) aNil)))
 (bSeq (sWhile (tBl (x2 oNe (xVar 4) (xLst aNil))) (sForG (srcE 0 (xPop (locV 4))) (b1 5) (sIf (tAn (tBl (x2 oNinDI (xVar 5) (xVar 3))) (tBl (x2 oNin (xVar 5) (xVar 2)))) (bSeq (sPutI 3 (xC (.bl true)) (xVar 5))
 (sMeth (locV 4) (aCons (xP (xVar 5)) aNil) opApp)) bN)))
 (sRetV 3)))))
noncomputable def sem_hangs : List D → Res D := runB 0 (sRet (x2 oEq (x1 oLenD (xCall sem_come_to (aCons (xVar 0) (aCons (xC (.int 0)) (aCons (xLst aNil) aNil))))) (x1 oLen (xVar 0))))
noncomputable def sem_next_in : List D → Res D := runB 1 (bSeq (sAlP 3 0 (xVar 2))
 (sRet (xP (x2 oIx (xVar 3) (x2 oSub (x2 oIndex (xL (xVar 3)) (xVar 1)) (xC (.int 1)))))))
noncomputable def sem_ring_from : List D → Res D := runB 3 (bSeq (sSet 3 (xLst (aCons (xP (xVar 1)) aNil)))
 (bSeq (sSet 4 (xP (xVar 1)))
 (bSeq (sSet 5 (xP (xVar 2)))
 (sWhile (tBl (xC (.bl true))) (bSeq (sPar 4 5 (xVar 5) (xCall sem_next_in (aCons (xVar 0) (aCons (xVar 4) (aCons (xVar 5) aNil)))))
 (bSeq (sIf (tAn (tBl (x2 oEq (xVar 4) (xVar 1))) (tBl (x2 oEq (xVar 5) (xVar 2)))) (sRetV 3) bN)
 (sMeth (locV 3) (aCons (xP (xVar 4)) aNil) opApp)))))))
noncomputable def sem_begun_least : List D → Res D := runB 1 (sRet (x1 oMinLL (xLc (iR1 (x1 oLen (xVar 0))) (b1 1) [1] tYs (x2 oCat (xSl (xVar 0) (pS (xVar 1)) pN) (xSl (xVar 0) pN (pS (xVar 1)))))))
noncomputable def sem_lands : List D → Res D := runB 6 (bSeq (sSet 1 (xC (.dT [])))
 (bSeq (sSet 2 (xLst aNil))
 (bSeq (sForG (srcK (iR1 (x1 oLen (xVar 0)))) (b1 3) (sForG (srcP 0 (xVar 3)) (b1 4) (sIf (tBl (x2 oNinDT (xKey (aCons (xVar 3) (aCons (xVar 4) aNil))) (xVar 1))) (bSeq (sSet 5 (xCall sem_ring_from (aCons (xVar 0) (aCons (xVar 3) (aCons (xVar 4) aNil)))))
 (bSeq (sForG (srcK (iR1 (x1 oLen (xVar 5)))) (b1 6) (sPutT 1 (xC (.bl true)) (xKey (aCons (x2 oIx (xVar 5) (x2 oSub (xVar 6) (xC (.int 1)))) (aCons (x2 oIx (xVar 5) (xVar 6)) aNil)))))
 (sMeth (locV 2) (aCons (xCall sem_begun_least (aCons (xVar 5) aNil)) aNil) opApp))) bN)))
 (sRetSort 2))))
noncomputable def sem__law_rings : List D → Res D := runB 8 (bSeq (sSet 1 (xC (.dT [])))
 (bSeq (sSet 2 (xLst aNil))
 (bSeq (sForG (srcK (iR1 (x1 oLen (xVar 0)))) (b1 3) (sForG (srcP 0 (xVar 3)) (b1 4) (sIf (tBl (x2 oNinDT (xKey (aCons (xVar 3) (aCons (xVar 4) aNil))) (xVar 1))) (bSeq (sSet 5 (xLst aNil))
 (bSeq (sSet 6 (xP (xVar 3)))
 (bSeq (sSet 7 (xP (xVar 4)))
 (bSeq (sWhile (tBl (x2 oNinDT (xKey (aCons (xVar 6) (aCons (xVar 7) aNil))) (xVar 1))) (bSeq (sPutT 1 (xC (.bl true)) (xKey (aCons (xVar 6) (aCons (xVar 7) aNil))))
 (bSeq (sMeth (locV 5) (aCons (xP (xVar 6)) aNil) opApp)
 (bSeq (sAlP 8 0 (xVar 7))
 (sPar 6 7 (xVar 7) (x2 oIx (xVar 8) (x2 oSub (x2 oIndex (xL (xVar 8)) (xVar 6)) (xC (.int 1)))))))))
 (sAppV (locV 2) 5))))) bN)))
 (sRetV 2))))
noncomputable def sem__law_put_tie : List D → Res (D × D) := runM 2 0 (bSeq (sSet 4 (xP (x2 oIx (xVar 1) (xVar 2))))
 (bSeq (sSet 5 (xP (x2 oIx (xVar 1) (xVar 3))))
 (sIf (tAn (tBl (x2 oNe (xVar 4) (xVar 5))) (tBl (x2 oNin (xVar 5) (x2 oIx (xVar 0) (xVar 4))))) (bSeq (sMeth (locP 0 (xVar 4)) (aCons (x2 oIndex (xL (x2 oIx (xVar 0) (xVar 4))) (x2 oIx (xVar 1) (x2 oSub (xVar 2) (xC (.int 1))))) (aCons (xP (xVar 5)) aNil)) opIns)
 (sMeth (locP 0 (xVar 5)) (aCons (x2 oIndex (xL (x2 oIx (xVar 0) (xVar 5))) (x2 oIx (xVar 1) (x2 oSub (xVar 3) (xC (.int 1))))) (aCons (xP (xVar 4)) aNil)) opIns)) bN)))
noncomputable def sem__law_put_place : List D → Res (D × D) := runM 3 0 (bSeq (sSet 3 (x1 oLen (xVar 0)))
 (bSeq (sForG (srcV 2) (b1 4) (bSeq (sAlP 5 0 (x2 oIx (xVar 1) (xVar 4)))
 (sMeth (locV 5) (aCons (x2 oIndex (xL (xVar 5)) (x2 oIx (xVar 1) (x2 oSub (xVar 4) (xC (.int 1))))) (aCons (xP (xVar 3)) aNil)) opIns)))
 (sMeth (locV 0) (aCons (xLc (iL (xVar 2)) (b1 4) [4] tYs (xP (x2 oIx (xVar 1) (xVar 4)))) aNil) opApp)))
noncomputable def sem__law_grown : List D → Res D := runB 7 (bSeq (sSet 3 (xLst (aCons (xLst (aCons (xC (.int 1)) aNil)) (aCons (xLst (aCons (xC (.int 0)) aNil)) aNil))))
 (bSeq (sForG (srcK (iR1 (xVar 2))) (b1 4) (bSeq (sSet 5 (xCall sem__law_mixed (aCons (xVar 0) (aCons (x2 oAdd (xVar 1) (xVar 4)) aNil))))
 (bSeq (sSet 6 (xCall sem__law_rings (aCons (xVar 3) aNil)))
 (bSeq (sAlP 7 6 (x2 oMod (xVar 5) (x1 oLen (xVar 6))))
 (sIf (tBl (x2 oEq (x2 oMod (x2 oDiv (xVar 5) (xC (.int 64))) (xC (.int 2))) (xC (.int 0)))) (sDoE (xCallM 0 sem__law_put_tie (locV 3) (aCons (xVar 7) (aCons (xP (x2 oMod (x2 oDiv (xVar 5) (xC (.int 128))) (x1 oLen (xVar 7)))) (aCons (xP (x2 oMod (x2 oDiv (xVar 5) (xC (.int 4096))) (x1 oLen (xVar 7)))) aNil))))) (bSeq (sSet 8 (xLst aNil))
 (bSeq (sForG (srcK (iR1 (x1 oLen (xVar 7)))) (b1 9) (sIf (tAn (tBl (x2 oNin (x2 oIx (xVar 7) (xVar 9)) (xSl (xVar 7) pN (pS (xVar 9))))) (tBl (x2 oNe (x2 oMod (x2 oAdd (x2 oDiv (xVar 5) (xC (.int 128))) (x2 oMul (xVar 9) (x2 oDiv (xVar 5) (xC (.int 8192))))) (xC (.int 3))) (xC (.int 0))))) (sMeth (locV 8) (aCons (xP (xVar 9)) aNil) opApp) bN))
 (bSeq (sIf (tBl (x2 oEq (xVar 8) (xLst aNil))) (sSet 8 (xLst (aCons (x2 oMod (x2 oDiv (xVar 5) (xC (.int 128))) (x1 oLen (xVar 7))) aNil))) bN)
 (sDoE (xCallM 0 sem__law_put_place (locV 3) (aCons (xVar 7) (aCons (xVar 8) aNil))))))))))))
 (sRetV 3)))
noncomputable def sem_copied : List D → Res D := runB 1 (sRet (xLc (iL (xVar 0)) (b1 1) [1] tYs (x1 oList (xVar 1))))
noncomputable def sem_put_ahead : List D → Res (D × D) := runM 0 0 (sMeth (locV 0) (aCons (x2 oIndex (xL (xVar 0)) (xVar 1)) (aCons (xP (xVar 2)) aNil)) opIns)
noncomputable def sem_tied : List D → Res D := runB 4 (bSeq (sSet 4 (x2 oIx (xCall sem_lands (aCons (xVar 0) aNil)) (xVar 1)))
 (bSeq (sSet 5 (xP (x2 oIx (xVar 4) (xVar 2))))
 (bSeq (sSet 6 (xP (x2 oIx (xVar 4) (xVar 3))))
 (bSeq (sIf (tOr' (tBl (x2 oEq (xVar 5) (xVar 6))) (tBl (x2 oIn (xVar 6) (x2 oIx (xVar 0) (xVar 5))))) (sRaise 3) bN)
 (bSeq (sSet 7 (xCall sem_copied (aCons (xVar 0) aNil)))
 (bSeq (sDoE (xCallM 0 sem_put_ahead (locP 7 (xVar 5)) (aCons (xP (x2 oIx (xVar 4) (x2 oSub (xVar 2) (xC (.int 1))))) (aCons (xP (xVar 6)) aNil))))
 (bSeq (sDoE (xCallM 0 sem_put_ahead (locP 7 (xVar 6)) (aCons (xP (x2 oIx (xVar 4) (x2 oSub (xVar 3) (xC (.int 1))))) (aCons (xP (xVar 5)) aNil))))
 (sRetV 7))))))))
noncomputable def semX_tied : List D → Res D := runB 4 (bSeq (sSet 4 (x2 oIx (xCall sem_lands (aCons (xVar 0) aNil)) (xVar 1)))
 (bSeq (sSet 5 (xP (x2 oIx (xVar 4) (xVar 2))))
 (bSeq (sSet 6 (xP (x2 oIx (xVar 4) (xVar 3))))
 (bSeq (sIf (tOr' (tBl (x2 oEq (xVar 5) (xVar 6))) (tBl (x2 oIn (xVar 6) (x2 oIx (xVar 0) (xVar 5))))) (sRaise 3) bN)
 (bSeq (sSet 7 (xCall sem_copied (aCons (xVar 0) aNil)))
 (bSeq (sDoE (xCallM 0 sem_put_ahead (locP 7 (xVar 5)) (aCons (xP (x2 oIx (xVar 4) (x2 oSub (xVar 2) (xC (.int 1))))) (aCons (xP (xVar 6)) aNil))))
 (bSeq (sDoE (xCallM 0 sem_put_ahead (locP 7 (xVar 6)) (aCons (xP (x2 oIx (xVar 4) (x2 oSub (xVar 3) (xC (.int 1))))) (aCons (xP (xVar 5)) aNil))))
 (sRetV 7))))))))
noncomputable def sem__law_map : List D → Res D := runB 0 (bSeq (sIf (tBl (x2 oEq (x2 oMod (xCall sem__law_mixed (aCons (xVar 0) (aCons (xC (.int 0)) aNil))) (xC (.int 3))) (xC (.int 1)))) (sRet (xCall sem__law_any (aCons (xVar 0) (aCons (xC (.int 3)) (aCons (x2 oAdd (xC (.int 2)) (x2 oMod (xCall sem__law_mixed (aCons (xVar 0) (aCons (xC (.int 1)) aNil))) (xC (.int 6)))) aNil))))) bN)
 (sRet (xCall sem__law_grown (aCons (xVar 0) (aCons (xC (.int 3)) (aCons (x2 oMod (xCall sem__law_mixed (aCons (xVar 0) (aCons (xC (.int 1)) aNil))) (xC (.int 12))) aNil))))))
noncomputable def sem__law_lands : List D → Res D := runB 3 (bSeq (sSet 1 (xLst aNil))
 (bSeq (sForG (srcK (iL (xCall sem__law_rings (aCons (xVar 0) aNil)))) (b1 2) (sMeth (locV 1) (aCons (x1 oMinLL (xLc (iR1 (x1 oLen (xVar 2))) (b1 3) [3] tYs (x2 oCat (xSl (xVar 2) (pS (xVar 3)) pN) (xSl (xVar 2) pN (pS (xVar 3)))))) aNil) opApp))
 (sRetSort 1)))
noncomputable def sem__law_is_map : List D → Res D := runB 2 (bSeq (sIf (tNo (tBl (x1 (isBI "list") (xVar 0)))) (sRet (xC (.bl false))) bN)
 (bSeq (sForG (srcV 0) (b1 1) (sIf (tOr' (tNo (tBl (x1 (isBI "list") (xVar 1)))) (tBl (x2 oNe (xLc (iL (xVar 1)) (b1 2) [2] (tNo (tBl (xCall sem__law_whole (aCons (xVar 2) aNil)))) (xP (xVar 2))) (xLst aNil)))) (sRet (xC (.bl false))) bN))
 (sRet (xC (.bl true)))))
noncomputable def sem__law_same : List D → Res D := runB 3 (bSeq (sForG (srcZ 0 1) (b2 2 3) (bSeq (sIf (tBl (x2 oNe (x1 oLen (xVar 2)) (x1 oLen (xVar 3)))) (sRet (xC (.bl false))) bN)
 (bSeq (sIf (tAn (tBl (x2 oNe (xVar 2) (xLst aNil))) (tBl (x2 oNin (x2 oIx (xVar 2) (xC (.int 0))) (xVar 3)))) (sRet (xC (.bl false))) bN)
 (bSeq (sSet 4 (xC (.int 0)))
 (bSeq (sIf (tBl (x2 oNe (xVar 2) (xLst aNil))) (sSet 4 (x2 oIndex (xL (xVar 3)) (x2 oIx (xVar 2) (xC (.int 0))))) bN)
 (sIf (tBl (x2 oNe (x2 oCat (xSl (xVar 3) (pS (xVar 4)) pN) (xSl (xVar 3) pN (pS (xVar 4)))) (xVar 2))) (sRet (xC (.bl false))) bN))))))
 (sRet (x2 oEq (x1 oLen (xVar 0)) (x1 oLen (xVar 1)))))
noncomputable def sem_count : List D → Res D := runB 2 (bSeq (sSet 1 (x1 oLen (xLc (iL (xVar 0)) (b1 2) [2] (tBl (x2 oEq (xVar 2) (xLst aNil))) (xU (xVar 2)))))
 (sRet (x2 oAdd (x2 oAdd (x2 oSub (x1 oLen (xVar 0)) (x1 oLen (xCall sem_ties (aCons (xVar 0) aNil)))) (x1 oLen (xCall sem_lands (aCons (xVar 0) aNil)))) (xVar 1))))
end Ow.Lib
end
section
set_option linter.all false
set_option maxRecDepth 100000
set_option maxHeartbeats 2000000
/-! Pw1: typed results over the plain semantics: expressions. -/
namespace Ow.P
open PySem L2 PySem.Spec Ow

/-! ### how typed things are plain data -/
def eI : Int → D := D.int
def eB : Bool → D := D.bl
def eS : Str → D := D.str
def eN : Unit → D := fun _ => .non
def eC : List Int → D := D.scr
def eX : Err → D := fun x => .exc x.c (if pureDs x.xs = true then x.xs else [])
def eD : D → D := fun d => d
section
variable {α β γ δ : Type}
def eO (e : α → D) : Option α → D
  | none => .non
  | some a => e a
def eL (e : α → D) (l : List α) : D := .lst (l.map e)
def eT2 (e : α → D) (f : β → D) (p : α × β) : D := .tup [e p.1, f p.2]
def eT3 (e : α → D) (f : β → D) (g : γ → D) (p : α × β × γ) : D := .tup [e p.1, f p.2.1, g p.2.2]
def eT4 (e : α → D) (f : β → D) (g : γ → D) (h : δ → D) (p : α × β × γ × δ) : D := .tup [e p.1, f p.2.1, g p.2.2.1, h p.2.2.2]
def eDI (e : α → D) (l : List (Int × α)) : D := .dI (l.map fun p => (p.1, e p.2))
def eDT (e : α → D) (l : List (List Int × α)) : D := .dT (l.map fun p => (p.1, e p.2))
/-- all its values are pure -/
def Pu (e : α → D) : Prop := ∀ a, pureD (e a) = true
def Im (e : α → D) : Prop := ∀ a, pureD (e a) = false
theorem pu_I : Pu eI := fun _ => pureD_int _
theorem pu_B : Pu eB := fun _ => pureD_bl _
theorem pu_S : Pu eS := fun _ => pureD_str _
theorem pu_N : Pu eN := fun _ => pureD_non
theorem pu_X : Pu eX := fun x => by
  unfold eX
  rw [pureD_exc]
  by_cases z : pureDs x.xs = true
  · rw [if_pos z]; exact z
  · rw [if_neg z]; exact pureDs_nil
theorem pu_O {e : α → D} (h : Pu e) : Pu (eO e) := fun o => by
  cases o with
  | none => exact pureD_non
  | some a => exact h a
theorem pu_T2 {e : α → D} {f : β → D} (h : Pu e) (h2 : Pu f) : Pu (eT2 e f) := fun p => by
  unfold eT2
  rw [pureD_tup, pureDs_cons, pureDs_cons, pureDs_nil, h, h2]
  rfl
theorem pu_T3 {e : α → D} {f : β → D} {g : γ → D} (h : Pu e) (h2 : Pu f) (h3 : Pu g) : Pu (eT3 e f g) := fun p => by
  unfold eT3
  rw [pureD_tup, pureDs_cons, pureDs_cons, pureDs_cons, pureDs_nil, h, h2, h3]
  rfl
theorem pu_T4 {e : α → D} {f : β → D} {g : γ → D} {k : δ → D} (h : Pu e) (h2 : Pu f) (h3 : Pu g) (h4 : Pu k) : Pu (eT4 e f g k) := fun p => by
  unfold eT4
  rw [pureD_tup, pureDs_cons, pureDs_cons, pureDs_cons, pureDs_cons, pureDs_nil, h, h2, h3, h4]
  rfl
theorem im_L {e : α → D} : Im (eL e) := fun _ => pureD_lst _
theorem im_C : Im eC := fun _ => pureD_scr _
theorem im_DI {e : α → D} : Im (eDI e) := fun _ => pureD_dI _
theorem im_DT {e : α → D} : Im (eDT e) := fun _ => pureD_dT _
theorem im_T2l {e : α → D} {f : β → D} (h : Im e) : Im (eT2 e f) := fun p => by
  unfold eT2
  rw [pureD_tup, pureDs_cons, h]
  rfl
theorem im_T2r {e : α → D} {f : β → D} (h : Im f) : Im (eT2 e f) := fun p => by
  unfold eT2
  rw [pureD_tup, pureDs_cons, pureDs_cons, h]
  simp
theorem pus {e : α → D} (h : Pu e) : ∀ l : List α, pureDs (l.map e) = true
  | [] => pureDs_nil
  | a :: l => by rw [List.map_cons, pureDs_cons, h, pus h l]; rfl

/-! ### a typed result below a plain one -/
def Le (e : α → β) : Res α → Res β → Prop
  | .ok a, r => r = .ok (e a)
  | .exc x, r => r = .exc x
  | .stuck, _ => True
def LeR : Res α → Res α → Prop
  | .ok a, r => r = .ok a
  | .exc x, r => r = .exc x
  | .stuck, _ => True
theorem LeR.refl (t : Res α) : LeR t t := by cases t <;> trivial
theorem Le.bind {α' β' : Type} {e : α → α'} {e' : β → β'} {t : Res α} {r : Res α'} {k : α → Res β} {k' : α' → Res β'} (h : Le e t r) (hk : ∀ a, Le e' (k a) (k' (e a))) : Le e' (t >>= k) (r >>= k') := by
  cases t with
  | ok a => rw [show r = _ from h]; exact hk a
  | exc x => rw [show r = _ from h]; rfl
  | stuck => trivial
theorem LeR.bind {t r : Res α} {k k' : α → Res β} (h : LeR t r) (hk : ∀ a, LeR (k a) (k' a)) : LeR (t >>= k) (r >>= k') := by
  cases t with
  | ok a => rw [show r = _ from h]; exact hk a
  | exc x => rw [show r = _ from h]; rfl
  | stuck => trivial
theorem Le.of {e : α → β} {a : α} {r : Res β} (h : Le e (.ok a) r) : r = .ok (e a) := h
theorem Le.is {e : α → β} {t : Res α} {a : α} {r : Res β} (h : Le e t r) (ht : t = .ok a) : r = .ok (e a) := by
  subst ht
  exact h
theorem Le.noX {e : α → β} {t : Res α} {r : Res β} (h : Le e t r) : Le e (noX t) (noX r) := by
  cases t with
  | ok a => rw [show r = _ from h]; rfl
  | exc x => trivial
  | stuck => trivial
@[simp] theorem noX_ok (a : α) : noX (Res.ok a) = .ok a := rfl
/-- the same, not known to Lean as true by itself: the kernel need not look -/
theorem okB (a : α) (f : α → Res β) : (Res.ok a >>= f) = f a := by rw [ok_bind]
theorem noXB (a : α) : noX (Res.ok a) = .ok a := by rw [noX_ok]
@[simp] theorem noX_exc (x : Err) : noX (Res.exc x : Res α) = .stuck := rfl
@[simp] theorem noX_stuck : noX (Res.stuck : Res α) = .stuck := rfl
def ofO : Option α → Res α
  | some a => .ok a
  | none => .stuck
@[simp] theorem ofO_some (a : α) : ofO (some a) = .ok a := rfl
@[simp] theorem ofO_none : ofO (none : Option α) = .stuck := rfl

/-! ### expressions -/
def FitE (en : En) (P : List (Option D)) : Prop := en.length = P.length ∧ ∀ (i : Nat) (d : D), P[i]? = some (some d) → en[i]? = some (some d)
def XE (P : List (Option D)) (e : α → D) (f : En → Res D) (t : Res α) : Prop := ∀ en, FitE en P → Le e t (f en)
def XT (P : List (Option D)) (f : En → Res Bool) (t : Res Bool) : Prop := ∀ en, FitE en P → LeR t (f en)
/-- arguments, by what is done with them -/
def XA (P : List (Option D)) (e : α → D) (fs : En → Res (List D)) (K : List D → Res D) (t : Res α) : Prop := ∀ en, FitE en P → Le e t (fs en >>= K)
variable {P : List (Option D)} {f g : En → Res D} {ta : Res α} {tb : Res β} {tc : Res γ} {ea : α → D} {eb : β → D} {ec : γ → D}
theorem xe_var (e : α → D) (a : α) (i : Nat) (h : P[i]? = some (some (e a))) : XE P e (xVar i) (.ok a) := fun en he => by
  unfold xVar
  rw [he.2 i _ h]
  rfl
theorem xe_C {e : α → D} {a : α} {d : D} (h : d = e a) : XE P e (xC d) (.ok a) := fun en he => by
  rw [h]
  rfl
theorem xe_2 {op : D → D → Res D} {o : α → β → Res γ} (ho : ∀ a b, Le ec (o a b) (op (ea a) (eb b))) (h1 : XE P ea f ta) (h2 : XE P eb g tb) : XE P ec (x2 op f g) (ta >>= fun a => tb >>= fun b => o a b) := fun en he =>
  (h1 en he).bind fun a => (h2 en he).bind fun b => ho a b
theorem xe_1 {op : D → Res D} {o : α → Res γ} (ho : ∀ a, Le ec (o a) (op (ea a))) (h1 : XE P ea f ta) : XE P ec (x1 op f) (ta >>= fun a => o a) := fun en he =>
  (h1 en he).bind fun a => ho a
theorem xe_P (hp : Pu ea) (h : XE P ea f ta) : XE P ea (xP f) ta := fun en he => by
  have := h en he
  unfold xP
  cases ta with
  | ok a =>
    rw [show f en = _ from this]
    exact if_pos (hp a)
  | exc x => rw [show f en = _ from this]; rfl
  | stuck => trivial
theorem isL_e {e : α → D} (l : List α) : isL (eL e l) = true := rfl
theorem xe_L (hl : ∀ a, isL (ea a) = true) (h : XE P ea f ta) : XE P ea (xL f) ta := fun en he => by
  have := h en he
  unfold xL
  cases ta with
  | ok a =>
    rw [show f en = _ from this]
    exact if_pos (hl a)
  | exc x => rw [show f en = _ from this]; rfl
  | stuck => trivial
theorem xe_some (h : XE P ea f ta) : XE P (eO ea) f (ta >>= fun a => .ok (some a)) := fun en he => by
  have := h en he
  cases ta with
  | ok a => exact this
  | exc x => exact this
  | stuck => trivial
theorem xe_none {t : Res Unit} (h : XE P eN f t) : XE P (eO ea) f (t >>= fun _ => .ok none) := fun en he => by
  have := h en he
  cases t with
  | ok a => exact this
  | exc x => exact this
  | stuck => trivial
/-- the thing is no None -/
theorem xe_get {t : Res (Option α)} (h : XE P (eO ea) f t) : XE P ea f (t >>= fun o => ofO o) := fun en he => by
  have := h en he
  cases t with
  | ok o =>
    cases o with
    | none => trivial
    | some a => exact this
  | exc x => exact this
  | stuck => trivial
/-- a value told in another way -/
theorem xe_map {h : α → β} (hh : ∀ a, ea a = eb (h a)) (x : XE P ea f ta) : XE P eb f (ta >>= fun a => .ok (h a)) := fun en he => by
  have := x en he
  cases ta with
  | ok a => exact (show f en = _ from this).trans (by rw [hh]; )
  | exc x => exact this
  | stuck => trivial

/-! ### tests -/
variable {c d : En → Res Bool} {t1 t2 : Res Bool}
theorem xt_Bl {t : Res Bool} (h : XE P eB f t) : XT P (tBl f) t := fun en he => by
  have := h en he
  unfold tBl
  cases t with
  | ok a => rw [show f en = _ from this]; rfl
  | exc x => rw [show f en = _ from this]; rfl
  | stuck => trivial
theorem xt_An (h1 : XT P c t1) (h2 : XT P d t2) : XT P (tAn c d) (t1 >>= fun b => if b = true then t2 else .ok false) := fun en he =>
  (h1 en he).bind fun b => by
    cases b with
    | true => exact h2 en he
    | false => rfl
theorem xt_Or (h1 : XT P c t1) (h2 : XT P d t2) : XT P (tOr' c d) (t1 >>= fun b => if b = true then .ok true else t2) := fun en he =>
  (h1 en he).bind fun b => by
    cases b with
    | false => exact h2 en he
    | true => rfl
theorem xt_No (h1 : XT P c t1) : XT P (tNo c) (t1 >>= fun b => .ok (!b)) := fun en he =>
  (h1 en he).bind fun b => rfl
/-- both without ends -/
theorem xt_AnP {b1 b2 : Bool} (h1 : XT P c (.ok b1)) (h2 : XT P d (.ok b2)) : XT P (tAn c d) (.ok (b1 && b2)) := fun en he => by
  have := xt_An h1 h2 en he
  cases b1 <;> exact this
theorem xt_OrP {b1 b2 : Bool} (h1 : XT P c (.ok b1)) (h2 : XT P d (.ok b2)) : XT P (tOr' c d) (.ok (b1 || b2)) := fun en he => by
  have := xt_Or h1 h2 en he
  cases b1 <;> exact this
theorem xt_Ys : XT P tYs (.ok true) := fun en he => rfl
theorem xe_An (h1 : XE P eB f t1) (h2 : XE P eB g t2) : XE P eB (xAn f g) (t1 >>= fun b => if b = true then t2 else .ok false) := fun en he =>
  (h1 en he).bind fun b => by
    cases b with
    | true => exact h2 en he
    | false => rfl
theorem xe_Or (h1 : XE P eB f t1) (h2 : XE P eB g t2) : XE P eB (xOr f g) (t1 >>= fun b => if b = true then .ok true else t2) := fun en he =>
  (h1 en he).bind fun b => by
    cases b with
    | false => exact h2 en he
    | true => rfl
theorem xe_No (h1 : XE P eB f t1) : XE P eB (xNo f) (t1 >>= fun b => .ok (!b)) := fun en he =>
  (h1 en he).bind fun b => rfl
theorem xe_AnP {b1 b2 : Bool} (h1 : XE P eB f (.ok b1)) (h2 : XE P eB g (.ok b2)) : XE P eB (xAn f g) (.ok (b1 && b2)) := fun en he => by
  have := xe_An h1 h2 en he
  cases b1 <;> exact this
theorem xe_OrP {b1 b2 : Bool} (h1 : XE P eB f (.ok b1)) (h2 : XE P eB g (.ok b2)) : XE P eB (xOr f g) (.ok (b1 || b2)) := fun en he => by
  have := xe_Or h1 h2 en he
  cases b1 <;> exact this
theorem xe_If {ta' : Res α} (hc : XT P c t1) (h1 : XE P ea f ta) (h2 : XE P ea g ta') : XE P ea (xIf c f g) (t1 >>= fun b => if b = true then ta else ta') := fun en he => by
  have := hc en he
  unfold xIf
  cases t1 with
  | ok b =>
    rw [show c en = _ from this]
    cases b with
    | true => exact h1 en he
    | false => exact h2 en he
  | exc x => rw [show c en = _ from this]; rfl
  | stuck => trivial

/-! ### arguments -/
variable {fs : En → Res (List D)} {K : List D → Res D}
theorem xa_nil {t : Res α} (h : Le ea t (K [])) : XA P ea aNil K t := fun en he => h
theorem xa_cons {k : α → Res β} (h1 : XE P ea f ta) (h2 : ∀ a, XA P eb fs (fun ds => K (ea a :: ds)) (k a)) : XA P eb (aCons f fs) K (ta >>= k) := fun en he => by
  have := h1 en he
  unfold aCons
  cases ta with
  | ok a =>
    rw [show f en = _ from this]
    have q := h2 a en he
    show Le eb (k a) ((fs en >>= fun ds => .ok (ea a :: ds)) >>= K)
    cases r : fs en with
    | ok ds => rw [r] at q; exact q
    | exc x => rw [r] at q; exact q
    | stuck => rw [r] at q; exact q
  | exc x => rw [show f en = _ from this]; rfl
  | stuck => trivial
theorem xe_call {sem : List D → Res D} (h : XA P ea fs (fun ds => noX (sem ds)) ta) : XE P ea (xCall sem fs) ta := h
theorem xe_callX {sem : List D → Res D} (h : XA P ea fs sem ta) : XE P ea (xCallX sem fs) ta := h
theorem xe_tup (h : XA P ea fs (fun ds => if szOk ds.length = true then .ok (.tup ds) else .stuck) ta) : XE P ea (xTup fs) ta := h
theorem xe_lst (h : XA P ea fs (fun ds => if szOk ds.length = true then .ok (.lst ds) else .stuck) ta) : XE P ea (xLst fs) ta := h
theorem xe_key (h : XA P ea fs (fun ds => match intsOf ds with
  | some (i :: is) => if szOk ds.length = true then .ok (.tup ds) else .stuck
  | _ => .stuck) ta) : XE P ea (xKey fs) ta := h

/-! ### slices -/
def XO (P : List (Option D)) (l : En → Res (Option Int)) (t : Res (Option Int)) : Prop := ∀ en, FitE en P → LeR t (l en)
theorem xo_N : XO P pN (.ok none) := fun en he => rfl
theorem xo_S {t : Res Int} (h : XE P eI f t) : XO P (pS f) (t >>= fun i => .ok (some i)) := fun en he => by
  have := h en he
  unfold pS
  cases t with
  | ok a => rw [show f en = _ from this]; rfl
  | exc x => rw [show f en = _ from this]; rfl
  | stuck => trivial
theorem cutG_map {h : α → β} (l : List α) (lo hi : Option Int) : cutG (l.map h) lo hi = (cutG l lo hi).map h := by
  unfold cutG
  rw [List.length_map, List.map_take, List.map_drop]
theorem xe_sl {lo hi : En → Res (Option Int)} {t : Res (List α)} {tl th : Res (Option Int)} (hp : Pu ea) (h : XE P (eL ea) f t) (hl : XO P lo tl) (hh : XO P hi th) : XE P (eL ea) (xSl f lo hi) (t >>= fun l => tl >>= fun i => th >>= fun j => .ok (cutG l i j)) := fun en he => by
  unfold xSl
  refine (h en he).bind fun l => ?_
  have q1 := hl en he
  cases tl with
  | stuck => trivial
  | exc x => rw [show lo en = _ from q1]; rfl
  | ok i =>
    rw [show lo en = _ from q1]
    have q2 := hh en he
    cases th with
    | stuck => trivial
    | exc x => rw [show hi en = _ from q2]; rfl
    | ok j =>
      rw [show hi en = _ from q2]
      show (if pureDs (l.map ea) = true then Res.ok (D.lst (cutG (l.map ea) i j)) else .stuck) = .ok (eL ea (cutG l i j))
      rw [if_pos (pus hp l), cutG_map]
      rfl
theorem xe_slC {lo hi : En → Res (Option Int)} {t : Res (List Int)} {tl th : Res (Option Int)} (h : XE P eC f t) (hl : XO P lo tl) (hh : XO P hi th) : XE P (eL eI) (xSl f lo hi) (t >>= fun l => tl >>= fun i => th >>= fun j => .ok (cutG l i j)) := fun en he => by
  unfold xSl
  refine (h en he).bind fun l => ?_
  have q1 := hl en he
  cases tl with
  | stuck => trivial
  | exc x => rw [show lo en = _ from q1]; rfl
  | ok i =>
    rw [show lo en = _ from q1]
    have q2 := hh en he
    cases th with
    | stuck => trivial
    | exc x => rw [show hi en = _ from q2]; rfl
    | ok j => rw [show hi en = _ from q2]; rfl
theorem xe_slR {lo hi : En → Res (Option Int)} {t : Res (List α)} {tl th : Res (Option Int)} (h : XE P (eL ea) f t) (hl : XO P lo tl) (hh : XO P hi th) : XE P (eL ea) (xSlR f lo hi) (t >>= fun l => tl >>= fun i => th >>= fun j => .ok (cutG l i j)) := fun en he => by
  unfold xSlR
  refine (h en he).bind fun l => ?_
  have q1 := hl en he
  cases tl with
  | stuck => trivial
  | exc x => rw [show lo en = _ from q1]; rfl
  | ok i =>
    rw [show lo en = _ from q1]
    have q2 := hh en he
    cases th with
    | stuck => trivial
    | exc x => rw [show hi en = _ from q2]; rfl
    | ok j =>
      rw [show hi en = _ from q2]
      show Res.ok (D.lst (cutG (l.map ea) i j)) = .ok (eL ea (cutG l i j))
      rw [cutG_map]
      rfl

/-! ### lists by lists -/
def XI {β : Type} (P : List (Option D)) (L : En → Res (List β)) (eb : α → β) (t : Res (List α)) : Prop := ∀ en, FitE en P → Le (List.map eb) t (L en)
theorem xi_L {t : Res (List α)} (h : XE P (eL ea) f t) : XI P (iL f) ea t := fun en he => by
  have := h en he
  cases t with
  | ok l => show (f en >>= itD) = _; rw [show f en = _ from this]; rfl
  | exc x => show (f en >>= itD) = _; rw [show f en = _ from this]; rfl
  | stuck => trivial
theorem xi_C {t : Res (List Int)} (h : XE P eC f t) : XI P (iL f) eI t := fun en he => by
  have := h en he
  cases t with
  | ok l => show (f en >>= itD) = _; rw [show f en = _ from this]; rfl
  | exc x => show (f en >>= itD) = _; rw [show f en = _ from this]; rfl
  | stuck => trivial
def e2 (e : α → D) (f : β → D) (p : α × β) : D × D := (e p.1, f p.2)
theorem itP_map (e : α → D) (f : β → D) : ∀ l : List (α × β), itP (l.map (eT2 e f)) = .ok (l.map (e2 e f))
  | [] => rfl
  | p :: l => by
    show (itP (l.map (eT2 e f)) >>= fun l' => Res.ok ((e p.1, f p.2) :: l')) = _
    rw [itP_map e f l]
    rfl
theorem xi_P {t : Res (List (α × β))} (h : XE P (eL (eT2 ea eb)) f t) : XI P (iP f) (e2 ea eb) t := fun en he => by
  have := h en he
  cases t with
  | ok l =>
    show (f en >>= fun d => itD d >>= itP) = _
    rw [show f en = _ from this]
    exact itP_map ea eb l
  | exc x => show (f en >>= fun d => itD d >>= itP) = _; rw [show f en = _ from this]; rfl
  | stuck => trivial
/-- the numbers from lo on -/
def up (lo : Int) (n : Nat) : List Int := (List.range n).map fun k => lo + (k : Nat)
theorem up_e (lo : Int) (n : Nat) : intsUpTo lo n = (up lo n).map eI := by
  unfold intsUpTo up
  rw [List.map_map]
  rfl
@[irreducible] def pR1 (n : Int) : Res (List Int) := if rgOk n = true then .ok (up 0 n.toNat) else .stuck
@[irreducible] def pR2 (lo hi : Int) : Res (List Int) := if (rgOk lo && rgOk hi) = true then .ok (up lo (hi - lo).toNat) else .stuck
theorem xi_R1 {t : Res Int} (h : XE P eI f t) : XI P (iR1 f) eI (t >>= fun n => pR1 n) := fun en he => by
  unfold iR1
  refine (h en he).bind fun n => ?_
  unfold pR1
  by_cases q : rgOk n = true
  · rw [if_pos q]
    show (if rgOk n = true then Res.ok (intsUpTo 0 n.toNat) else .stuck) = _
    rw [if_pos q, up_e]
  · rw [if_neg q]
    trivial
theorem xi_R2 {t s : Res Int} (h : XE P eI f t) (h2 : XE P eI g s) : XI P (iR2 f g) eI (t >>= fun n => s >>= fun m => pR2 n m) := fun en he => by
  unfold iR2
  refine (h en he).bind fun n => (h2 en he).bind fun m => ?_
  unfold pR2
  by_cases q : (rgOk n && rgOk m) = true
  · rw [if_pos q]
    show (if (rgOk n && rgOk m) = true then Res.ok (intsUpTo n (m - n).toNat) else .stuck) = _
    rw [if_pos q, up_e]
  · rw [if_neg q]
    trivial
theorem zip_e (e : α → D) (f : β → D) : ∀ (xs : List α) (ys : List β), (xs.map e).zip (ys.map f) = (xs.zip ys).map (e2 e f)
  | [], _ => rfl
  | _ :: _, [] => rfl
  | x :: xs, y :: ys => by
    rw [List.map_cons, List.map_cons, List.zip_cons_cons, List.zip_cons_cons, List.map_cons, zip_e e f xs ys]
    rfl
theorem xi_Z {t : Res (List α)} {s : Res (List β)} (h : XE P (eL ea) f t) (h2 : XE P (eL eb) g s) : XI P (iZ f g) (e2 ea eb) (t >>= fun xs => s >>= fun ys => .ok (xs.zip ys)) := fun en he => by
  have q1 := h en he
  cases t with
  | stuck => trivial
  | exc x => show iZ f g en = _; unfold iZ; rw [show f en = _ from q1]; rfl
  | ok n =>
    have q2 := h2 en he
    cases s with
    | stuck => trivial
    | exc x => show iZ f g en = _; unfold iZ; rw [show f en = _ from q1, show g en = _ from q2]; rfl
    | ok m =>
      show iZ f g en = _
      unfold iZ
      rw [show f en = _ from q1, show g en = _ from q2]
      show Res.ok ((n.map ea).zip (m.map eb)) = _
      rw [zip_e]
/-- numbered -/
def pEn (k : Nat) : List α → List (Int × α)
  | [] => []
  | a :: l => ((k : Nat), a) :: pEn (k + 1) l
theorem en_e (e : α → D) : ∀ (k : Nat) (l : List α), enumP k (l.map e) = (pEn k l).map (e2 eI e)
  | _, [] => rfl
  | k, a :: l => by
    show (D.int (k : Nat), e a) :: enumP (k + 1) (l.map e) = _
    rw [en_e e (k + 1) l]
    rfl
theorem xi_En {t : Res (List α)} (h : XE P (eL ea) f t) : XI P (iEn f) (e2 eI ea) (t >>= fun l => .ok (pEn 0 l)) := fun en he => by
  have := h en he
  cases t with
  | ok l =>
    show iEn f en = _
    unfold iEn
    rw [show f en = _ from this]
    show Res.ok (enumP 0 (l.map ea)) = _
    rw [en_e]
  | exc x => show iEn f en = _; unfold iEn; rw [show f en = _ from this]; rfl
  | stuck => trivial
theorem xi_Rv {t : Res (List α)} (h : XE P (eL ea) f t) : XI P (iRv f) ea (t >>= fun l => .ok l.reverse) := fun en he => by
  have := h en he
  cases t with
  | ok l =>
    show iRv f en = _
    unfold iRv
    rw [show f en = _ from this]
    show Res.ok (l.map ea).reverse = _
    rw [List.map_reverse]
  | exc x => show iRv f en = _; unfold iRv; rw [show f en = _ from this]; rfl
  | stuck => trivial

def pLcR (c : α → Res Bool) (f : α → Res γ) : List α → Res (List γ)
  | [] => .ok []
  | a :: l => c a >>= fun b => if b = true then f a >>= fun d => pLcR c f l >>= fun ds => .ok (d :: ds) else pLcR c f l
def pLc (l : List α) (c : α → Res Bool) (f : α → Res γ) : Res (List γ) := if szOk l.length = true then noX (pLcR c f l) else .stuck
/-- the environment with slots wiped, then bound -/
def wipeP (P : List (Option D)) : List Nat → List (Option D)
  | [] => P
  | v :: vs => (wipeP P vs).set v none
def bndP (P : List (Option D)) : Bd → List (Option D)
  | [] => P
  | (i, d) :: r => bndP (P.set i (some d)) r
theorem FitE.set {en : En} {P : List (Option D)} (h : FitE en P) (i : Nat) (o : Option D) : FitE (en.set i o) (P.set i o) := ⟨by rw [List.length_set, List.length_set]; exact h.1, fun k d hk => by
  by_cases e : i = k
  · subst e
    by_cases hl : i < P.length
    · rw [List.getElem?_set_self hl] at hk
      rw [List.getElem?_set_self (by rw [h.1]; exact hl)]
      exact hk
    · rw [List.getElem?_eq_none (by simpa using Nat.le_of_not_lt hl)] at hk
      cases hk
  · rw [List.getElem?_set_ne e] at hk ⊢
    exact h.2 k d hk⟩
theorem FitE.bnd {en : En} : ∀ {P : List (Option D)} (bd : Bd), FitE en P → FitE (setE en bd) (bndP P bd)
  | _, [], h => h
  | P, (i, d) :: r, h => FitE.bnd (P := P.set i (some d)) r (h.set i (some d))
theorem FitE.wipe {en : En} {P : List (Option D)} (h : FitE en P) : ∀ vs, FitE (wipeE en vs) (wipeP P vs)
  | [] => h
  | v :: vs => (FitE.wipe h vs).set v none
theorem lc_le {β : Type} {bnd : β → Bd} {c : En → Res Bool} {f : En → Res D} {en : En} {P : List (Option D)} {eb : α → β} {ec : γ → D} {tc : α → Res Bool} {tf : α → Res γ} (he : FitE en P) (hc : ∀ a, XT (bndP P (bnd (eb a))) c (tc a)) (hf : ∀ a, XE (bndP P (bnd (eb a))) ec f (tf a)) :
    ∀ l : List α, Le (List.map ec) (pLcR tc tf l) (lcR bnd c f en (l.map eb))
  | [] => rfl
  | a :: l => by
    have ih := lc_le he hc hf l
    have q1 := hc a _ (he.bnd (bnd (eb a)))
    unfold pLcR
    rw [List.map_cons]
    unfold lcR
    cases r1 : tc a with
    | stuck => trivial
    | exc x => rw [r1] at q1; rw [show c _ = _ from q1]; rfl
    | ok b =>
      rw [r1] at q1
      rw [show c _ = _ from q1]
      cases b with
      | false => exact ih
      | true => exact (hf a _ (he.bnd (bnd (eb a)))).bind fun d => ih.bind fun ds => rfl
theorem xe_lc {β : Type} {L : En → Res (List β)} {bnd : β → Bd} {vs : List Nat} {c : En → Res Bool} {f : En → Res D} {eb : α → β} {t : Res (List α)} {tc : α → Res Bool} {tf : α → Res γ} (hL : XI P L eb t) (hc : ∀ a, XT (bndP (wipeP P vs) (bnd (eb a))) c (tc a)) (hf : ∀ a, XE (bndP (wipeP P vs) (bnd (eb a))) ec f (tf a)) :
    XE P (eL ec) (xLc L bnd vs c f) (t >>= fun l => pLc l tc tf) := fun en he => by
  have q := hL en he
  unfold xLc
  cases t with
  | stuck => trivial
  | exc x => rw [show L en = _ from q]; rfl
  | ok l =>
    rw [show L en = _ from q]
    show Le (eL ec) (pLc l tc tf) (if szOk (l.map eb).length = true then noX (lcR bnd c f (wipeE en vs) (l.map eb)) >>= fun ds => .ok (.lst ds) else .stuck)
    unfold pLc
    rw [List.length_map]
    by_cases hz : szOk l.length = true
    · rw [if_pos hz, if_pos hz]
      have := lc_le (he.wipe vs) hc hf l
      cases r : pLcR tc tf l with
      | stuck => trivial
      | exc x => trivial
      | ok ds => rw [r] at this; rw [show lcR _ _ _ _ _ = _ from this]; rfl
    · rw [if_neg hz]
      trivial
end
end Ow.P
end
section
set_option linter.all false
set_option maxRecDepth 100000
set_option maxHeartbeats 2000000
/-! Pw2: typed operations. -/
namespace Ow.P
open PySem L2 PySem.Spec Ow
variable {α β γ δ : Type}
/-! ### whole numbers -/
theorem lo_add : ∀ a b : Int, Le eI (.ok (a + b)) (oAdd (eI a) (eI b)) := fun _ _ => rfl
theorem lo_sub : ∀ a b : Int, Le eI (.ok (a - b)) (oSub (eI a) (eI b)) := fun _ _ => rfl
theorem lo_lt : ∀ a b : Int, Le eB (.ok (decide (a < b))) (oLt (eI a) (eI b)) := fun _ _ => rfl
theorem lo_le : ∀ a b : Int, Le eB (.ok (decide (a ≤ b))) (oLe (eI a) (eI b)) := fun _ _ => rfl
theorem lo_gt : ∀ a b : Int, Le eB (.ok (decide (a > b))) (oGt (eI a) (eI b)) := fun _ _ => rfl
theorem lo_ge : ∀ a b : Int, Le eB (.ok (decide (a ≥ b))) (oGe (eI a) (eI b)) := fun _ _ => rfl
theorem lo_neg : ∀ a : Int, Le eI (.ok (-a)) (oNeg (eI a)) := fun _ => rfl
def pAbs (a : Int) : Int := if a < 0 then -a else a
def pMin (a b : Int) : Int := if b < a then b else a
def pMax (a b : Int) : Int := if b > a then b else a
theorem lo_abs : ∀ a : Int, Le eI (.ok (pAbs a)) (oAbs (eI a)) := fun _ => rfl
theorem lo_min : ∀ a b : Int, Le eI (.ok (pMin a b)) (oMin (eI a) (eI b)) := fun _ _ => rfl
theorem lo_max : ∀ a b : Int, Le eI (.ok (pMax a b)) (oMax (eI a) (eI b)) := fun _ _ => rfl
def pI (c : Int → Int → Bool) (g : Int → Int → Int) (a b : Int) : Res Int := if c a b = true then .ok (g a b) else .stuck
theorem lo_I (c : Int → Int → Bool) (g : Int → Int → Int) (a b : Int) : Le eI (pI c g a b) (oI c (iI g) (eI a) (eI b)) := by
  show Le eI (if c a b = true then Res.ok (g a b) else .stuck) (if c a b = true then Res.ok (D.int (g a b)) else .stuck)
  by_cases h : c a b = true
  · rw [if_pos h, if_pos h]
    rfl
  · rw [if_neg h]
    trivial
def pMul : Int → Int → Res Int := pI cMul (· * ·)
def pDiv : Int → Int → Res Int := pI cDiv Int.fdiv
def pMod : Int → Int → Res Int := pI cMod Int.fmod
def pPow : Int → Int → Res Int := pI cPow fun i j => i ^ j.toNat
theorem lo_mul : ∀ a b : Int, Le eI (pMul a b) (oMul (eI a) (eI b)) := lo_I _ _
theorem lo_div : ∀ a b : Int, Le eI (pDiv a b) (oDiv (eI a) (eI b)) := lo_I _ _
theorem lo_mod : ∀ a b : Int, Le eI (pMod a b) (oMod (eI a) (eI b)) := lo_I _ _
theorem lo_pow : ∀ a b : Int, Le eI (pPow a b) (oPow (eI a) (eI b)) := lo_I _ _
theorem Le.inv {e : α → D} {t : Res α} {r : Res D} {d : D} (h : Le e t r) : ∀ a, t = .ok a → r = .ok (e a) := fun a ha => h.is ha

/-! ### == -/
theorem toP_int (i : Int) : toP (.int i) = .int i := by rw [toP]
/-- data without dicts, not deeper than n -/
def Sh (n : Nat) (d : D) : Prop := (toP d).canLay0 = true ∧ (toP d).depth ≤ n
theorem Sh.shp {n : Nat} {d : D} (h : Sh n d) (hn : n ≤ 64) : Ow.shp d = true := by
  unfold Ow.shp SeqAt.shaped
  rw [h.1]
  simp
  exact Nat.le_trans h.2 hn
theorem Sh.all {n : Nat} : ∀ {ds : List D}, (∀ d ∈ ds, Sh n d) → PyData.canLayAll0 (toPs ds) = true ∧ PyData.depthAll (toPs ds) ≤ n
  | [], _ => ⟨by rw [toPs, PyData.canLayAll0], by rw [toPs, PyData.depthAll]; exact Nat.zero_le _⟩
  | d :: ds, h => by
    have h1 := h d List.mem_cons_self
    have h2 := Sh.all fun e he => h e (List.mem_cons_of_mem _ he)
    refine ⟨by rw [toPs, PyData.canLayAll0, h1.1, h2.1]; rfl, ?_⟩
    rw [toPs, PyData.depthAll]
    exact Nat.max_le.mpr ⟨h1.2, h2.2⟩
theorem Sh.lst {n : Nat} {ds : List D} (h : ∀ d ∈ ds, Sh n d) : Sh (n + 1) (.lst ds) := by
  have := Sh.all h
  exact ⟨by rw [toP, PyData.canLay0]; exact this.1, by rw [toP, PyData.depth]; omega⟩
theorem Sh.tup {n : Nat} {ds : List D} (h : ∀ d ∈ ds, Sh n d) : Sh (n + 1) (.tup ds) := by
  have := Sh.all h
  exact ⟨by rw [toP, PyData.canLay0]; exact this.1, by rw [toP, PyData.depth]; omega⟩
theorem Sh.mono {n m : Nat} {d : D} (h : Sh n d) (hm : n ≤ m) : Sh m d := ⟨h.1, Nat.le_trans h.2 hm⟩
/-- things that Python compares as we do -/
structure EqE (n : Nat) (e : α → D) [DecidableEq α] : Prop where
  sh : ∀ a, Sh n (e a)
  eq : ∀ a b, PyData.eqv (toP (e a)) (toP (e b)) = decide (a = b)
theorem q_I : EqE 0 eI := ⟨fun i => ⟨by rw [eI, toP, PyData.canLay0], by rw [eI, toP, PyData.depth]; exact Nat.le_refl _⟩, fun a b => by
  unfold eI
  rw [toP, toP, PyData.eqv]
  rfl⟩
theorem q_B : EqE 0 eB := ⟨fun i => ⟨by rw [eB, toP, PyData.canLay0], by rw [eB, toP, PyData.depth]; exact Nat.le_refl _⟩, fun a b => by
  unfold eB
  rw [toP, toP, PyData.eqv]
  rfl⟩
section
variable [DecidableEq α] [DecidableEq β] [DecidableEq γ] [DecidableEq δ] {n m k : Nat} {ea : α → D} {eb : β → D} {ec : γ → D} {ed : δ → D}
theorem eqvs (h : EqE n ea) : ∀ a b : List α, PyData.eqvAll (toPs (a.map ea)) (toPs (b.map ea)) = decide (a = b)
  | [], [] => by simp [toPs, PyData.eqvAll]
  | [], _ :: _ => by simp [toPs, PyData.eqvAll]
  | _ :: _, [] => by simp [toPs, PyData.eqvAll]
  | x :: a, y :: b => by
    rw [List.map_cons, List.map_cons, toPs, toPs, PyData.eqvAll, h.eq, eqvs h a b]
    by_cases h : x = y <;> by_cases h2 : a = b <;> simp [h, h2]
theorem q_L (h : EqE n ea) : EqE (n + 1) (eL ea) := ⟨fun l => Sh.lst fun d hd => by
  obtain ⟨a, _, rfl⟩ := List.mem_map.mp hd
  exact h.sh a, fun a b => by
  unfold eL
  rw [toP, toP, PyData.eqv]
  exact eqvs h a b⟩
theorem q_T2 (h : EqE n ea) (h2 : EqE m eb) : EqE (max n m + 1) (eT2 ea eb) := ⟨fun p => Sh.tup fun d hd => by
  rcases List.mem_cons.mp hd with rfl | hd
  · exact (h.sh _).mono (by omega)
  · cases List.mem_singleton.mp hd
    exact (h2.sh _).mono (by omega), fun p q => by
  unfold eT2
  simp only [toP, PyData.eqv, toPs, PyData.eqvAll, h.eq, h2.eq, Bool.and_true]
  obtain ⟨a, b⟩ := p
  obtain ⟨c, d⟩ := q
  by_cases z : a = c <;> by_cases z2 : b = d <;> simp [z, z2]⟩
theorem q_T3 (h : EqE n ea) (h2 : EqE m eb) (h3 : EqE k ec) : EqE (max n (max m k) + 1) (eT3 ea eb ec) := ⟨fun p => Sh.tup fun d hd => by
  rcases List.mem_cons.mp hd with rfl | hd
  · exact (h.sh _).mono (by omega)
  · rcases List.mem_cons.mp hd with rfl | hd
    · exact (h2.sh _).mono (by omega)
    · cases List.mem_singleton.mp hd
      exact (h3.sh _).mono (by omega), fun p q => by
  unfold eT3
  simp only [toP, PyData.eqv, toPs, PyData.eqvAll, h.eq, h2.eq, h3.eq, Bool.and_true]
  obtain ⟨a, b, e⟩ := p
  obtain ⟨c, d, f⟩ := q
  by_cases z : a = c <;> by_cases z2 : b = d <;> by_cases z3 : e = f <;> simp [z, z2, z3]⟩
/-- None beside what is no None -/
def NoN (e : α → D) : Prop := ∀ a, toP (e a) ≠ .none
theorem nn_I : NoN eI := fun a => by unfold eI; rw [toP]; intro z; cases z
theorem nn_B : NoN eB := fun a => by unfold eB; rw [toP]; intro z; cases z
theorem nn_L {e : α → D} : NoN (eL e) := fun a => by unfold eL; rw [toP]; intro z; cases z
theorem nn_T2 {e : α → D} {f : β → D} : NoN (eT2 e f) := fun a => by unfold eT2; rw [toP]; intro z; cases z
theorem eqv_non_l (d : PyData) (h : d ≠ .none) : PyData.eqv .none d = false := by
  cases d with
  | none => exact absurd rfl h
  | _ => rw [PyData.eqv]
theorem eqv_non_r (d : PyData) (h : d ≠ .none) : PyData.eqv d .none = false := by
  cases d with
  | none => exact absurd rfl h
  | _ => rw [PyData.eqv]
theorem q_O (h : EqE n ea) (hn : NoN ea) : EqE n (eO ea) := ⟨fun o => by
  cases o with
  | none => exact ⟨by show (toP .non).canLay0 = true; rw [toP, PyData.canLay0], by show (toP .non).depth ≤ n; rw [toP, PyData.depth]; exact Nat.zero_le _⟩
  | some a => exact h.sh a, fun a b => by
  cases a with
  | none => cases b with
    | none => show PyData.eqv (toP .non) (toP .non) = _; rw [toP, PyData.eqv]; rfl
    | some b => show PyData.eqv (toP .non) (toP (ea b)) = _; rw [toP, eqv_non_l _ (hn b)]; rfl
  | some a => cases b with
    | none => show PyData.eqv (toP (ea a)) (toP .non) = _; rw [toP, eqv_non_r _ (hn a)]; rfl
    | some b =>
      show PyData.eqv (toP (ea a)) (toP (ea b)) = _
      rw [h.eq]
      by_cases z : a = b <;> simp [z]⟩
theorem lo_eq (h : EqE n ea) (hn : n ≤ 64 := by decide) : ∀ a b : α, Le eB (.ok (decide (a = b))) (oEq (ea a) (ea b)) := fun a b => by
  show oEq (ea a) (ea b) = _
  unfold oEq
  rw [if_pos (by rw [(h.sh a).shp hn, (h.sh b).shp hn]; rfl), h.eq]
  rfl
theorem lo_ne (h : EqE n ea) (hn : n ≤ 64 := by decide) : ∀ a b : α, Le eB (.ok (decide (a ≠ b))) (oNe (ea a) (ea b)) := fun a b => by
  show oNe (ea a) (ea b) = _
  unfold oNe
  rw [if_pos (by rw [(h.sh a).shp hn, (h.sh b).shp hn]; rfl), h.eq]
  by_cases z : a = b <;> simp [z, eB]
theorem any_e (h : EqE n ea) (x : α) : ∀ l : List α, ((toPs (l.map ea)).any fun z => PyData.eqv z (toP (ea x))) = decide (x ∈ l)
  | [] => by simp [toPs]
  | y :: l => by
    rw [List.map_cons, toPs, List.any_cons, any_e h x l, h.eq]
    by_cases z : y = x
    · subst z; simp
    · have : ¬ x = y := fun e => z e.symm
      simp [z, this]
theorem lo_in (h : EqE n ea) (hn : n + 1 ≤ 64 := by decide) : ∀ (x : α) (l : List α), Le eB (.ok (decide (x ∈ l))) (oIn (ea x) (eL ea l)) := fun x l => by
  show oIn (ea x) (eL ea l) = _
  unfold oIn
  rw [if_pos (by rw [(h.sh x).shp (by omega), ((q_L h).sh l).shp hn]; rfl)]
  show Res.ok (D.bl ((toPs (l.map ea)).any fun z => PyData.eqv z (toP (ea x)))) = _
  rw [any_e h]
  rfl
theorem lo_nin (h : EqE n ea) (hn : n + 1 ≤ 64 := by decide) : ∀ (x : α) (l : List α), Le eB (.ok (decide (x ∉ l))) (oNin (ea x) (eL ea l)) := fun x l => by
  show oNin (ea x) (eL ea l) = _
  unfold oNin
  rw [if_pos (by rw [(h.sh x).shp (by omega), ((q_L h).sh l).shp hn]; rfl)]
  show Res.ok (D.bl (!(toPs (l.map ea)).any fun z => PyData.eqv z (toP (ea x)))) = _
  rw [any_e h]
  by_cases z : x ∈ l <;> simp [z, eB]
def pIndex (l : List α) (x : α) : Res Int := if x ∈ l then .ok ((l.idxOf x : Nat) : Int) else .stuck
theorem idxOf_e (h : EqE n ea) (x : α) : ∀ l : List α, x ∈ l → idxOf (toPs (l.map ea)) (toP (ea x)) = some (l.idxOf x)
  | y :: l, hx => by
    unfold idxOf
    rw [List.map_cons, toPs, List.findIdx?_cons, h.eq]
    by_cases z : y = x
    · subst z
      simp
    · have hx' : x ∈ l := (List.mem_cons.mp hx).resolve_left fun e => z e.symm
      have ih := idxOf_e h x l hx'
      unfold idxOf at ih
      rw [decide_eq_false z]
      simp only [Bool.false_eq_true, if_false]
      rw [ih, List.idxOf_cons, show (y == x) = false by simpa using z]
      rfl
theorem lo_index (h : EqE n ea) (hn : n + 1 ≤ 64 := by decide) : ∀ (l : List α) (x : α), Le eI (pIndex l x) (oIndex (eL ea l) (ea x)) := fun l x => by
  unfold pIndex
  by_cases z : x ∈ l
  · rw [if_pos z]
    show oIndex (eL ea l) (ea x) = _
    unfold oIndex
    rw [if_pos (by rw [(h.sh x).shp (by omega), ((q_L h).sh l).shp hn]; rfl)]
    have : idxOf (lsP (eL ea l)) (toP (ea x)) = some (l.idxOf x) := idxOf_e h x l z
    rw [this]
    rfl
  · rw [if_neg z]
    trivial
end
/-! ### items -/
def pAt (l : List α) (i : Int) : Res α := ofO (atI l i)
theorem atI_map (f : α → β) (l : List α) (i : Int) : atI (l.map f) i = (atI l i).map f := by
  unfold atI
  rw [List.length_map]
  cases ixN l.length i with
  | none => rfl
  | some j => exact List.getElem?_map
theorem lo_ix {e : α → D} (l : List α) (i : Int) : Le e (pAt l i) (oIx (eL e l) (eI i)) := by
  unfold pAt
  cases q : atI l i with
  | none => trivial
  | some a =>
    show (match atI (l.map e) i with
      | some d => Res.ok d
      | none => .stuck) = _
    rw [atI_map, q]
    rfl
theorem lo_ixC (l : List Int) (i : Int) : Le eI (pAt l i) (oIx (eC l) (eI i)) := by
  unfold pAt
  cases q : atI l i with
  | none => trivial
  | some a =>
    show (match atI l i with
      | some n => Res.ok (D.int n)
      | none => .stuck) = _
    rw [q]
    rfl
theorem lo_atL {e : α → D} (l : List α) (i : Int) : Le e (pAt l i) (oAtL (eL e l) (eI i)) := by
  unfold pAt
  cases q : atI l i with
  | none => trivial
  | some a =>
    show (match atI (l.map e) i with
      | some d => Res.ok d
      | none => .stuck) = _
    rw [atI_map, q]
    rfl
section
variable {P : List (Option D)} {f : En → Res D} {ea : α → D} {eb : β → D} {ec : γ → D}
theorem xe_20 {t : Res (α × β)} (h : XE P (eT2 ea eb) f t) : XE P ea (x2 oIx f (xC (.int 0))) (t >>= fun p => .ok p.1) := fun en he => (h en he).bind fun p => rfl
theorem xe_21 {t : Res (α × β)} (h : XE P (eT2 ea eb) f t) : XE P eb (x2 oIx f (xC (.int 1))) (t >>= fun p => .ok p.2) := fun en he => (h en he).bind fun p => rfl
theorem xe_30 {t : Res (α × β × γ)} (h : XE P (eT3 ea eb ec) f t) : XE P ea (x2 oIx f (xC (.int 0))) (t >>= fun p => .ok p.1) := fun en he => (h en he).bind fun p => rfl
theorem xe_31 {t : Res (α × β × γ)} (h : XE P (eT3 ea eb ec) f t) : XE P eb (x2 oIx f (xC (.int 1))) (t >>= fun p => .ok p.2.1) := fun en he => (h en he).bind fun p => rfl
theorem xe_32 {t : Res (α × β × γ)} (h : XE P (eT3 ea eb ec) f t) : XE P ec (x2 oIx f (xC (.int 2))) (t >>= fun p => .ok p.2.2) := fun en he => (h en he).bind fun p => rfl
end
def t2l (p : α × α) : List α := [p.1, p.2]
def t3l (p : α × α × α) : List α := [p.1, p.2.1, p.2.2]
theorem lo_ixT2 {e : α → D} (p : α × α) (i : Int) : Le e (pAt (t2l p) i) (oIx (eT2 e e p) (eI i)) := by
  unfold pAt
  cases q : atI (t2l p) i with
  | none => trivial
  | some a =>
    show (match atI ((t2l p).map e) i with
      | some d => Res.ok d
      | none => .stuck) = _
    rw [atI_map, q]
    rfl
theorem lo_ixT3 {e : α → D} (p : α × α × α) (i : Int) : Le e (pAt (t3l p) i) (oIx (eT3 e e e p) (eI i)) := by
  unfold pAt
  cases q : atI (t3l p) i with
  | none => trivial
  | some a =>
    show (match atI ((t3l p).map e) i with
      | some d => Res.ok d
      | none => .stuck) = _
    rw [atI_map, q]
    rfl
abbrev pLen (l : List α) : Int := (l.length : Nat)
theorem lo_len {e : α → D} (l : List α) : Le eI (.ok (pLen l)) (oLen (eL e l)) := by
  show Res.ok (D.int ((l.map e).length : Nat)) = _
  rw [List.length_map]
  rfl
theorem lo_lenC (l : List Int) : Le eI (.ok (pLen l)) (oLen (eC l)) := rfl
theorem lo_lenT2 {ea : α → D} {eb : β → D} (p : α × β) : Le eI (.ok 2) (oLen (eT2 ea eb p)) := rfl
theorem lo_lenT3 {ea : α → D} {eb : β → D} {ec : γ → D} (p : α × β × γ) : Le eI (.ok 3) (oLen (eT3 ea eb ec p)) := rfl
theorem lo_list {e : α → D} (h : Pu e) (l : List α) : Le (eL e) (.ok l) (oList (eL e l)) := by
  show (if pureDs (l.map e) = true then Res.ok (D.lst (l.map e)) else .stuck) = _
  rw [if_pos (pus h l)]
  rfl
theorem lo_listC (l : List Int) : Le (eL eI) (.ok l) (oList (eC l)) := rfl
theorem lo_listT2 {e : α → D} (h : Pu e) (p : α × α) : Le (eL e) (.ok (t2l p)) (oList (eT2 e e p)) := by
  show (if pureDs ((t2l p).map e) = true then Res.ok (D.lst ((t2l p).map e)) else .stuck) = _
  rw [if_pos (pus h _)]
  rfl
def pCat (a b : List α) : Res (List α) := if szOk (a.length + b.length) = true then .ok (a ++ b) else .stuck
theorem lo_cat {e : α → D} (h : Pu e) (a b : List α) : Le (eL e) (pCat a b) (oCat (eL e a) (eL e b)) := by
  unfold pCat
  by_cases z : szOk (a.length + b.length) = true
  · rw [if_pos z]
    show (if (pureDs (a.map e) && pureDs (b.map e) && szOk ((a.map e).length + (b.map e).length)) = true then Res.ok (D.lst (a.map e ++ b.map e)) else .stuck) = _
    rw [if_pos (by rw [pus h, pus h, List.length_map, List.length_map, z]; rfl), ← List.map_append]
    rfl
  · rw [if_neg z]
    trivial
theorem lo_catR {e : α → D} (a b : List α) : Le (eL e) (pCat a b) (oCatR (eL e a) (eL e b)) := by
  unfold pCat
  by_cases z : szOk (a.length + b.length) = true
  · rw [if_pos z]
    show (if szOk ((a.map e).length + (b.map e).length) = true then Res.ok (D.lst (a.map e ++ b.map e)) else .stuck) = _
    rw [if_pos (by rw [List.length_map, List.length_map, z]), ← List.map_append]
    rfl
  · rw [if_neg z]
    trivial
/-! ### lists of whole numbers -/
theorem ints_e (l : List Int) : intsOf (l.map eI) = some l := intsOf_ints l
theorem ilD_e (l : List Int) : ilD (eL eI l) = some l := ints_e l
def srt (o : List Int) : List Int := o.mergeSort fun a b => decide (a ≤ b)
theorem lo_sort (l : List Int) : Le (eL eI) (.ok (srt l)) (oSort (eL eI l)) := by
  show oSort (eL eI l) = _
  unfold oSort
  rw [ilD_e]
  rfl
theorem lo_count (l : List Int) (k : Int) : Le eI (.ok ((l.count k : Nat) : Int)) (oCount (eL eI l) (eI k)) := by
  show oCount (eL eI l) (eI k) = _
  unfold oCount
  rw [ilD_e]
  rfl
theorem lo_sum (l : List Int) : Le eI (.ok l.sum) (oSum (eL eI l)) := by
  show oSum (eL eI l) = _
  unfold oSum
  rw [ilD_e]
  rfl
def pMinL : List Int → Res Int
  | [] => .stuck
  | n :: ns => .ok (minI (n :: ns))
def pMaxL : List Int → Res Int
  | [] => .stuck
  | n :: ns => .ok (maxI (n :: ns))
theorem lo_minL (l : List Int) : Le eI (pMinL l) (oMinL (eL eI l)) := by
  cases l with
  | nil => trivial
  | cons n ns =>
    show oMinL (eL eI (n :: ns)) = _
    unfold oMinL
    rw [ilD_e]
    rfl
theorem lo_maxL (l : List Int) : Le eI (pMaxL l) (oMaxL (eL eI l)) := by
  cases l with
  | nil => trivial
  | cons n ns =>
    show oMaxL (eL eI (n :: ns)) = _
    unfold oMaxL
    rw [ilD_e]
    rfl
def pRange (n : Int) : Res (List Int) := if (decide (0 ≤ n) && decide (n ≤ 16777215)) = true then .ok (upI n.toNat) else .stuck
theorem lo_range (n : Int) : Le (eL eI) (pRange n) (oRange (eI n)) := by
  unfold pRange
  show Le (eL eI) (if (decide (0 ≤ n) && decide (n ≤ 16777215)) = true then Res.ok (upI n.toNat) else .stuck) (if (decide (0 ≤ n) && decide (n ≤ 16777215)) = true then Res.ok (.lst ((upI n.toNat).map D.int)) else .stuck)
  by_cases z : (decide (0 ≤ n) && decide (n ≤ 16777215)) = true
  · rw [if_pos z, if_pos z]
    rfl
  · rw [if_neg z]
    trivial
theorem lo_ltL (a b : List Int) : Le eB (.ok (HT.lexLt a b)) (oLtL (eL eI a) (eL eI b)) := by
  show oLtL (eL eI a) (eL eI b) = _
  unfold oLtL
  rw [ilD_e, ilD_e]
  rfl
theorem llD_e : ∀ A : List (List Int), llD (A.map (eL eI)) = some A
  | [] => rfl
  | a :: A => by
    rw [List.map_cons]
    unfold llD
    rw [ilD_e, llD_e A]
theorem allL_e : ∀ A : List (List Int), allL (A.map (eL eI)) = true
  | [] => rfl
  | a :: A => by
    rw [List.map_cons]
    show allL (A.map (eL eI)) = true
    exact allL_e A
def pMinLL : List (List Int) → Res (List Int)
  | [] => .stuck
  | a :: A => .ok (minLL a A)
theorem lo_minLL (A : List (List Int)) : Le (eL eI) (pMinLL A) (oMinLL (eL (eL eI) A)) := by
  cases A with
  | nil => trivial
  | cons a A =>
    show (match llD ((a :: A).map (eL eI)) with
      | some (x :: xs) => if allL ((a :: A).map (eL eI)) = true then Res.ok (D.lst ((minLL x xs).map D.int)) else .stuck
      | _ => .stuck) = _
    rw [llD_e]
    show (if allL ((a :: A).map (eL eI)) = true then Res.ok (D.lst ((minLL a A).map D.int)) else .stuck) = _
    rw [if_pos (allL_e (a :: A))]
    rfl
/-! ### dicts -/
section
variable {κ : Type} [DecidableEq κ]
def pGetK (l : List (κ × α)) (k : κ) : Option α := (l.find? fun p => decide (p.1 = k)).map (·.2)
def pPutK (l : List (κ × α)) (k : κ) (a : α) : List (κ × α) :=
  if (l.any fun p => decide (p.1 = k)) = true then l.map (fun p => if p.1 = k then (p.1, a) else p) else l ++ [(k, a)]
def pGet (l : List (κ × α)) (k : κ) : Res α := ofO (pGetK l k)
def pHas (l : List (κ × α)) (k : κ) : Bool := (pGetK l k).isSome
theorem getK_e (e : α → D) (l : List (κ × α)) (k : κ) : getK (l.map fun p => (p.1, e p.2)) k = (pGetK l k).map e := by
  unfold getK pGetK
  rw [List.find?_map, Option.map_map, Option.map_map]
  rfl
theorem putD_e (e : α → D) (l : List (κ × α)) (k : κ) (a : α) : putD (l.map fun p => (p.1, e p.2)) k (e a) = (pPutK l k a).map fun p => (p.1, e p.2) := by
  unfold putD pPutK
  rw [List.any_map]
  have : (((fun kv : κ × D => decide (kv.1 = k)) ∘ fun p : κ × α => (p.1, e p.2))) = fun p => decide (p.1 = k) := rfl
  rw [this]
  by_cases z : (l.any fun p => decide (p.1 = k)) = true
  · rw [if_pos z, if_pos z, List.map_map, List.map_map]
    congr 1
    funext p
    show (if p.1 = k then (p.1, e a) else (p.1, e p.2)) = ((if p.1 = k then (p.1, a) else p).1, e (if p.1 = k then (p.1, a) else p).2)
    by_cases q : p.1 = k
    · rw [if_pos q, if_pos q]
    · rw [if_neg q, if_neg q]
  · rw [if_neg z, if_neg z, List.map_append]
    rfl
end
theorem lo_getI {e : α → D} (l : List (Int × α)) (k : Int) : Le e (pGet l k) (oGetI (eDI e l) (eI k)) := by
  unfold pGet
  cases q : pGetK l k with
  | none => trivial
  | some a =>
    show (match getK (l.map fun p : Int × α => (p.1, e p.2)) k with
      | some d => Res.ok d
      | none => .stuck) = _
    rw [getK_e, q]
    rfl
theorem lo_inDI {e : α → D} (k : Int) (l : List (Int × α)) : Le eB (.ok (pHas l k)) (oInDI (eI k) (eDI e l)) := by
  show Res.ok (D.bl (getK (l.map fun p : Int × α => (p.1, e p.2)) k).isSome) = _
  rw [getK_e, Option.isSome_map]
  rfl
theorem lo_ninDI {e : α → D} (k : Int) (l : List (Int × α)) : Le eB (.ok (!pHas l k)) (oNinDI (eI k) (eDI e l)) := by
  show Res.ok (D.bl (!(getK (l.map fun p : Int × α => (p.1, e p.2)) k).isSome)) = _
  rw [getK_e, Option.isSome_map]
  rfl
theorem lo_lenDI {e : α → D} (l : List (Int × α)) : Le eI (.ok (pLen l)) (oLenD (eDI e l)) := by
  show Res.ok (D.int ((l.map fun p => (p.1, e p.2)).length : Nat)) = _
  rw [List.length_map]
  rfl
theorem lo_lenDT {e : α → D} (l : List (List Int × α)) : Le eI (.ok (pLen l)) (oLenT (eDT e l)) := by
  show Res.ok (D.int ((l.map fun p => (p.1, e p.2)).length : Nat)) = _
  rw [List.length_map]
  rfl
/-- a tuple of whole numbers as a key -/
def eK (l : List Int) : D := .tup (l.map eI)
theorem tupK_e (l : List Int) : tupK (eK l) = some l := ints_e l
theorem lo_getT {e : α → D} (l : List (List Int × α)) (k : List Int) : Le e (pGet l k) (oGetT (eDT e l) (eK k)) := by
  unfold pGet
  cases q : pGetK l k with
  | none => trivial
  | some a =>
    show oGetT (eDT e l) (eK k) = _
    simp only [oGetT, eDT, tupK_e, getK_e, q, Option.map]
theorem lo_inDT {e : α → D} (k : List Int) (l : List (List Int × α)) : Le eB (.ok (pHas l k)) (oInDT (eK k) (eDT e l)) := by
  show oInDT (eK k) (eDT e l) = _
  simp only [oInDT, eDT, tupK_e, getK_e, Option.isSome_map]
  rfl
theorem lo_ninDT {e : α → D} (k : List Int) (l : List (List Int × α)) : Le eB (.ok (!pHas l k)) (oNinDT (eK k) (eDT e l)) := by
  show oNinDT (eK k) (eDT e l) = _
  simp only [oNinDT, eDT, tupK_e, getK_e, Option.isSome_map]
  rfl
/-- keys of two, of three -/
theorem lk_2 (a b : Int) : Le eK (.ok [a, b]) (match intsOf [eI a, eI b] with
  | some (i :: is) => if szOk [eI a, eI b].length = true then Res.ok (.tup [eI a, eI b]) else .stuck
  | _ => .stuck) := by
  rw [show intsOf [eI a, eI b] = some [a, b] from ints_e [a, b]]
  rfl
theorem lk_3 (a b c : Int) : Le eK (.ok [a, b, c]) (match intsOf [eI a, eI b, eI c] with
  | some (i :: is) => if szOk [eI a, eI b, eI c].length = true then Res.ok (.tup [eI a, eI b, eI c]) else .stuck
  | _ => .stuck) := by
  rw [show intsOf [eI a, eI b, eI c] = some [a, b, c] from ints_e [a, b, c]]
  rfl
/-! ### displays -/
theorem ld_T2 {ea : α → D} {eb : β → D} (a : α) (b : β) : Le (eT2 ea eb) (.ok (a, b)) (if szOk [ea a, eb b].length = true then Res.ok (.tup [ea a, eb b]) else .stuck) := rfl
theorem ld_T3 {ea : α → D} {eb : β → D} {ec : γ → D} (a : α) (b : β) (c : γ) : Le (eT3 ea eb ec) (.ok (a, b, c)) (if szOk [ea a, eb b, ec c].length = true then Res.ok (.tup [ea a, eb b, ec c]) else .stuck) := rfl
theorem ld_T4 {ea : α → D} {eb : β → D} {ec : γ → D} {ed : δ → D} (a : α) (b : β) (c : γ) (d : δ) : Le (eT4 ea eb ec ed) (.ok (a, b, c, d)) (if szOk [ea a, eb b, ec c, ed d].length = true then Res.ok (.tup [ea a, eb b, ec c, ed d]) else .stuck) := rfl
theorem ld_L {e : α → D} (l : List α) (ds : List D) (h : ds = l.map e) (hz : szOk ds.length = true) : Le (eL e) (.ok l) (if szOk ds.length = true then Res.ok (.lst ds) else .stuck) := by
  rw [if_pos hz, h]
  rfl
/-! ### kinds -/
theorem li_k {e : α → D} {c : Bool} (s t : String) (h : ∀ a, isBI t (e a) = match kitB s t with
  | some b => .ok (.bl b)
  | none => .stuck) (hk : kitB s t = some c) (a : α) : Le eB (.ok c) (isBI t (e a)) := by
  rw [h a, hk]
  rfl
theorem li_I {t : String} {c : Bool} (hk : kitB "int" t = some c) (a : Int) : Le eB (.ok c) (isBI t (eI a)) := li_k "int" t (fun _ => rfl) hk a
theorem li_B {t : String} {c : Bool} (hk : kitB "bool" t = some c) (a : Bool) : Le eB (.ok c) (isBI t (eB a)) := li_k "bool" t (fun _ => rfl) hk a
theorem li_N {t : String} {c : Bool} (hk : kitB "NoneType" t = some c) (a : Unit) : Le eB (.ok c) (isBI t (eN a)) := li_k "NoneType" t (fun _ => rfl) hk a
theorem li_L {e : α → D} {t : String} {c : Bool} (hk : kitB "list" t = some c) (a : List α) : Le eB (.ok c) (isBI t (eL e a)) := li_k "list" t (fun _ => rfl) hk a
theorem li_C {t : String} {c : Bool} (hk : kitB "list" t = some c) (a : List Int) : Le eB (.ok c) (isBI t (eC a)) := li_k "list" t (fun _ => rfl) hk a
theorem li_T2 {ea : α → D} {eb : β → D} {t : String} {c : Bool} (hk : kitB "tuple" t = some c) (a : α × β) : Le eB (.ok c) (isBI t (eT2 ea eb a)) := li_k "tuple" t (fun _ => rfl) hk a
theorem li_T3 {ea : α → D} {eb : β → D} {ec : γ → D} {t : String} {c : Bool} (hk : kitB "tuple" t = some c) (a : α × β × γ) : Le eB (.ok c) (isBI t (eT3 ea eb ec a)) := li_k "tuple" t (fun _ => rfl) hk a
theorem li_S {t : String} {c : Bool} (hk : kitB "str" t = some c) (a : Str) : Le eB (.ok c) (isBI t (eS a)) := li_k "str" t (fun _ => rfl) hk a
theorem li_DI {e : α → D} {t : String} {c : Bool} (hk : kitB "dict" t = some c) (a : List (Int × α)) : Le eB (.ok c) (isBI t (eDI e a)) := li_k "dict" t (fun _ => rfl) hk a
theorem li_O {e : α → D} {t : String} {c d : Bool} (hk : kitB "NoneType" t = some c) (h : ∀ a, Le eB (.ok d) (isBI t (e a))) (o : Option α) : Le eB (.ok (if o.isSome then d else c)) (isBI t (eO e o)) := by
  cases o with
  | none => exact li_N hk ()
  | some a => exact h a
/-- is None -/
theorem ln_O {e : α → D} (h : ∀ a, isNon (e a) = false) (o : Option α) : Le eB (.ok o.isNone) ((fun d => Res.ok (.bl (isNon d))) (eO e o)) := by
  cases o with
  | none => rfl
  | some a =>
    show Res.ok (D.bl (isNon (e a))) = _
    rw [h a]
    rfl
theorem ls_O {e : α → D} (h : ∀ a, isNon (e a) = false) (o : Option α) : Le eB (.ok o.isSome) ((fun d => Res.ok (.bl (!isNon d))) (eO e o)) := by
  cases o with
  | none => rfl
  | some a =>
    show Res.ok (D.bl (!isNon (e a))) = _
    rw [h a]
    rfl
/-! ### refusals caught -/
def pIsCl (ok : Nat → Bool) (cs : List Nat) : Option Err → Res Bool
  | none => .ok false
  | some x => if ok x.c = true then .ok (cs.any fun c' => isC c' x.c) else .stuck
theorem lc_is (ok : Nat → Bool) (cs : List Nat) (o : Option Err) : Le eB (pIsCl ok cs o) (isCl ok cs (eO eX o)) := by
  cases o with
  | none => rfl
  | some x =>
    show Le eB (if ok x.c = true then Res.ok (cs.any fun c' => isC c' x.c) else .stuck) (if ok x.c = true then Res.ok (.bl (cs.any fun c' => isC c' x.c)) else .stuck)
    by_cases z : ok x.c = true
    · rw [if_pos z, if_pos z]
      rfl
    · rw [if_neg z]
      trivial
def pIsVe (ok : Nat → Bool) : Option Err → Res Bool
  | none => .ok false
  | some x => if ok x.c = true then .ok true else .stuck
theorem lc_ve (ok : Nat → Bool) (o : Option Err) : Le eB (pIsVe ok o) (isVe ok (eO eX o)) := by
  cases o with
  | none => rfl
  | some x =>
    show Le eB (if ok x.c = true then Res.ok true else .stuck) (if ok x.c = true then Res.ok (.bl true) else .stuck)
    by_cases z : ok x.c = true
    · rw [if_pos z, if_pos z]
      rfl
    · rw [if_neg z]
      trivial
end Ow.P
end
section
set_option linter.all false
set_option maxRecDepth 100000
set_option maxHeartbeats 2000000
/-! Pw3: typed statements. -/
namespace Ow.P
open PySem L2 PySem.Spec Ow
section
variable {ω ω' β β' α γ ρ τ μ : Type}
def LeG (R : ω → β → Prop) : Res ω → Res β → Prop
  | .ok w, r => ∃ b, r = .ok b ∧ R w b
  | .exc x, r => r = .exc x
  | .stuck, _ => True
theorem LeG.bind {R : ω → β → Prop} {R' : ω' → β' → Prop} {t : Res ω} {r : Res β} {k : ω → Res ω'} {k' : β → Res β'} (h : LeG R t r) (hk : ∀ w b, R w b → LeG R' (k w) (k' b)) : LeG R' (t >>= k) (r >>= k') := by
  cases t with
  | ok a =>
    obtain ⟨b, rfl, hb⟩ := h
    exact hk a b hb
  | exc x => rw [show r = _ from h]; rfl
  | stuck => trivial
theorem Le.g {e : α → D} {t : Res α} {r : Res D} (h : Le e t r) : LeG (fun a d => d = e a) t r := by
  cases t with
  | ok a => exact ⟨_, h, rfl⟩
  | exc x => exact h
  | stuck => trivial
theorem Le.g' {e : α → β} {t : Res α} {r : Res β} (h : Le e t r) : LeG (fun a d => d = e a) t r := by
  cases t with
  | ok a => exact ⟨_, h, rfl⟩
  | exc x => exact h
  | stuck => trivial
theorem LeG.imp {R R' : ω → β → Prop} {t : Res ω} {r : Res β} (h : LeG R t r) (hr : ∀ w b, R w b → R' w b) : LeG R' t r := by
  cases t with
  | ok a =>
    obtain ⟨b, e, hb⟩ := h
    exact ⟨b, e, hr a b hb⟩
  | exc x => exact h
  | stuck => trivial
theorem LeG.noX {R : ω → β → Prop} {t : Res ω} {r : Res β} (h : LeG R t r) : LeG R (noX t) (noX r) := by
  cases t with
  | ok a =>
    obtain ⟨b, rfl, hb⟩ := h
    exact ⟨b, rfl, hb⟩
  | exc x => trivial
  | stuck => trivial
theorem LeR.g {t r : Res β} (h : LeR t r) : LeG (fun a b => b = a) t r := by
  cases t with
  | ok a => exact ⟨_, h, rfl⟩
  | exc x => exact h
  | stuck => trivial
/-- arguments by what is done with them -/
def XG (P : List (Option D)) (fs : En → Res (List D)) (K : List D → Res β) (R : ω → β → Prop) (t : Res ω) : Prop := ∀ en, FitE en P → LeG R t (fs en >>= K)
theorem xg_nil {P : List (Option D)} {K : List D → Res β} {R : ω → β → Prop} {t : Res ω} (h : LeG R t (K [])) : XG P aNil K R t := fun en he => h
theorem xg_cons {P : List (Option D)} {f : En → Res D} {fs : En → Res (List D)} {ta : Res α} {ea : α → D} {K : List D → Res β} {R : ω → β → Prop} {k : α → Res ω} (h1 : XE P ea f ta) (h2 : ∀ a, XG P fs (fun ds => K (ea a :: ds)) R (k a)) : XG P (aCons f fs) K R (ta >>= k) := fun en he => by
  have := h1 en he
  unfold aCons
  cases ta with
  | ok a =>
    rw [show f en = _ from this]
    have q := h2 a en he
    show LeG R (k a) ((fs en >>= fun ds => .ok (ea a :: ds)) >>= K)
    cases r : fs en with
    | ok ds => rw [r] at q; exact q
    | exc x => rw [r] at q; exact q
    | stuck => rw [r] at q; exact q
  | exc x => rw [show f en = _ from this]; rfl
  | stuck => trivial

/-! ### what is known of slots -/
inductive PS where
  | own (d : D) | fz (d : D) | rd (d : D) | ali (s j : Nat)
abbrev PP := List (Option PS)
def FitS (x : Slot) : PS → Prop
  | .own d => x = .own d
  | .fz d => x = .fz d
  | .rd d => x = .own d ∨ x = .fz d
  | .ali s j => x = .ali s j
def Fits (S : List Slot) (P : PP) : Prop := S.length = P.length ∧ ∀ (i : Nat) (q : PS), P[i]? = some (some q) → ∃ x, S[i]? = some x ∧ FitS x q
def PS.dat (P : PP) : PS → Option D
  | .own d => some d
  | .fz d => some d
  | .rd d => some d
  | .ali s j => match P[s]? with
    | some (some (.own (.lst ds))) => ds[j]?
    | _ => none
def enP (P : PP) : List (Option D) := P.map fun o => match o with
  | some q => q.dat P
  | none => none
theorem Fits.dat {S : List Slot} {P : PP} (h : Fits S P) {x : Slot} {q : PS} {d : D} (hx : FitS x q) (hd : q.dat P = some d) : x.dat S = some d := by
  cases q with
  | own d' => cases hx; exact hd
  | fz d' => cases hx; exact hd
  | rd d' =>
    rcases hx with rfl | rfl
    · exact hd
    · exact hd
  | ali s j =>
    cases hx
    simp only [PS.dat] at hd
    split at hd
    · rename_i ds hs
      obtain ⟨y, hy, fy⟩ := h.2 s _ hs
      cases fy
      show (match S[s]? with
        | some (.own (.lst ds)) => ds[j]?
        | _ => none) = _
      rw [hy]
      exact hd
    · cases hd
theorem Fits.en {S : List Slot} {P : PP} (h : Fits S P) : FitE (Ow.en S) (enP P) := ⟨by unfold Ow.en enP; rw [List.length_map, List.length_map]; exact h.1, fun i d e => by
  unfold enP at e
  rw [List.getElem?_map] at e
  cases q : P[i]? with
  | none => rw [q] at e; cases e
  | some o =>
    rw [q] at e
    cases o with
    | none => cases e
    | some ps =>
      obtain ⟨x, hx, fx⟩ := h.2 i ps q
      unfold Ow.en
      rw [List.getElem?_map, hx]
      exact congrArg some (h.dat fx (Option.some.inj e))⟩
def killP (i : Nat) : Option PS → Option PS
  | some (.ali s j) => if s = i then none else some (.ali s j)
  | o => o
def setP (P : PP) (i : Nat) (q : Option PS) : PP := (P.map (killP i)).set i q
theorem killP_some {i : Nat} {o : Option PS} {q : PS} (h : killP i o = some q) : o = some q ∧ ∀ x, FitS x q → x.kill i = x := by
  cases o with
  | none => cases h
  | some p =>
    cases p with
    | ali s j =>
      simp only [killP] at h
      by_cases e : s = i
      · rw [if_pos e] at h; cases h
      · rw [if_neg e] at h
        cases h
        refine ⟨rfl, fun x hx => ?_⟩
        cases hx
        exact if_neg e
    | own d =>
      cases h
      refine ⟨rfl, fun x hx => ?_⟩
      cases hx
      rfl
    | fz d =>
      cases h
      refine ⟨rfl, fun x hx => ?_⟩
      cases hx
      rfl
    | rd d =>
      cases h
      refine ⟨rfl, fun x hx => ?_⟩
      rcases hx with rfl | rfl <;> rfl
theorem Fits.kill {S : List Slot} {P : PP} (h : Fits S P) (i : Nat) : Fits (S.map (Slot.kill i)) (P.map (killP i)) := ⟨by rw [List.length_map, List.length_map]; exact h.1, fun k q e => by
  rw [List.getElem?_map] at e
  cases r : P[k]? with
  | none => rw [r] at e; cases e
  | some o =>
    rw [r] at e
    obtain ⟨e1, e2⟩ := killP_some (Option.some.inj e)
    subst e1
    obtain ⟨x, hx, fx⟩ := h.2 k q r
    refine ⟨x, ?_, fx⟩
    rw [List.getElem?_map, hx]
    exact congrArg some (e2 x fx)⟩
theorem Fits.put {S : List Slot} {P : PP} (h : Fits S P) (i : Nat) {x : Slot} {q : Option PS} (hx : ∀ p, q = some p → FitS x p) : Fits (S.set i x) (P.set i q) := ⟨by rw [List.length_set, List.length_set]; exact h.1, fun k p e => by
  by_cases z : i = k
  · subst z
    by_cases hl : i < P.length
    · rw [List.getElem?_set_self hl] at e
      exact ⟨x, List.getElem?_set_self (by rw [h.1]; exact hl), hx p (Option.some.inj e)⟩
    · rw [List.getElem?_eq_none (by simpa using Nat.le_of_not_lt hl)] at e
      cases e
  · rw [List.getElem?_set_ne z] at e ⊢
    exact h.2 k p e⟩
theorem Fits.set {S : List Slot} {P : PP} (h : Fits S P) (i : Nat) {x : Slot} {q : PS} (hx : FitS x q) : Fits (setS S i x) (setP P i (some q)) := (h.kill i).put i fun p e => by cases e; exact hx
theorem Fits.un {S : List Slot} {P : PP} (h : Fits S P) (i : Nat) (x : Slot) : Fits (setS S i x) (setP P i none) := (h.kill i).put i fun p e => by cases e
/-- less is known -/
def Wk (P N : PP) : Prop := ∀ S, Fits S P → Fits S N
theorem Wk.refl (P : PP) : Wk P P := fun S h => h
theorem Wk.trans {P Q N : PP} (h : Wk P Q) (h2 : Wk Q N) : Wk P N := fun S s => h2 S (h S s)
def Wk' (P N : PP) : Prop := P.length = N.length ∧ ∀ (i : Nat) (q : PS), N[i]? = some (some q) → ∃ p, P[i]? = some (some p) ∧ ∀ x, FitS x p → FitS x q
theorem Wk'.wk {P N : PP} (h : Wk' P N) : Wk P N := fun S s => ⟨s.1.trans h.1, fun i q e => by
  obtain ⟨p, hp, hq⟩ := h.2 i q e
  obtain ⟨x, hx, fx⟩ := s.2 i p hp
  exact ⟨x, hx, hq x fx⟩⟩
theorem wk_nil : Wk' [] [] := ⟨rfl, fun i q e => by cases e⟩
theorem wk_n {P N : PP} {o : Option PS} (h : Wk' P N) : Wk' (o :: P) (none :: N) := ⟨congrArg (· + 1) h.1, fun i q e => by
  cases i with
  | zero => cases e
  | succ i => exact h.2 i q e⟩
theorem wk_s {P N : PP} {o : Option PS} (h : Wk' P N) : Wk' (o :: P) (o :: N) := ⟨congrArg (· + 1) h.1, fun i q e => by
  cases i with
  | zero => exact ⟨q, e, fun _ z => z⟩
  | succ i => exact h.2 i q e⟩
theorem wk_ro {P N : PP} {d : D} (h : Wk' P N) : Wk' (some (.own d) :: P) (some (.rd d) :: N) := ⟨congrArg (· + 1) h.1, fun i q e => by
  cases i with
  | zero => cases e; exact ⟨_, rfl, fun _ z => .inl z⟩
  | succ i => exact h.2 i q e⟩
theorem wk_rf {P N : PP} {d : D} (h : Wk' P N) : Wk' (some (.fz d) :: P) (some (.rd d) :: N) := ⟨congrArg (· + 1) h.1, fun i q e => by
  cases i with
  | zero => cases e; exact ⟨_, rfl, fun _ z => .inr z⟩
  | succ i => exact h.2 i q e⟩
/-! frozen -/
def frzVP (v : Nat) (P : PP) (d : D) : PP := (P.map (killP v)).set v (some (.fz d))
theorem Fits.frzO {S : List Slot} {P : PP} (h : Fits S P) {v : Nat} {d : D} (hv : P[v]? = some (some (.own d))) : Fits (frzV v S) (frzVP v P d) := by
  obtain ⟨x, hx, fx⟩ := h.2 v _ hv
  cases fx
  have e : frzV v S = (S.map (Slot.frz S v)).set v (.fz d) := by
    unfold frzV
    rw [hx]
    show frz v S = _
    unfold frz
    rw [hx]
  rw [e]
  refine Fits.put (P := P.map (killP v)) ⟨by rw [List.length_map, List.length_map]; exact h.1, fun k q z => ?_⟩ v fun p e => by cases e; rfl
  rw [List.getElem?_map] at z
  cases r : P[k]? with
  | none => rw [r] at z; cases z
  | some o =>
    rw [r] at z
    obtain ⟨e1, e2⟩ := killP_some (Option.some.inj z)
    subst e1
    obtain ⟨y, hy, fy⟩ := h.2 k q r
    refine ⟨y, ?_, fy⟩
    rw [List.getElem?_map, hy]
    have := e2 y fy
    cases y with
    | ali s j =>
      by_cases es : s = v
      · subst es
        have : (if s = s then Slot.un else .ali s j) = .ali s j := this
        rw [if_pos rfl] at this
        cases this
      · exact congrArg some (if_neg es)
    | un => rfl
    | own d => rfl
    | fz d => rfl
theorem frzV_fz {S : List Slot} {P : PP} (h : Fits S P) {v : Nat} {d : D} (hv : P[v]? = some (some (.fz d))) : frzV v S = S := by
  obtain ⟨x, hx, fx⟩ := h.2 v _ hv
  cases fx
  unfold frzV
  rw [hx]
def frzAllP (P : PP) : PP := P.map fun o => match o with
  | some (.own d) => some (.fz d)
  | some (.fz d) => some (.fz d)
  | some (.rd d) => some (.fz d)
  | _ => none
theorem Fits.frzAll {S : List Slot} {P : PP} (h : Fits S P) : Fits (Ow.frzAll S) (frzAllP P) := ⟨by unfold Ow.frzAll frzAllP; rw [List.length_map, List.length_map]; exact h.1, fun i q e => by
  unfold frzAllP at e
  rw [List.getElem?_map] at e
  cases r : P[i]? with
  | none => rw [r] at e; cases e
  | some o =>
    rw [r] at e
    cases o with
    | none => cases e
    | some p =>
      obtain ⟨x, hx, fx⟩ := h.2 i p r
      unfold Ow.frzAll
      rw [List.getElem?_map, hx]
      cases p with
      | own d => cases e; cases fx; exact ⟨_, rfl, rfl⟩
      | fz d => cases e; cases fx; exact ⟨_, rfl, rfl⟩
      | rd d =>
        cases e
        rcases fx with rfl | rfl
        · exact ⟨_, rfl, rfl⟩
        · exact ⟨_, rfl, rfl⟩
      | ali s j => cases e⟩

/-! ### blocks -/
def XB (P : PP) (f : List Slot → Res Fl) (R : ω → Fl → Prop) (t : Res ω) : Prop := ∀ S, Fits S P → LeG R t (f S)
variable {P : PP} {f g h : List Slot → Res Fl} {R : ω → Fl → Prop} {t t1 t2 : Res ω} {e : α → D} {fe : En → Res D} {ta : Res α} {k : α → Res ω} {i : Nat}
theorem XB.wk {N : PP} (w : Wk P N) (hb : XB N f R t) : XB P f R t := fun S s => hb S (w S s)
theorem bSeq_bN (f : List Slot → Res Fl) : bSeq f bN = f := by
  funext S
  unfold bSeq
  cases f S with
  | ok r => cases r <;> rfl
  | exc x => rfl
  | stuck => rfl
theorem bSeq_as (f g h : List Slot → Res Fl) : bSeq (bSeq f g) h = bSeq f (bSeq g h) := by
  funext S
  unfold bSeq
  cases f S with
  | ok r => cases r <;> rfl
  | exc x => rfl
  | stuck => rfl
theorem xb_last (hb : XB P (bSeq f bN) R t) : XB P f R t := by rw [bSeq_bN] at hb; exact hb
theorem xb_as (hb : XB P (bSeq f (bSeq g h)) R t) : XB P (bSeq (bSeq f g) h) R t := by rw [bSeq_as]; exact hb
theorem xb_skip (hb : XB P h R t) : XB P (bSeq bN h) R t := hb
theorem xb_bN {w : ω} (hb : ∀ S, Fits S P → R w (.nx S)) : XB P bN R (.ok w) := fun S s => ⟨_, rfl, hb S s⟩
theorem xb_bk {w : ω} (hb : ∀ S, Fits S P → R w (.bk S)) : XB P (bSeq (fun S => .ok (.bk S)) g) R (.ok w) := fun S s => ⟨_, rfl, hb S s⟩
theorem xb_ct {w : ω} (hb : ∀ S, Fits S P → R w (.ct S)) : XB P (bSeq (fun S => .ok (.ct S)) g) R (.ok w) := fun S s => ⟨_, rfl, hb S s⟩
theorem seq_nx {S S' : List Slot} {f g : List Slot → Res Fl} (e : f S = .ok (.nx S')) : bSeq f g S = g S' := by
  unfold bSeq
  rw [e]
  rfl
theorem xb_eval {f1 : List Slot → Res D} {S : List Slot} {r : Res D} {K : D → Res Fl} (hr : Le e ta r) (hk : ∀ a, LeG R (k a) (K (e a))) : LeG R (ta >>= k) (r >>= K) := by
  cases ta with
  | ok a => rw [show r = _ from hr]; exact hk a
  | exc x => rw [show r = _ from hr]; rfl
  | stuck => trivial
theorem bSeq_bind {S : List Slot} {r : Res α} {K : α → Res Fl} (e : f S = (r >>= K)) : bSeq f g S = (r >>= fun a => K a >>= fun fl => match fl with
  | .nx S' => g S'
  | fl => .ok fl) := by
  unfold bSeq
  rw [e]
  cases r <;> rfl
theorem mk_pu (hp : Pu e) (a : α) : mk (e a) = .fz (e a) := if_pos (hp a)
theorem mk_im (hp : Im e) (a : α) : mk (e a) = .own (e a) := if_neg (by rw [hp a]; exact Bool.false_ne_true)
theorem xb_setF (i : Nat) (hp : Pu e) (he : XE (enP P) e fe ta) (hk : ∀ a, XB (setP P i (some (.fz (e a)))) g R (k a)) : XB P (bSeq (sSet i fe) g) R (ta >>= k) := fun S s => by
  rw [bSeq_bind (f := sSet i fe) (r := fe (en S)) (K := fun d => .ok (.nx (setS S i (mk d)))) rfl]
  exact (he _ s.en).g.bind fun a d hd => by
    subst hd
    show LeG R (k a) (g (setS S i (mk (e a))))
    rw [mk_pu hp]
    exact hk a _ (s.set i rfl)
theorem xb_setO (i : Nat) (hp : Im e) (he : XE (enP P) e fe ta) (hk : ∀ a, XB (setP P i (some (.own (e a)))) g R (k a)) : XB P (bSeq (sSet i fe) g) R (ta >>= k) := fun S s => by
  rw [bSeq_bind (f := sSet i fe) (r := fe (en S)) (K := fun d => .ok (.nx (setS S i (mk d)))) rfl]
  exact (he _ s.en).g.bind fun a d hd => by
    subst hd
    show LeG R (k a) (g (setS S i (mk (e a))))
    rw [mk_im hp]
    exact hk a _ (s.set i rfl)
theorem xb_setR (i : Nat) (he : XE (enP P) e fe ta) (hk : ∀ a, XB (setP P i (some (.rd (e a)))) g R (k a)) : XB P (bSeq (sSet i fe) g) R (ta >>= k) := fun S s => by
  rw [bSeq_bind (f := sSet i fe) (r := fe (en S)) (K := fun d => .ok (.nx (setS S i (mk d)))) rfl]
  exact (he _ s.en).g.bind fun a d hd => by
    subst hd
    refine hk a _ (s.set i ?_)
    unfold mk
    by_cases z : pureD (e a) = true
    · rw [if_pos z]; exact .inr rfl
    · rw [if_neg z]; exact .inl rfl
theorem xb_setZ (i : Nat) (he : XE (enP P) e fe ta) (hk : ∀ a, XB (setP (frzAllP P) i (some (.fz (e a)))) g R (k a)) : XB P (bSeq (sSetZ i fe) g) R (ta >>= k) := fun S s => by
  rw [bSeq_bind (f := sSetZ i fe) (r := fe (en S)) (K := fun d => .ok (.nx (setS (frzAll S) i (.fz d)))) rfl]
  exact (he _ s.en).g.bind fun a d hd => by
    subst hd
    exact hk a _ (s.frzAll.set i rfl)
theorem xb_do (he : XE (enP P) e fe ta) (hk : ∀ a, XB P g R (k a)) : XB P (bSeq (sDo fe) g) R (ta >>= k) := fun S s => by
  rw [bSeq_bind (f := sDo fe) (r := fe (en S)) (K := fun d => .ok (.nx S)) rfl]
  exact (he _ s.en).g.bind fun a d hd => hk a _ s
theorem xb_ret {w : α → ω} (he : XE (enP P) e fe ta) (hk : ∀ a S, Fits S P → R (w a) (.rt (e a) S)) : XB P (bSeq (sRet fe) g) R (ta >>= fun a => .ok (w a)) := fun S s => by
  rw [bSeq_bind (f := sRet fe) (r := fe (en S)) (K := fun d => .ok (.rt d S)) rfl]
  exact (he _ s.en).g.bind fun a d hd => by
    subst hd
    exact ⟨_, rfl, hk a S s⟩
theorem xb_retO (i : Nat) {w : ω} {d : D} (hP : P[i]? = some (some (.own d))) (hk : ∀ S, Fits S (setP P i none) → R w (.rt d S)) : XB P (bSeq (sRetV i) g) R (.ok w) := fun S s => by
  obtain ⟨x, hx, fx⟩ := s.2 i _ hP
  cases fx
  unfold bSeq sRetV
  rw [hx]
  exact ⟨_, rfl, hk _ (s.un i _)⟩
theorem xb_retP (i : Nat) {w : ω} {d : D} (hP : P[i]? = some (some (.fz d))) (hp : pureD d = true) (hk : ∀ S, Fits S P → R w (.rt d S)) : XB P (bSeq (sRetV i) g) R (.ok w) := fun S s => by
  obtain ⟨x, hx, fx⟩ := s.2 i _ hP
  cases fx
  unfold bSeq sRetV
  rw [hx]
  dsimp only
  rw [if_pos hp]
  exact ⟨_, rfl, hk _ s⟩
/-- a name that holds None or a list of its own -/
theorem xb_retR (i : Nat) {w : ω} {d : D} (hP : P[i]? = some (some (.rd d))) (hp : pureD d = true ∨ True) (hk : ∀ S, R w (.rt d S)) (hf : ∀ S, Fits S P → S[i]? = some (.fz d) → pureD d = true) : XB P (bSeq (sRetV i) g) R (.ok w) := fun S s => by
  obtain ⟨x, hx, fx⟩ := s.2 i _ hP
  unfold bSeq sRetV
  rw [hx]
  rcases fx with rfl | rfl
  · exact ⟨_, rfl, hk _⟩
  · dsimp only
    rw [if_pos (hf S s hx)]
    exact ⟨_, rfl, hk _⟩
theorem xb_if {c : En → Res Bool} {tc : Res Bool} (hc : XT (enP P) c tc) (h1 : XB P (bSeq f h) R t1) (h2 : XB P (bSeq g h) R t2) : XB P (bSeq (sIf c f g) h) R (tc >>= fun b => if b = true then t1 else t2) := fun S s => by
  rw [bSeq_bind (f := sIf c f g) (r := c (en S)) (K := fun b => if b = true then f S else g S) rfl]
  refine (hc _ s.en).g.bind fun b b' e => ?_
  subst e
  cases b' with
  | true => exact h1 S s
  | false => exact h2 S s
def RN (N : τ → PP) : τ → Fl → Prop := fun s fl => ∃ S', fl = .nx S' ∧ Fits S' (N s)
theorem xb_join {N : τ → PP} {t : Res τ} {k : τ → Res ω} (h1 : XB P f (RN N) t) (h2 : ∀ s, XB (N s) g R (k s)) : XB P (bSeq f g) R (t >>= k) := fun S s => (h1 S s).bind fun w fl ⟨S', e, s'⟩ => by
  subst e
  exact h2 w S' s'
theorem xb_end {N : τ → PP} {s : τ} (h : Wk' P (N s)) : XB P bN (RN N) (.ok s) := fun S q => ⟨_, rfl, S, rfl, h.wk S q⟩
theorem xb_raise {c : Nat} : XB P (bSeq (sRaise c) g) R (.exc ⟨c, []⟩) := fun S s => rfl
theorem xb_raise1 {c : Nat} (he : XE (enP P) e fe ta) : XB P (bSeq (sRaise1 c fe) g) R (ta >>= fun a => .exc ⟨c, [e a]⟩) := fun S s => by
  rw [bSeq_bind (f := sRaise1 c fe) (r := fe (en S)) (K := fun d => .exc ⟨c, [d]⟩) rfl]
  exact (he _ s.en).g.bind fun a d hd => by
    subst hd
    rfl
def pTry (ex : Nat → Bool) (t : Res α) (o : Option Err) : Res (Option Err) := match t with
  | .ok _ => .ok o
  | .exc e => if (ex e.c && pureDs e.xs) = true then .ok (some e) else .stuck
  | .stuck => .stuck
theorem wk_un {P : PP} (i : Nat) : Wk P (setP P i none) := fun S s => ⟨by rw [setP, List.length_set, List.length_map]; exact s.1, fun k q e => by
  unfold setP at e
  by_cases z : i = k
  · subst z
    by_cases hl : i < P.length
    · rw [List.getElem?_set_self (by simpa using hl)] at e
      cases e
    · rw [List.getElem?_eq_none (by simpa using Nat.le_of_not_lt hl)] at e
      cases e
  · rw [List.getElem?_set_ne z, List.getElem?_map] at e
    cases r : P[k]? with
    | none => rw [r] at e; cases e
    | some o =>
      rw [r] at e
      obtain ⟨e1, _⟩ := killP_some (Option.some.inj e)
      subst e1
      exact s.2 k q r⟩
theorem xb_try (i v : Nat) {ex : Nat → Bool} {o : Option Err} {k : Option Err → Res ω} (hiv : i ≠ v) (hv : P[v]? = some (some (.fz (eO eX o)))) (he : XE (enP P) e fe ta) (hk : ∀ o', XB (setP (setP P i none) v (some (.fz (eO eX o')))) g R (k o')) : XB P (bSeq (sTry i v ex fe) g) R (pTry ex ta o >>= k) := fun S s => by
  have q := he _ s.en
  cases ta with
  | stuck => trivial
  | ok a =>
    have e1 : sTry i v ex fe S = .ok (.nx S) := by
      unfold sTry
      rw [show fe _ = _ from q]
    rw [seq_nx e1]
    refine hk o S ?_
    have s1 := wk_un (P := P) i S s
    have s2 := wk_un (P := setP P i none) v S s1
    refine ⟨by rw [setP, List.length_set, List.length_map]; exact s1.1, fun k q e => ?_⟩
    by_cases z : v = k
    · subst z
      have hl : v < P.length := (List.getElem?_eq_some_iff.mp hv).1
      unfold setP at e
      rw [List.getElem?_set_self (by simpa using hl)] at e
      cases e
      exact s.2 v _ hv
    · refine s2.2 k q ?_
      unfold setP at e ⊢
      rw [List.getElem?_set_ne z] at e ⊢
      exact e
  | exc x =>
    show LeG R ((if (ex x.c && pureDs x.xs) = true then Res.ok (some x) else .stuck) >>= k) _
    by_cases z : (ex x.c && pureDs x.xs) = true
    · rw [if_pos z]
      have e1 : sTry i v ex fe S = .ok (.nx (setS (setS (setS S i .un) v (.fz (.exc x.c x.xs))) i .un)) := by
        unfold sTry
        rw [show fe _ = _ from q]
        exact if_pos z
      rw [seq_nx e1]
      refine hk (some x) _ ?_
      have s1 : Fits (setS (setS S i .un) v (.fz (.exc x.c x.xs))) (setP (setP P i none) v (some (.fz (eO eX (some x))))) := (s.un i .un).set v (by
        show Slot.fz (.exc x.c x.xs) = .fz (eX x)
        unfold eX
        rw [if_pos (Bool.and_eq_true_iff.mp z).2])
      have s2 := s1.un i .un
      refine ⟨by rw [setS_len]; exact s1.1, fun k q e => ?_⟩
      by_cases zk : i = k
      · subst zk
        have hl : i < P.length ∨ ¬ i < P.length := Classical.em _
        rcases hl with hl | hl
        · unfold setP at e
          rw [List.getElem?_set_ne (Ne.symm hiv), List.getElem?_map, List.getElem?_set_self (by simpa using hl)] at e
          cases e
        · rw [List.getElem?_eq_none (by simpa [setP] using Nat.le_of_not_lt hl)] at e
          cases e
      · by_cases zv : v = k
        · subst zv
          obtain ⟨y, hy, fy⟩ := s1.2 v q e
          have hl : v < P.length := (List.getElem?_eq_some_iff.mp hv).1
          unfold setP at e
          rw [List.getElem?_set_self (by simpa using hl)] at e
          cases e
          cases fy
          refine ⟨_, ?_, rfl⟩
          unfold setS at hy ⊢
          rw [List.getElem?_set_ne zk, List.getElem?_map, hy]
          rfl
        · refine s2.2 k q ?_
          unfold setP at e ⊢
          rw [List.getElem?_set_ne zk, List.getElem?_map, e]
          have e' := e
          rw [List.getElem?_set_ne zv, List.getElem?_map, List.getElem?_set_ne zk, List.getElem?_map] at e'
          cases r : P[k]? with
          | none => rw [r] at e'; cases e'
          | some o =>
            rw [r] at e'
            have e2 : killP v (killP i o) = some q := Option.some.inj e'
            obtain ⟨e3, _⟩ := killP_some e2
            obtain ⟨e4, _⟩ := killP_some e3
            rw [e4] at e3
            exact congrArg some e3
    · rw [if_neg z]
      trivial
theorem xb_par (i j : Nat) {fa fb : En → Res D} {β : Type} {ea : α → D} {eb : β → D} {ta : Res α} {tb : Res β} {k : α × β → Res ω} (hp : Pu ea) (hq : Pu eb) (ha : XE (enP P) ea fa ta) (hb : XE (enP P) eb fb tb) (hk : ∀ a b, XB (setP (setP P i (some (.fz (ea a)))) j (some (.fz (eb b)))) g R (k (a, b))) :
    XB P (bSeq (sPar i j fa fb) g) R (ta >>= fun a => tb >>= fun b => k (a, b)) := fun S s => by
  rw [bSeq_bind (f := sPar i j fa fb) (r := fa (en S)) (K := fun d => fb (en S) >>= fun e => if (pureD d && pureD e) = true then .ok (.nx (setS (setS S i (.fz d)) j (.fz e))) else .stuck) rfl]
  refine (ha _ s.en).g.bind fun a d hd => ?_
  subst hd
  have q := hb _ s.en
  cases tb with
  | stuck => trivial
  | exc x => rw [show fb _ = _ from q]; rfl
  | ok b =>
    rw [show fb _ = _ from q]
    show LeG R (k (a, b)) ((if (pureD (ea a) && pureD (eb b)) = true then Res.ok (Fl.nx (setS (setS S i (.fz (ea a))) j (.fz (eb b)))) else .stuck) >>= _)
    rw [if_pos (by rw [hp a, hq b]; rfl)]
    exact hk a b _ ((s.set i (x := .fz (ea a)) (q := .fz (ea a)) rfl).set j (x := .fz (eb b)) (q := .fz (eb b)) rfl)
theorem xb_unp (i j : Nat) {f : En → Res D} {β : Type} {ea : α → D} {eb : β → D} {t : Res (α × β)} {k : α × β → Res ω} (hp : Pu ea) (hq : Pu eb) (ha : XE (enP P) (eT2 ea eb) f t) (hk : ∀ p : α × β, XB (setP (setP P i (some (.fz (ea p.1)))) j (some (.fz (eb p.2)))) g R (k p)) :
    XB P (bSeq (sUnp2 i j f) g) R (t >>= k) := fun S s => by
  have q := ha _ s.en
  cases t with
  | stuck => trivial
  | exc x =>
    unfold bSeq sUnp2
    rw [show f _ = _ from q]
    rfl
  | ok p =>
    have e1 : sUnp2 i j f S = .ok (.nx (setS (setS S i (.fz (ea p.1))) j (.fz (eb p.2)))) := by
      unfold sUnp2
      rw [show f _ = _ from q]
      exact if_pos (by rw [hp, hq]; rfl)
    rw [seq_nx e1]
    exact hk p _ ((s.set i (x := .fz (ea p.1)) (q := .fz (ea p.1)) rfl).set j (x := .fz (eb p.2)) (q := .fz (eb p.2)) rfl)
/-! ### names of items -/
theorem xe_ali (e : α → D) (xs : List α) (j i : Nat) {P : List (Option D)} (h : P[i]? = some ((xs.map e)[j]?)) : XE P e (xVar i) (ofO xs[j]?) := fun en he => by
  rw [List.getElem?_map] at h
  cases q : xs[j]? with
  | none => trivial
  | some a =>
    rw [q] at h
    show xVar i en = _
    unfold xVar
    rw [he.2 i _ h]
theorem xb_alVF (i v : Nat) {d : D} (hP : P[v]? = some (some (.fz d))) (hk : XB (setP P i (some (.fz d))) g R t) : XB P (bSeq (sAlV i v) g) R t := fun S s => by
  obtain ⟨x, hx, fx⟩ := s.2 v _ hP
  cases fx
  have e1 : sAlV i v S = .ok (.nx (setS S i (.fz d))) := by unfold sAlV; rw [hx]
  rw [seq_nx e1]
  exact hk _ (s.set i rfl)
theorem xb_alVO (i v : Nat) {d : D} (hP : P[v]? = some (some (.own d))) (hiv : i ≠ v) (hk : XB (setP (setP P v none) i (some (.own d))) g R t) : XB P (bSeq (sAlV i v) g) R t := fun S s => by
  obtain ⟨x, hx, fx⟩ := s.2 v _ hP
  cases fx
  have e1 : sAlV i v S = .ok (.nx (setS (setS S v .un) i (.own d))) := by
    unfold sAlV
    rw [hx]
    exact if_neg hiv
  rw [seq_nx e1]
  exact hk _ ((s.un v .un).set i rfl)
theorem xb_alPF (i v : Nat) {xs : List α} {f : En → Res D} {tk : Res Int} (hP : P[v]? = some (some (.fz (eL e xs)))) (hf : XE (enP P) eI f tk) (hk : ∀ a, XB (setP P i (some (.fz (e a)))) g R (k a)) : XB P (bSeq (sAlP i v f) g) R ((tk >>= fun i => pAt xs i) >>= k) := fun S s => by
  obtain ⟨x, hx, fx⟩ := s.2 v _ hP
  cases fx
  have q := hf _ s.en
  cases tk with
  | stuck => trivial
  | exc x =>
    have e1 : sAlP i v f S = .exc x := by
      unfold sAlP
      rw [hx]
      show (f (en S) >>= _) = _
      rw [show f _ = _ from q]
      rfl
    unfold bSeq
    rw [e1]
    rfl
  | ok n =>
    show LeG R (pAt xs n >>= k) _
    unfold pAt
    cases r : atI xs n with
    | none => trivial
    | some a =>
      have e1 : sAlP i v f S = .ok (.nx (setS S i (.fz (e a)))) := by
        unfold sAlP
        rw [hx]
        show (f (en S) >>= _) = _
        rw [show f _ = _ from q]
        show (match atI (xs.map e) n with
          | some d => Res.ok (Fl.nx (setS S i (.fz d)))
          | none => .stuck) = _
        rw [atI_map, r]
        rfl
      rw [seq_nx e1]
      exact hk a _ (s.set i rfl)
def pIxN (n : Nat) (k : Int) : Res Nat := ofO (ixN n k)
/-- a name for an item (no pure one) of an own list -/
theorem xb_alPO (i v : Nat) {xs : List α} {f : En → Res D} {tk : Res Int} {k : Nat → Res ω} (hv : v ≠ i) (hm : Im e) (hP : P[v]? = some (some (.own (eL e xs)))) (hf : XE (enP P) eI f tk) (hk : ∀ j, XB (setP P i (some (.ali v j))) g R (k j)) : XB P (bSeq (sAlP i v f) g) R ((tk >>= fun i => pIxN xs.length i) >>= k) := fun S s => by
  obtain ⟨x, hx, fx⟩ := s.2 v _ hP
  cases fx
  have q := hf _ s.en
  cases tk with
  | stuck => trivial
  | exc x =>
    have e1 : sAlP i v f S = .exc x := by
      unfold sAlP
      rw [hx]
      show (f (en S) >>= _) = _
      rw [show f _ = _ from q]
      rfl
    unfold bSeq
    rw [e1]
    rfl
  | ok n =>
    show LeG R (pIxN xs.length n >>= k) _
    unfold pIxN
    cases r : ixN xs.length n with
    | none => trivial
    | some j =>
      have hj : j < xs.length := by
        unfold ixN at r
        split at r
        · split at r
          · cases r; omega
          · cases r
        · split at r
          · cases r; omega
          · cases r
      have e1 : sAlP i v f S = .ok (.nx (setS S i (.ali v j))) := by
        unfold sAlP
        rw [hx]
        show (f (en S) >>= _) = _
        rw [show f _ = _ from q]
        show (match ixN (xs.map e).length n with
          | some j => (match (xs.map e)[j]? with
            | some d => if pureD d = true then Res.ok (Fl.nx (setS S i (.fz d))) else if v = i then .stuck else .ok (.nx (setS S i (.ali v j)))
            | none => .stuck)
          | none => .stuck) = _
        rw [List.length_map, r]
        dsimp only
        rw [List.getElem?_map, List.getElem?_eq_getElem hj]
        show (if pureD (e xs[j]) = true then Res.ok (Fl.nx (setS S i (.fz (e xs[j])))) else if v = i then .stuck else .ok (.nx (setS S i (.ali v j)))) = _
        rw [if_neg (by rw [hm]; exact Bool.false_ne_true), if_neg hv]
      rw [seq_nx e1]
      exact hk j _ (s.set i rfl)
/-- a name for a pure item of an own list -/
theorem xb_alPP (i v : Nat) {xs : List α} {f : En → Res D} {tk : Res Int} (hp : Pu e) (hP : P[v]? = some (some (.own (eL e xs)))) (hf : XE (enP P) eI f tk) (hk : ∀ a, XB (setP P i (some (.fz (e a)))) g R (k a)) : XB P (bSeq (sAlP i v f) g) R ((tk >>= fun i => pAt xs i) >>= k) := fun S s => by
  obtain ⟨x, hx, fx⟩ := s.2 v _ hP
  cases fx
  have q := hf _ s.en
  cases tk with
  | stuck => trivial
  | exc x =>
    have e1 : sAlP i v f S = .exc x := by
      unfold sAlP
      rw [hx]
      show (f (en S) >>= _) = _
      rw [show f _ = _ from q]
      rfl
    unfold bSeq
    rw [e1]
    rfl
  | ok n =>
    show LeG R (pAt xs n >>= k) _
    unfold pAt
    cases r : atI xs n with
    | none => trivial
    | some a =>
      unfold atI at r
      cases r2 : ixN xs.length n with
      | none => rw [r2] at r; cases r
      | some j =>
        rw [r2] at r
        have r3 : xs[j]? = some a := r
        have e1 : sAlP i v f S = .ok (.nx (setS S i (.fz (e a)))) := by
          unfold sAlP
          rw [hx]
          show (f (en S) >>= _) = _
          rw [show f _ = _ from q]
          show (match ixN (xs.map e).length n with
            | some j => (match (xs.map e)[j]? with
              | some d => if pureD d = true then Res.ok (Fl.nx (setS S i (.fz d))) else if v = i then .stuck else .ok (.nx (setS S i (.ali v j)))
              | none => .stuck)
            | none => .stuck) = _
          rw [List.length_map, r2]
          dsimp only
          rw [List.getElem?_map, r3]
          exact if_pos (hp a)
        rw [seq_nx e1]
        exact hk a _ (s.set i rfl)
/-! ### dicts -/
def pPut {κ : Type} [DecidableEq κ] (l : List (κ × α)) (kk : κ) (a : α) : Res (List (κ × α)) := if szOk (l.length + 1) = true then .ok (pPutK l kk a) else .stuck
theorem xb_putI (v : Nat) {l : List (Int × α)} {tk : Res Int} {gk : En → Res D} {k : List (Int × α) → Res ω} (hp : Pu e) (hP : P[v]? = some (some (.own (eDI e l)))) (he : XE (enP P) e fe ta) (hg : XE (enP P) eI gk tk) (hk : ∀ l', XB (setP P v (some (.own (eDI e l')))) g R (k l')) :
    XB P (bSeq (sPutI v fe gk) g) R ((ta >>= fun a => tk >>= fun kk => pPut l kk a) >>= k) := fun S s => by
  obtain ⟨x, hx, fx⟩ := s.2 v _ hP
  cases fx
  have q := he _ s.en
  have q2 := hg _ s.en
  cases ta with
  | stuck => trivial
  | exc x =>
    unfold bSeq sPutI
    rw [show fe _ = _ from q]
    rfl
  | ok a =>
    cases tk with
    | stuck => trivial
    | exc x =>
      have e1 : sPutI v fe gk S = .exc x := by
        unfold sPutI
        rw [show fe _ = _ from q, ok_bind, hx]
        show (gk (en S) >>= _) = _
        rw [show gk _ = _ from q2]
        rfl
      unfold bSeq
      rw [e1]
      rfl
    | ok kk =>
      show LeG R (pPut l kk a >>= k) _
      unfold pPut
      by_cases z : szOk (l.length + 1) = true
      · have e1 : sPutI v fe gk S = .ok (.nx (setS S v (.own (eDI e (pPutK l kk a))))) := by
          unfold sPutI
          rw [show fe _ = _ from q, ok_bind, hx]
          show (gk (en S) >>= _) = _
          rw [show gk _ = _ from q2]
          show (if (pureD (e a) && szOk ((l.map fun p => (p.1, e p.2)).length + 1)) = true then Res.ok (Fl.nx (setS S v (.own (.dI (putD (l.map fun p => (p.1, e p.2)) kk (e a)))))) else .stuck) = _
          rw [List.length_map, if_pos (by rw [hp a, z]; rfl), putD_e]
          rfl
        rw [if_pos z, seq_nx e1]
        exact hk _ _ (s.set v rfl)
      · rw [if_neg z]
        trivial
theorem xb_putT (v : Nat) {l : List (List Int × α)} {tk : Res (List Int)} {gk : En → Res D} {k : List (List Int × α) → Res ω} (hp : Pu e) (hP : P[v]? = some (some (.own (eDT e l)))) (he : XE (enP P) e fe ta) (hg : XE (enP P) eK gk tk) (hk : ∀ l', XB (setP P v (some (.own (eDT e l')))) g R (k l')) :
    XB P (bSeq (sPutT v fe gk) g) R ((ta >>= fun a => tk >>= fun kk => pPut l kk a) >>= k) := fun S s => by
  obtain ⟨x, hx, fx⟩ := s.2 v _ hP
  cases fx
  have q := he _ s.en
  have q2 := hg _ s.en
  cases ta with
  | stuck => trivial
  | exc x =>
    unfold bSeq sPutT
    rw [show fe _ = _ from q]
    rfl
  | ok a =>
    cases tk with
    | stuck => trivial
    | exc x =>
      have e1 : sPutT v fe gk S = .exc x := by
        unfold sPutT
        rw [show fe _ = _ from q, ok_bind, hx]
        show (gk (en S) >>= _) = _
        rw [show gk _ = _ from q2]
        rfl
      unfold bSeq
      rw [e1]
      rfl
    | ok kk =>
      show LeG R (pPut l kk a >>= k) _
      unfold pPut
      by_cases z : szOk (l.length + 1) = true
      · have e1 : sPutT v fe gk S = .ok (.nx (setS S v (.own (eDT e (pPutK l kk a))))) := by
          unfold sPutT
          rw [show fe _ = _ from q, ok_bind, hx]
          show (gk (en S) >>= _) = _
          rw [show gk _ = _ from q2, ok_bind, tupK_e]
          show (if (pureD (e a) && szOk ((l.map fun p => (p.1, e p.2)).length + 1)) = true then Res.ok (Fl.nx (setS S v (.own (.dT (putD (l.map fun p => (p.1, e p.2)) kk (e a)))))) else .stuck) = _
          rw [List.length_map, if_pos (by rw [hp a, z]; rfl), putD_e]
          rfl
        rw [if_pos z, seq_nx e1]
        exact hk _ _ (s.set v rfl)
      · rw [if_neg z]
        trivial
end
end Ow.P
end
section
set_option linter.all false
set_option maxRecDepth 100000
set_option maxHeartbeats 2000000
/-! Pw4: typed loops, changes in place, defs. -/
namespace Ow.P
open PySem L2 PySem.Spec Ow
/-- how a loop's body ends: on, out, or told -/
inductive Ct (τ ρ : Type) where
  | nx (s : τ) | bk (s : τ) | rt (r : ρ)
section
variable {ω ω' β β' α γ ρ τ μ σ : Type} {P : PP} {f g h : List Slot → Res Fl} {R : ω → Fl → Prop} {t t1 t2 : Res ω} {e : α → D} {fe : En → Res D} {ta : Res α} {i : Nat}
/-- on, or told -/
def ctk {τ ρ ω : Type} (c : Ct τ ρ) (k : τ → Res ω) (kr : ρ → Res ω) : Res ω := match c with
  | .nx s => k s
  | .bk s => k s
  | .rt r => kr r
@[simp] theorem ctk_nx {τ ρ ω : Type} (s : τ) (k : τ → Res ω) (kr : ρ → Res ω) : ctk (.nx s) k kr = k s := rfl
@[simp] theorem ctk_rt {τ ρ ω : Type} (r : ρ) (k : τ → Res ω) (kr : ρ → Res ω) : ctk (.rt r) k kr = kr r := rfl
/-! ### loops over lists -/
def pFor (b : τ → α → Res τ) : List α → τ → Res τ
  | [], s => .ok s
  | a :: l, s => b s a >>= pFor b l
def pForC (b : τ → α → Res (Ct τ ρ)) : List α → τ → Res (Ct τ ρ)
  | [], s => .ok (.nx s)
  | a :: l, s => b s a >>= fun r => match r with
    | .nx s' => pForC b l s'
    | .bk s' => .ok (.nx s')
    | .rt r => .ok (.rt r)
def RB (N : τ → PP) : τ → Fl → Prop := fun s fl => ∃ S', (fl = .nx S' ∨ fl = .ct S') ∧ Fits S' (N s)
def RC (N : τ → PP) (RR : ρ → D → List Slot → Prop) : Ct τ ρ → Fl → Prop
  | .nx s, fl => ∃ S', (fl = .nx S' ∨ fl = .ct S') ∧ Fits S' (N s)
  | .bk s, fl => ∃ S', fl = .bk S' ∧ Fits S' (N s)
  | .rt r, fl => ∃ d S', fl = .rt d S' ∧ RR r d S'
/-- behind a loop -/
def RC' (N : τ → PP) (RR : ρ → D → List Slot → Prop) : Ct τ ρ → Fl → Prop
  | .nx s, fl => ∃ S', fl = .nx S' ∧ Fits S' (N s)
  | .bk _, _ => False
  | .rt r, fl => ∃ d S', fl = .rt d S' ∧ RR r d S'
def bndS (P : PP) : Bd → PP
  | [] => P
  | (i, d) :: r => bndS (setP P i (some (.fz d))) r
theorem Fits.bnd {S : List Slot} : ∀ {P : PP} (bd : Bd), Fits S P → Fits (setBs S bd) (bndS P bd)
  | _, [], h => h
  | P, (i, d) :: r, h => Fits.bnd (S := setS S i (.fz d)) (P := setP P i (some (.fz d))) r (h.set i rfl)
theorem for_le {bnd : β → Bd} {eb : α → β} {N : τ → PP} {b : τ → α → Res τ} (hb : ∀ s a, XB (bndS (N s) (bnd (eb a))) f (RB N) (b s a)) : ∀ (l : List α) (s : τ) (S : List Slot), Fits S (N s) → LeG (RN N) (pFor b l s) (forS (bindB bnd) f (l.map eb) S)
  | [], s, S, hs => ⟨_, rfl, S, rfl, hs⟩
  | a :: l, s, S, hs => by
    have q := hb s a _ (hs.bnd (bnd (eb a)))
    unfold pFor
    rw [List.map_cons]
    unfold forS
    show LeG (RN N) _ (f (setBs S (bnd (eb a))) >>= _)
    refine q.bind fun s' fl ⟨S', hfl, hs'⟩ => ?_
    rcases hfl with rfl | rfl
    · exact for_le hb l s' S' hs'
    · exact for_le hb l s' S' hs'
theorem forC_le {bnd : β → Bd} {eb : α → β} {N : τ → PP} {RR : ρ → D → List Slot → Prop} {b : τ → α → Res (Ct τ ρ)} (hb : ∀ s a, XB (bndS (N s) (bnd (eb a))) f (RC N RR) (b s a)) : ∀ (l : List α) (s : τ) (S : List Slot), Fits S (N s) → LeG (RC' N RR) (pForC b l s) (forS (bindB bnd) f (l.map eb) S)
  | [], s, S, hs => ⟨_, rfl, S, rfl, hs⟩
  | a :: l, s, S, hs => by
    have q := hb s a _ (hs.bnd (bnd (eb a)))
    unfold pForC
    rw [List.map_cons]
    unfold forS
    show LeG (RC' N RR) _ (f (setBs S (bnd (eb a))) >>= _)
    refine q.bind fun r fl hfl => ?_
    cases r with
    | nx s' =>
      obtain ⟨S', hfl, hs'⟩ := hfl
      rcases hfl with rfl | rfl
      · exact forC_le hb l s' S' hs'
      · exact forC_le hb l s' S' hs'
    | bk s' =>
      obtain ⟨S', rfl, hs'⟩ := hfl
      exact ⟨_, rfl, S', rfl, hs'⟩
    | rt r =>
      obtain ⟨d, S', rfl, hs'⟩ := hfl
      exact ⟨_, rfl, d, S', rfl, hs'⟩
/-- what a loop runs over -/
def XSrc (P : PP) (src : List Slot → Res (List β × List Slot)) (t : Res σ) (l : σ → List α) (eb : α → β) (P0 : σ → PP) : Prop := ∀ S, Fits S P → LeG (fun w r => r.1 = (l w).map eb ∧ Fits r.2 (P0 w)) t (src S)
theorem xb_for {src : List Slot → Res (List β × List Slot)} {ts : Res σ} {l : σ → List α} {eb : α → β} {P0 : σ → PP} {bnd : β → Bd} {body : τ → α → Res τ} {k : τ → Res ω} (N : τ → PP) (s0 : σ → τ) (hs : XSrc P src ts l eb P0) (hw : ∀ w, Wk' (P0 w) (N (s0 w))) (hb : ∀ s a, XB (bndS (N s) (bnd (eb a))) f (RB N) (body s a)) (hk : ∀ s, XB (N s) g R (k s)) :
    XB P (bSeq (sForG src bnd f) g) R (ts >>= fun w => pFor body (l w) (s0 w) >>= k) := fun S s => by
  rw [bSeq_bind (f := sForG src bnd f) (r := src S) (K := fun r => forS (bindB bnd) f r.1 r.2) rfl]
  refine (hs S s).bind fun w r ⟨h1, h2⟩ => ?_
  rw [h1]
  refine (for_le hb (l w) (s0 w) r.2 ((hw w).wk _ h2)).bind fun s' fl ⟨S', e, hs'⟩ => ?_
  subst e
  exact hk s' S' hs'
theorem xb_forC {src : List Slot → Res (List β × List Slot)} {ts : Res σ} {l : σ → List α} {eb : α → β} {P0 : σ → PP} {bnd : β → Bd} {body : τ → α → Res (Ct τ ρ)} {k : τ → Res ω} {kr : ρ → Res ω} (N : τ → PP) (RR : ρ → D → List Slot → Prop) (s0 : σ → τ) (hs : XSrc P src ts l eb P0) (hw : ∀ w, Wk' (P0 w) (N (s0 w))) (hb : ∀ s a, XB (bndS (N s) (bnd (eb a))) f (RC N RR) (body s a))
    (hr : ∀ r d S, RR r d S → LeG R (kr r) (.ok (.rt d S))) (hk : ∀ s, XB (N s) g R (k s)) :
    XB P (bSeq (sForG src bnd f) g) R (ts >>= fun w => pForC body (l w) (s0 w) >>= fun c => ctk c k kr) := fun S s => by
  rw [bSeq_bind (f := sForG src bnd f) (r := src S) (K := fun r => forS (bindB bnd) f r.1 r.2) rfl]
  refine (hs S s).bind fun w r ⟨h1, h2⟩ => ?_
  rw [h1]
  refine (forC_le hb (l w) (s0 w) r.2 ((hw w).wk _ h2)).bind fun c fl hc => ?_
  cases c with
  | nx s' =>
    obtain ⟨S', e, hs'⟩ := hc
    subst e
    exact hk s' S' hs'
  | bk s' => exact hc.elim
  | rt r =>
    obtain ⟨d, S', e, hs'⟩ := hc
    subst e
    exact hr r d S' hs'
theorem xb_ends {N : τ → PP} {s : τ} (h : Wk' P (N s)) : XB P bN (RB N) (.ok s) := fun S q => ⟨_, rfl, S, .inl rfl, h.wk S q⟩
theorem xb_endc {N : τ → PP} {RR : ρ → D → List Slot → Prop} {s : τ} (h : Wk' P (N s)) : XB P bN (RC N RR) (.ok (.nx s)) := fun S q => ⟨_, rfl, S, .inl rfl, h.wk S q⟩
theorem xb_bkc {N : τ → PP} {RR : ρ → D → List Slot → Prop} {s : τ} (h : Wk' P (N s)) : XB P (bSeq (fun S => .ok (.bk S)) g) (RC N RR) (.ok (.bk s)) := xb_bk fun S q => ⟨S, rfl, h.wk S q⟩
theorem xb_ctc {N : τ → PP} {RR : ρ → D → List Slot → Prop} {s : τ} (h : Wk' P (N s)) : XB P (bSeq (fun S => .ok (.ct S)) g) (RC N RR) (.ok (.nx s)) := xb_ct fun S q => ⟨S, .inr rfl, h.wk S q⟩
theorem xb_cts {N : τ → PP} {s : τ} (h : Wk' P (N s)) : XB P (bSeq (fun S => .ok (.ct S)) g) (RB N) (.ok s) := xb_ct fun S q => ⟨S, .inr rfl, h.wk S q⟩
/-- sources -/
theorem xs_K {L : En → Res (List β)} {eb : α → β} {t : Res (List α)} (h : XI (enP P) L eb t) : XSrc P (srcK L) t (fun l => l) eb (fun _ => P) := fun S s =>
  (h _ s.en).g'.bind (R' := fun w r => r.1 = w.map eb ∧ Fits r.2 P) (k := fun w => .ok w) (k' := fun l => .ok (l, S)) (fun w b e => ⟨_, rfl, e, s⟩) |> fun q => by
    have e : (t >>= fun w => Res.ok w) = t := by cases t <;> rfl
    rw [e] at q
    exact q
theorem xs_A {L : En → Res (List β)} {eb : α → β} {t : Res (List α)} (h : XI (enP P) L eb t) : XSrc P (srcA L) t (fun l => l) eb (fun _ => frzAllP P) := fun S s =>
  (h _ s.en).g'.bind (R' := fun w r => r.1 = w.map eb ∧ Fits r.2 (frzAllP P)) (k := fun w => .ok w) (k' := fun l => .ok (l, frzAll S)) (fun w b e => ⟨_, rfl, e, s.frzAll⟩) |> fun q => by
    have e : (t >>= fun w => Res.ok w) = t := by cases t <;> rfl
    rw [e] at q
    exact q
theorem xs_VO (v : Nat) {xs : List α} (hP : P[v]? = some (some (.own (eL e xs)))) : XSrc P (srcV v) (.ok xs) (fun l => l) e (fun _ => frzVP v P (eL e xs)) := fun S s => by
  have q := s.frzO hP
  refine ⟨(xs.map e, frzV v S), ?_, rfl, q⟩
  unfold srcV
  obtain ⟨x, hx, fx⟩ := q.2 v (.fz (eL e xs)) (by unfold frzVP; rw [List.getElem?_set_self (by rw [List.length_map]; exact (List.getElem?_eq_some_iff.mp hP).1)])
  cases fx
  rw [hx]
  rfl
theorem xs_VF (v : Nat) {xs : List α} (hP : P[v]? = some (some (.fz (eL e xs)))) : XSrc P (srcV v) (.ok xs) (fun l => l) e (fun _ => P) := fun S s => by
  refine ⟨(xs.map e, frzV v S), ?_, rfl, by rw [frzV_fz s hP]; exact s⟩
  unfold srcV
  rw [frzV_fz s hP]
  obtain ⟨x, hx, fx⟩ := s.2 v _ hP
  cases fx
  rw [hx]
  rfl
theorem xs_VC (v : Nat) {xs : List Int} (hP : P[v]? = some (some (.fz (eC xs)))) : XSrc P (srcV v) (.ok xs) (fun l => l) eI (fun _ => P) := fun S s => by
  refine ⟨(xs.map eI, frzV v S), ?_, rfl, by rw [frzV_fz s hP]; exact s⟩
  unfold srcV
  rw [frzV_fz s hP]
  obtain ⟨x, hx, fx⟩ := s.2 v _ hP
  cases fx
  rw [hx]
  rfl
theorem xs_VpO (v : Nat) {ea : α → D} {eb : γ → D} {xs : List (α × γ)} (hP : P[v]? = some (some (.own (eL (eT2 ea eb) xs)))) : XSrc P (srcVp v) (.ok xs) (fun l => l) (e2 ea eb) (fun _ => frzVP v P (eL (eT2 ea eb) xs)) := fun S s => by
  have q := s.frzO hP
  refine ⟨(xs.map (e2 ea eb), frzV v S), ?_, rfl, q⟩
  unfold srcVp
  obtain ⟨x, hx, fx⟩ := q.2 v (.fz (eL (eT2 ea eb) xs)) (by unfold frzVP; rw [List.getElem?_set_self (by rw [List.length_map]; exact (List.getElem?_eq_some_iff.mp hP).1)])
  cases fx
  rw [hx]
  show (itP (xs.map (eT2 ea eb)) >>= fun l => Res.ok (l, frzV v S)) = _
  rw [itP_map]
  rfl
theorem xs_VpF (v : Nat) {ea : α → D} {eb : γ → D} {xs : List (α × γ)} (hP : P[v]? = some (some (.fz (eL (eT2 ea eb) xs)))) : XSrc P (srcVp v) (.ok xs) (fun l => l) (e2 ea eb) (fun _ => P) := fun S s => by
  refine ⟨(xs.map (e2 ea eb), frzV v S), ?_, rfl, by rw [frzV_fz s hP]; exact s⟩
  unfold srcVp
  rw [frzV_fz s hP]
  obtain ⟨x, hx, fx⟩ := s.2 v _ hP
  cases fx
  rw [hx]
  show (itP (xs.map (eT2 ea eb)) >>= fun l => Res.ok (l, S)) = _
  rw [itP_map]
  rfl
theorem xs_PF (v : Nat) {xss : List (List α)} {fk : En → Res D} {tk : Res Int} (hP : P[v]? = some (some (.fz (eL (eL e) xss)))) (hf : XE (enP P) eI fk tk) : XSrc P (srcP v fk) (tk >>= fun kk => pAt xss kk) (fun l => l) e (fun _ => P) := fun S s => by
  unfold srcP
  rw [frzV_fz s hP]
  obtain ⟨x, hx, fx⟩ := s.2 v _ hP
  cases fx
  rw [hx]
  show LeG _ _ (fk (en S) >>= _)
  refine (hf _ s.en).g.bind fun n d hd => ?_
  subst hd
  show LeG _ (pAt xss n) (match atI (xss.map (eL e)) n with
    | some d => itD d >>= fun l => Res.ok (l, S)
    | _ => .stuck)
  unfold pAt
  rw [atI_map]
  cases r : atI xss n with
  | none => trivial
  | some l => exact ⟨_, rfl, rfl, s⟩
theorem xs_PO (v : Nat) {xss : List (List α)} {fk : En → Res D} {tk : Res Int} (hP : P[v]? = some (some (.own (eL (eL e) xss)))) (hf : XE (enP P) eI fk tk) : XSrc P (srcP v fk) (tk >>= fun kk => pAt xss kk) (fun l => l) e (fun _ => frzVP v P (eL (eL e) xss)) := fun S s => by
  have q := s.frzO hP
  unfold srcP
  obtain ⟨x, hx, fx⟩ := q.2 v (.fz (eL (eL e) xss)) (by unfold frzVP; rw [List.getElem?_set_self (by rw [List.length_map]; exact (List.getElem?_eq_some_iff.mp hP).1)])
  cases fx
  rw [hx]
  show LeG _ _ (fk (en S) >>= _)
  refine (hf _ s.en).g.bind fun n d hd => ?_
  subst hd
  show LeG _ (pAt xss n) (match atI (xss.map (eL e)) n with
    | some d => itD d >>= fun l => Res.ok (l, frzV v S)
    | _ => .stuck)
  unfold pAt
  rw [atI_map]
  cases r : atI xss n with
  | none => trivial
  | some l => exact ⟨_, rfl, rfl, q⟩
theorem xs_ZFF (v u : Nat) {ea : α → D} {eb : γ → D} {xs : List α} {ys : List γ} (hv : P[v]? = some (some (.fz (eL ea xs)))) (hu : P[u]? = some (some (.fz (eL eb ys)))) : XSrc P (srcZ v u) (.ok (xs.zip ys)) (fun l => l) (e2 ea eb) (fun _ => P) := fun S s => by
  unfold srcZ
  rw [frzV_fz s hv, frzV_fz s hu]
  obtain ⟨x, hx, fx⟩ := s.2 v _ hv
  obtain ⟨y, hy, fy⟩ := s.2 u _ hu
  cases fx
  cases fy
  rw [hx, hy]
  exact ⟨_, rfl, zip_e ea eb xs ys, s⟩
/-! ### while -/
def pWh (c : τ → Res Bool) (b : τ → Res (Ct τ ρ)) : Nat → τ → Res (Ct τ ρ)
  | 0, _ => .stuck
  | n + 1, s => c s >>= fun t => if t = true then b s >>= fun r => match r with
    | .nx s' => pWh c b n s'
    | .bk s' => .ok (.nx s')
    | .rt r => .ok (.rt r) else .ok (.nx s)
open Classical in
noncomputable def pWhile (c : τ → Res Bool) (b : τ → Res (Ct τ ρ)) (s : τ) : Res (Ct τ ρ) :=
  if h : ∃ n, pWh c b n s ≠ .stuck then pWh c b (Classical.choose h) s else .stuck
theorem wh_le {c : En → Res Bool} {N : τ → PP} {RR : ρ → D → List Slot → Prop} {tc : τ → Res Bool} {b : τ → Res (Ct τ ρ)} (hc : ∀ s, XT (enP (N s)) c (tc s)) (hb : ∀ s, XB (N s) f (RC N RR) (b s)) : ∀ (n : Nat) (s : τ) (S : List Slot), Fits S (N s) → LeG (RC' N RR) (pWh tc b n s) (whS c f n S)
  | 0, _, _, _ => trivial
  | n + 1, s, S, hs => by
    unfold pWh whS
    refine (hc s _ hs.en).g.bind fun w b' e => ?_
    subst e
    cases b' with
    | false => exact ⟨_, rfl, S, rfl, hs⟩
    | true =>
      rw [if_pos rfl, if_pos rfl]
      refine (hb s S hs).bind fun r fl hfl => ?_
      cases r with
      | nx s' =>
        obtain ⟨S', hfl, hs'⟩ := hfl
        rcases hfl with rfl | rfl
        · exact wh_le hc hb n s' S' hs'
        · exact wh_le hc hb n s' S' hs'
      | bk s' =>
        obtain ⟨S', rfl, hs'⟩ := hfl
        exact ⟨_, rfl, S', rfl, hs'⟩
      | rt r =>
        obtain ⟨d, S', rfl, hs'⟩ := hfl
        exact ⟨_, rfl, d, S', rfl, hs'⟩
theorem xb_while {c : En → Res Bool} {tc : τ → Res Bool} {body : τ → Res (Ct τ ρ)} {k : τ → Res ω} {kr : ρ → Res ω} (N : τ → PP) (RR : ρ → D → List Slot → Prop) (s0 : τ) (hw : Wk' P (N s0)) (hc : ∀ s, XT (enP (N s)) c (tc s)) (hb : ∀ s, XB (N s) f (RC N RR) (body s))
    (hr : ∀ r d S, RR r d S → LeG R (kr r) (.ok (.rt d S))) (hk : ∀ s, XB (N s) g R (k s)) :
    XB P (bSeq (sWhile c f) g) R (pWhile tc body s0 >>= fun c => ctk c k kr) := fun S s => by
  have e0 : sWhile c f S = (sWhile c f S >>= fun r => Res.ok r) := by cases sWhile c f S <;> rfl
  rw [bSeq_bind (f := sWhile c f) (r := sWhile c f S) (K := fun r => Res.ok r) e0]
  have q : LeG (RC' N RR) (pWhile tc body s0) (sWhile c f S) := by
    unfold pWhile
    by_cases z : ∃ n, pWh tc body n s0 ≠ .stuck
    · rw [dif_pos z]
      have hz := Classical.choose_spec z
      have q := wh_le hc hb (Classical.choose z) s0 S (hw.wk S s)
      have ns : whS c f (Classical.choose z) S ≠ .stuck := fun y => by
        rw [y] at q
        cases r : pWh tc body (Classical.choose z) s0 with
        | ok w => rw [r] at q; obtain ⟨b, e, _⟩ := q; cases e
        | exc x => rw [r] at q; cases q
        | stuck => exact hz r
      rw [sWhile_is ns]
      exact q
    · rw [dif_neg z]
      trivial
  refine q.bind fun c fl hc => ?_
  cases c with
  | nx s' =>
    obtain ⟨S', e, hs'⟩ := hc
    subst e
    exact hk s' S' hs'
  | bk s' => exact hc.elim
  | rt r =>
    obtain ⟨d, S', e, hs'⟩ := hc
    subst e
    exact hr r d S' hs'
theorem pWh_more {c : τ → Res Bool} {b : τ → Res (Ct τ ρ)} : ∀ (n : Nat) (s : τ), pWh c b n s ≠ .stuck → pWh c b (n + 1) s = pWh c b n s
  | 0, s, h => absurd rfl h
  | n + 1, s, h => by
    unfold pWh at h
    rw [pWh, pWh]
    cases q : c s with
    | stuck => rfl
    | exc e => rfl
    | ok t =>
      rw [q] at h
      cases t with
      | false => rfl
      | true =>
        show (b s >>= _) = (b s >>= _)
        have h' : (b s >>= fun r => match r with
          | .nx s' => pWh c b n s'
          | .bk s' => .ok (.nx s')
          | .rt r => .ok (.rt r)) ≠ Res.stuck := h
        cases q2 : b s with
        | stuck => rfl
        | exc e => rfl
        | ok r =>
          rw [q2] at h'
          cases r with
          | rt d => rfl
          | bk S' => rfl
          | nx s' => exact pWh_more n s' h'
theorem pWh_le {c : τ → Res Bool} {b : τ → Res (Ct τ ρ)} {n m : Nat} {s : τ} (h : pWh c b n s ≠ .stuck) (hm : n ≤ m) : pWh c b m s = pWh c b n s := by
  induction m with
  | zero => rw [show n = 0 by omega]
  | succ m ih =>
    by_cases e : n = m + 1
    · rw [e]
    · have q := ih (by omega)
      rw [pWh_more m s (by rw [q]; exact h), q]
theorem pWhile_is {c : τ → Res Bool} {b : τ → Res (Ct τ ρ)} {n : Nat} {s : τ} (h : pWh c b n s ≠ .stuck) : pWhile c b s = pWh c b n s := by
  unfold pWhile
  have hx : ∃ n, pWh c b n s ≠ .stuck := ⟨n, h⟩
  rw [dif_pos hx]
  have h2 := Classical.choose_spec hx
  rcases Nat.le_total n (Classical.choose hx) with z | z
  · exact pWh_le h z
  · exact (pWh_le h2 z).symm
theorem pWhile_at {c : τ → Res Bool} {b : τ → Res (Ct τ ρ)} {n : Nat} {s : τ} {r : Ct τ ρ} (h : pWh c b n s = .ok r) : pWhile c b s = .ok r := by
  rw [pWhile_is (n := n) (by rw [h]; intro z; cases z), h]
/-- what holds of how a body ends: on (I), out or told (Q) -/
def CtP (I : τ → Prop) (Q : Ct τ ρ → Prop) : Ct τ ρ → Prop
  | .nx s => I s
  | .bk s => Q (.nx s)
  | .rt r => Q (.rt r)
/-- the loop's end by a measure -/
theorem pWh_inv {c : τ → Res Bool} {b : τ → Res (Ct τ ρ)} (I : τ → Prop) (Q : Ct τ ρ → Prop) (m : τ → Nat) (h : ∀ s, I s → ∃ t, c s = .ok t ∧ (t = false → Q (.nx s)) ∧ (t = true → ∃ r, b s = .ok r ∧ CtP (fun s' => I s' ∧ m s' < m s) Q r)) : ∀ (n : Nat) (s : τ), I s → m s < n → ∃ r, pWh c b n s = .ok r ∧ Q r
  | 0, s, _, hn => absurd hn (Nat.not_lt_zero _)
  | n + 1, s, hs, hn => by
    obtain ⟨t, hc, h1, h2⟩ := h s hs
    unfold pWh
    rw [hc]
    cases t with
    | false => exact ⟨_, rfl, h1 rfl⟩
    | true =>
      obtain ⟨r, hb, hr⟩ := h2 rfl
      show ∃ r, (b s >>= _) = _ ∧ _
      rw [hb]
      cases r with
      | nx s' => exact pWh_inv I Q m h n s' hr.1 (by have := hr.2; omega)
      | bk s' => exact ⟨_, rfl, hr⟩
      | rt r => exact ⟨_, rfl, hr⟩
theorem pWhile_inv {c : τ → Res Bool} {b : τ → Res (Ct τ ρ)} (I : τ → Prop) (Q : Ct τ ρ → Prop) (m : τ → Nat) {s : τ} (hs : I s) (h : ∀ s, I s → ∃ t, c s = .ok t ∧ (t = false → Q (.nx s)) ∧ (t = true → ∃ r, b s = .ok r ∧ CtP (fun s' => I s' ∧ m s' < m s) Q r)) : ∃ r, pWhile c b s = .ok r ∧ Q r := by
  obtain ⟨r, e, q⟩ := pWh_inv I Q m h (m s + 1) s hs (Nat.lt_succ_self _)
  exact ⟨r, pWhile_at e, q⟩
/-- loops over lists by what holds behind k items -/
theorem pFor_inv {b : τ → α → Res τ} (I : Nat → τ → Prop) : ∀ (l : List α) (s : τ), I 0 s → (∀ (k : Nat) (a : α) (s : τ), l[k]? = some a → I k s → ∃ s', b s a = .ok s' ∧ I (k + 1) s') → ∃ s', pFor b l s = .ok s' ∧ I l.length s'
  | [], s, h0, _ => ⟨s, rfl, h0⟩
  | a :: l, s, h0, h => by
    obtain ⟨s1, e1, i1⟩ := h 0 a s rfl h0
    obtain ⟨s2, e2, i2⟩ := pFor_inv (fun k => I (k + 1)) l s1 i1 fun k a s hk hi => h (k + 1) a s hk hi
    exact ⟨s2, by unfold pFor; rw [e1]; exact e2, i2⟩
theorem pForC_inv {b : τ → α → Res (Ct τ ρ)} (I : Nat → τ → Prop) (Q : Ct τ ρ → Prop) : ∀ (l : List α) (s : τ), I 0 s → (∀ (k : Nat) (a : α) (s : τ), l[k]? = some a → I k s → ∃ r, b s a = .ok r ∧ CtP (I (k + 1)) Q r) → (∀ s, I l.length s → Q (.nx s)) → ∃ r, pForC b l s = .ok r ∧ Q r
  | [], s, h0, _, hq => ⟨_, rfl, hq s h0⟩
  | a :: l, s, h0, h, hq => by
    obtain ⟨r, e1, i1⟩ := h 0 a s rfl h0
    unfold pForC
    rw [e1]
    cases r with
    | nx s1 => exact pForC_inv (fun k => I (k + 1)) Q l s1 i1 (fun k a s hk hi => h (k + 1) a s hk hi) hq
    | bk s1 => exact ⟨_, rfl, i1⟩
    | rt r => exact ⟨_, rfl, i1⟩

/-! ### changes in place -/
def putP (keep : Bool) (P : PP) (i : Nat) (q : Option PS) : PP := if keep = true then P.set i q else setP P i q
def pUpd (xss : List α) (kk : Int) (u : α → Res α) : Res (List α) := ofO (ixN xss.length kk) >>= fun j => ofO xss[j]? >>= fun l => u l >>= fun l' => .ok (xss.set j l')
def pUpdN (xss : List α) (j : Nat) (u : α → Res α) : Res (List α) := ofO xss[j]? >>= fun l => u l >>= fun l' => .ok (xss.set j l')
def isLst : D → Bool
  | .lst _ => true
  | _ => false
theorem xb_methT (i : Nat) {xs : List α} {fs : En → Res (List D)} {op : MOp} {tx : Res (List α)} {k : List α → Res ω} (keep : Bool) (hP : P[i]? = some (some (.own (eL e xs)))) (ha : XG (enP P) fs (fun es => ofO (op (eL e xs) es)) (fun xs' r => r = (eL e xs', keep)) tx) (hk : ∀ xs', XB (putP keep P i (some (.own (eL e xs')))) g R (k xs')) :
    XB P (bSeq (sMeth (locV i) fs op) g) R (tx >>= k) := fun S s => by
  obtain ⟨x, hx, fx⟩ := s.2 i _ hP
  cases fx
  have e1 : sMeth (locV i) fs op S = ((fs (en S) >>= fun es => ofO (op (eL e xs) es)) >>= fun r => .ok (.nx (putL r.2 S r.1 (.top i)))) := by
    unfold sMeth locV
    rw [hx]
    show (match getL S (.top i) with
      | some (.lst ds) => fs (en S) >>= fun es => (match op (.lst ds) es with
        | some (d', keep) => Res.ok (Fl.nx (putL keep S d' (.top i)))
        | none => .stuck)
      | _ => .stuck) = _
    have : getL S (.top i) = some (eL e xs) := by
      show (match S[i]? with
        | some (.own d) => some d
        | _ => none) = _
      rw [hx]
    rw [this]
    show (fs (en S) >>= fun es => (match op (eL e xs) es with
        | some (d', keep) => Res.ok (Fl.nx (putL keep S d' (.top i)))
        | none => .stuck)) = _
    cases fs (en S) with
    | stuck => rfl
    | exc x => rfl
    | ok es =>
      show (match op (eL e xs) es with
        | some (d', keep) => Res.ok (Fl.nx (putL keep S d' (.top i)))
        | none => .stuck) = (ofO (op (eL e xs) es) >>= fun r => Res.ok (.nx (putL r.2 S r.1 (.top i))))
      cases op (eL e xs) es with
      | none => rfl
      | some p => rfl
  rw [bSeq_bind e1]
  refine (ha _ s.en).bind fun xs' r hr => ?_
  subst hr
  refine hk xs' _ ?_
  show Fits (if keep = true then S.set i (.own (eL e xs')) else setS S i (.own (eL e xs'))) (putP keep P i _)
  unfold putP
  cases keep with
  | true => exact s.put i fun p e => by cases e; rfl
  | false => exact s.set i rfl
theorem ixN_lt {n : Nat} {k : Int} {j : Nat} (h : ixN n k = some j) : j < n := by
  unfold ixN at h
  split at h
  · split at h
    · cases h; omega
    · cases h
  · split at h
    · cases h; omega
    · cases h
theorem xb_methI {loc : List Slot → Res Lc} (i : Nat) {xss : List (List α)} {fs : En → Res (List D)} {op : MOp} {tj : Res Nat} {tu : List α → Res (List α)} {k : List (List α) → Res ω} (hP : P[i]? = some (some (.own (eL (eL e) xss)))) (hl : ∀ S, Fits S P → LeG (fun j l => l = Lc.it i j) tj (loc S))
    (ha : ∀ l, XG (enP P) fs (fun es => ofO (op (eL e l) es)) (fun l' r => r.1 = eL e l') (tu l)) (hk : ∀ xss', XB (P.set i (some (.own (eL (eL e) xss')))) g R (k xss')) :
    XB P (bSeq (sMeth loc fs op) g) R ((tj >>= fun j => pUpdN xss j tu) >>= k) := fun S s => by
  obtain ⟨x, hx, fx⟩ := s.2 i _ hP
  cases fx
  have e0 : sMeth loc fs op S = (loc S >>= fun lc => (match getL S lc with
      | some (.lst ds) => fs (en S) >>= fun es => (match op (.lst ds) es with
        | some (d', keep) => Res.ok (Fl.nx (putL keep S d' lc))
        | none => .stuck)
      | _ => .stuck)) := rfl
  rw [bSeq_bind e0]
  have : ((tj >>= fun j => pUpdN xss j tu) >>= k) = (tj >>= fun j => pUpdN xss j tu >>= k) := by cases tj <;> rfl
  rw [this]
  refine (hl S s).bind fun j lc hlc => ?_
  subst hlc
  unfold pUpdN
  cases r : xss[j]? with
  | none => trivial
  | some l =>
    have hg : getL S (.it i j) = some (eL e l) := by
      show (match S[i]? with
        | some (.own (.lst ds)) => ds[j]?
        | _ => none) = _
      rw [hx]
      show (xss.map (eL e))[j]? = _
      rw [List.getElem?_map, r]
      rfl
    show LeG R ((tu l >>= fun l' => Res.ok (xss.set j l')) >>= k) _
    rw [hg]
    show LeG R _ ((fs (en S) >>= fun es => (match op (eL e l) es with
        | some (d', keep) => Res.ok (Fl.nx (putL keep S d' (.it i j)))
        | none => .stuck)) >>= _)
    have e1 : (fs (en S) >>= fun es => (match op (eL e l) es with
        | some (d', keep) => Res.ok (Fl.nx (putL keep S d' (.it i j)))
        | none => .stuck)) = ((fs (en S) >>= fun es => ofO (op (eL e l) es)) >>= fun r => Res.ok (Fl.nx (putL r.2 S r.1 (.it i j)))) := by
      cases fs (en S) with
      | stuck => rfl
      | exc x => rfl
      | ok es =>
        show (match op (eL e l) es with
          | some (d', keep) => Res.ok (Fl.nx (putL keep S d' (.it i j)))
          | none => .stuck) = (ofO (op (eL e l) es) >>= fun r => Res.ok (Fl.nx (putL r.2 S r.1 (.it i j))))
        cases op (eL e l) es with
        | none => rfl
        | some p => rfl
    rw [e1]
    have q := ha l _ s.en
    cases u : tu l with
    | stuck => trivial
    | exc x => rw [u] at q; rw [show (fs (en S) >>= _) = _ from q]; rfl
    | ok l' =>
      rw [u] at q
      obtain ⟨p, hp, hp2⟩ := q
      rw [hp]
      refine hk _ _ ?_
      have : putL p.2 S p.1 (.it i j) = S.set i (.own (eL (eL e) (xss.set j l'))) := by
        show (match S[i]? with
          | some (.own (.lst ds)) => S.set i (.own (.lst (ds.set j p.1)))
          | _ => S) = _
        rw [hx, hp2]
        show S.set i (.own (.lst ((xss.map (eL e)).set j (eL e l')))) = S.set i (.own (.lst ((xss.set j l').map (eL e))))
        rw [List.map_set]
      show Fits (putL p.2 S p.1 (.it i j)) _
      rw [this]
      exact s.put i fun p e => by cases e; rfl
theorem xl_P (i : Nat) {xss : List (List α)} {fk : En → Res D} {tk : Res Int} (hP : P[i]? = some (some (.own (eL (eL e) xss)))) (hf : XE (enP P) eI fk tk) : ∀ S, Fits S P → LeG (fun j l => l = Lc.it i j) (tk >>= fun kk => pIxN xss.length kk) (locP i fk S) := fun S s => by
  obtain ⟨x, hx, fx⟩ := s.2 i _ hP
  cases fx
  unfold locP
  rw [hx]
  show LeG _ _ (fk (en S) >>= _)
  refine (hf _ s.en).g.bind fun n d hd => ?_
  subst hd
  show LeG _ (pIxN xss.length n) (match ixN (xss.map (eL e)).length n with
    | some j => Res.ok (Lc.it i j)
    | none => .stuck)
  rw [List.length_map]
  unfold pIxN
  cases ixN xss.length n with
  | none => trivial
  | some j => exact ⟨_, rfl, rfl⟩
/-- the same for things that are no lists of lists -/
theorem xl_PG {e : α → D} (i : Nat) {xss : List α} {fk : En → Res D} {tk : Res Int} (hP : P[i]? = some (some (.own (eL e xss)))) (hf : XE (enP P) eI fk tk) : ∀ S, Fits S P → LeG (fun j l => l = Lc.it i j) (tk >>= fun kk => pIxN xss.length kk) (locP i fk S) := fun S s => by
  obtain ⟨x, hx, fx⟩ := s.2 i _ hP
  cases fx
  unfold locP
  rw [hx]
  show LeG _ _ (fk (en S) >>= _)
  refine (hf _ s.en).g.bind fun n d hd => ?_
  subst hd
  show LeG _ (pIxN xss.length n) (match ixN (xss.map e).length n with
    | some j => Res.ok (Lc.it i j)
    | none => .stuck)
  rw [List.length_map]
  unfold pIxN
  cases ixN xss.length n with
  | none => trivial
  | some j => exact ⟨_, rfl, rfl⟩
theorem xl_A (v i j : Nat) (hP : P[v]? = some (some (.ali i j))) : ∀ S, Fits S P → LeG (fun j l => l = Lc.it i j) (.ok j) (locV v S) := fun S s => by
  obtain ⟨x, hx, fx⟩ := s.2 v _ hP
  cases fx
  unfold locV
  rw [hx]
  exact ⟨_, rfl, rfl⟩
/-! the methods -/
def pApp (l : List α) (a : α) : Res (List α) := if szOk (l.length + 1) = true then .ok (l ++ [a]) else .stuck
def pIns (l : List α) (i : Int) (a : α) : Res (List α) := if (szOk (l.length + 1) && decide (0 ≤ i) && decide (i < 2 ^ 63)) = true then .ok (l.take i.toNat ++ [a] ++ l.drop i.toNat) else .stuck
def pRem (l : List Int) (x : Int) : Res (List Int) := if x ∈ l then .ok (l.erase x) else .stuck
theorem lm_app (l : List α) (a : α) : LeG (fun l' r => r = (eL e l', true)) (pApp l a) (ofO (opApp (eL e l) [e a])) := by
  unfold pApp
  by_cases z : szOk (l.length + 1) = true
  · rw [if_pos z]
    refine ⟨(eL e (l ++ [a]), true), ?_, rfl⟩
    show ofO (if szOk ((l.map e).length + 1) = true then some (D.lst (l.map e ++ [e a]), true) else none) = _
    rw [List.length_map, if_pos z]
    unfold eL
    rw [List.map_append]
    rfl
  · rw [if_neg z]
    trivial
theorem lm_ins (l : List α) (i : Int) (a : α) : LeG (fun l' r => r = (eL e l', false)) (pIns l i a) (ofO (opIns (eL e l) [eI i, e a])) := by
  unfold pIns
  by_cases z : (szOk (l.length + 1) && decide (0 ≤ i) && decide (i < 2 ^ 63)) = true
  · rw [if_pos z]
    refine ⟨(eL e (l.take i.toNat ++ [a] ++ l.drop i.toNat), false), ?_, rfl⟩
    show ofO (if (szOk ((l.map e).length + 1) && decide (0 ≤ i) && decide (i < 2 ^ 63)) = true then some (D.lst ((l.map e).take i.toNat ++ [e a] ++ (l.map e).drop i.toNat), false) else none) = _
    rw [List.length_map, if_pos z]
    unfold eL
    rw [List.map_append, List.map_append, List.map_take, List.map_drop]
    rfl
  · rw [if_neg z]
    trivial
theorem lm_rem (l : List Int) (x : Int) : LeG (fun l' r => r = (eL eI l', false)) (pRem l x) (ofO (opRem (eL eI l) [eI x])) := by
  unfold pRem
  by_cases z : x ∈ l
  · rw [if_pos z]
    refine ⟨(eL eI (l.erase x), false), ?_, rfl⟩
    show ofO (match intsOf (l.map eI) with
      | some ns => if x ∈ ns then some (D.lst ((ns.erase x).map D.int), false) else none
      | none => none) = _
    rw [ints_e]
    show ofO (if x ∈ l then some (D.lst ((l.erase x).map D.int), false) else none) = _
    rw [if_pos z]
    rfl
  · rw [if_neg z]
    trivial
theorem lm_rev (l : List α) : LeG (fun l' r => r = (eL e l', false)) (.ok l.reverse) (ofO (opRev (eL e l) [])) := by
  refine ⟨(eL e l.reverse, false), ?_, rfl⟩
  show ofO (some (D.lst (l.map e).reverse, false)) = _
  unfold eL
  rw [List.map_reverse]
  rfl
theorem lm_clr (l : List α) : LeG (fun l' r => r = (eL e l', false)) (.ok []) (ofO (opClr (eL e l) [])) := ⟨(eL e [], false), rfl, rfl⟩
theorem LeG.fst {keep : Bool} {tx : Res (List α)} {r : Res (D × Bool)} (h : LeG (fun l' r => r = (eL e l', keep)) tx r) : LeG (fun l' r => r.1 = eL e l') tx r := h.imp fun w b hb => by rw [hb]
/-! x[i] = a -/
def pSetAt (l : List α) (kk : Int) (a : α) : Res (List α) := ofO (ixN l.length kk) >>= fun j => .ok (l.set j a)
theorem xb_setAtT (i : Nat) {xs : List α} {fk : En → Res D} {tk : Res Int} {k : List α → Res ω} (hP : P[i]? = some (some (.own (eL e xs)))) (he : XE (enP P) e fe ta) (hf : XE (enP P) eI fk tk) (hk : ∀ xs', XB (setP P i (some (.own (eL e xs')))) g R (k xs')) :
    XB P (bSeq (sSetAt (locV i) fe fk) g) R ((ta >>= fun a => tk >>= fun kk => pSetAt xs kk a) >>= k) := fun S s => by
  obtain ⟨x, hx, fx⟩ := s.2 i _ hP
  cases fx
  have hg : getL S (.top i) = some (eL e xs) := by
    show (match S[i]? with
      | some (.own d) => some d
      | _ => none) = _
    rw [hx]
  have e1 : sSetAt (locV i) fe fk S = (fe (en S) >>= fun d => fk (en S) >>= fun kd => match kd with
      | .int kk => (match ixN (xs.map e).length kk with
        | some j => Res.ok (Fl.nx (setS S i (.own (.lst ((xs.map e).set j d)))))
        | none => .stuck)
      | _ => .stuck) := by
    unfold sSetAt locV
    rw [hx]
    show (fe (en S) >>= fun d => (match getL S (.top i) with
      | some (.lst ds) => fk (en S) >>= fun k => (match k with
        | .int k => (match ixN ds.length k with
          | some j => Res.ok (Fl.nx (putL false S (.lst (ds.set j d)) (.top i)))
          | none => .stuck)
        | _ => .stuck)
      | _ => .stuck)) = _
    rw [hg]
    rfl
  rw [bSeq_bind e1]
  have : ((ta >>= fun a => tk >>= fun kk => pSetAt xs kk a) >>= k) = (ta >>= fun a => (tk >>= fun kk => pSetAt xs kk a) >>= k) := by cases ta <;> rfl
  rw [this]
  refine (he _ s.en).g.bind fun a d hd => ?_
  subst hd
  have q := hf _ s.en
  cases tk with
  | stuck => trivial
  | exc x => rw [show fk _ = _ from q]; rfl
  | ok kk =>
    rw [show fk _ = _ from q]
    show LeG R (pSetAt xs kk a >>= k) ((match ixN (xs.map e).length kk with
        | some j => Res.ok (Fl.nx (setS S i (.own (.lst ((xs.map e).set j (e a))))))
        | none => .stuck) >>= _)
    rw [List.length_map]
    unfold pSetAt
    cases r : ixN xs.length kk with
    | none => trivial
    | some j =>
      refine hk (xs.set j a) _ ?_
      have : D.lst ((xs.map e).set j (e a)) = eL e (xs.set j a) := by unfold eL; rw [List.map_set]
      show Fits (setS S i (.own (.lst ((xs.map e).set j (e a))))) _
      rw [this]
      exact s.set i rfl
theorem xb_setAtI {loc : List Slot → Res Lc} (i : Nat) {xss : List (List α)} {fk : En → Res D} {tj : Res Nat} {tk : Res Int} {k : List (List α) → Res ω} (hP : P[i]? = some (some (.own (eL (eL e) xss)))) (hl : ∀ S, Fits S P → LeG (fun j l => l = Lc.it i j) tj (loc S)) (he : XE (enP P) e fe ta) (hf : XE (enP P) eI fk tk) (hk : ∀ xss', XB (P.set i (some (.own (eL (eL e) xss')))) g R (k xss')) :
    XB P (bSeq (sSetAt loc fe fk) g) R ((ta >>= fun a => tj >>= fun j => pUpdN xss j fun l => tk >>= fun kk => pSetAt l kk a) >>= k) := fun S s => by
  obtain ⟨x, hx, fx⟩ := s.2 i _ hP
  cases fx
  have e1 : sSetAt loc fe fk S = (fe (en S) >>= fun d => loc S >>= fun lc => (match getL S lc with
      | some (.lst ds) => fk (en S) >>= fun k => (match k with
        | .int k => (match ixN ds.length k with
          | some j => Res.ok (Fl.nx (putL false S (.lst (ds.set j d)) lc))
          | none => .stuck)
        | _ => .stuck)
      | _ => .stuck)) := rfl
  rw [bSeq_bind e1]
  have : ((ta >>= fun a => tj >>= fun j => pUpdN xss j fun l => tk >>= fun kk => pSetAt l kk a) >>= k) = (ta >>= fun a => (tj >>= fun j => pUpdN xss j fun l => tk >>= fun kk => pSetAt l kk a) >>= k) := by cases ta <;> rfl
  rw [this]
  refine (he _ s.en).g.bind fun a d hd => ?_
  subst hd
  have q1 := hl S s
  cases tj with
  | stuck => trivial
  | exc x => rw [show loc S = _ from q1]; rfl
  | ok j =>
    obtain ⟨lc, hlc, hlc2⟩ := q1
    subst hlc2
    rw [hlc]
    show LeG R ((pUpdN xss j fun l => tk >>= fun kk => pSetAt l kk a) >>= k) _
    unfold pUpdN
    cases r : xss[j]? with
    | none => trivial
    | some l =>
      have hg : getL S (.it i j) = some (eL e l) := by
        show (match S[i]? with
          | some (.own (.lst ds)) => ds[j]?
          | _ => none) = _
        rw [hx]
        show (xss.map (eL e))[j]? = _
        rw [List.getElem?_map, r]
        rfl
      show LeG R (((tk >>= fun kk => pSetAt l kk a) >>= fun l' => Res.ok (xss.set j l')) >>= k) ((match getL S (.it i j) with
        | some (.lst ds) => fk (en S) >>= fun k => (match k with
          | .int k => (match ixN ds.length k with
            | some j' => Res.ok (Fl.nx (putL false S (.lst (ds.set j' (e a))) (.it i j)))
            | none => .stuck)
          | _ => .stuck)
        | _ => .stuck) >>= _)
      rw [hg]
      show LeG R _ ((fk (en S) >>= fun k => (match k with
          | .int k => (match ixN (l.map e).length k with
            | some j' => Res.ok (Fl.nx (putL false S (.lst ((l.map e).set j' (e a))) (.it i j)))
            | none => .stuck)
          | _ => .stuck)) >>= _)
      have q := hf _ s.en
      cases tk with
      | stuck => trivial
      | exc x => rw [show fk _ = _ from q]; rfl
      | ok kk =>
        rw [show fk _ = _ from q]
        show LeG R ((pSetAt l kk a >>= fun l' => Res.ok (xss.set j l')) >>= k) ((match ixN (l.map e).length kk with
            | some j' => Res.ok (Fl.nx (putL false S (.lst ((l.map e).set j' (e a))) (.it i j)))
            | none => .stuck) >>= _)
        rw [List.length_map]
        unfold pSetAt
        cases r2 : ixN l.length kk with
        | none => trivial
        | some j' =>
          refine hk _ _ ?_
          have : putL false S (.lst ((l.map e).set j' (e a))) (.it i j) = S.set i (.own (eL (eL e) (xss.set j (l.set j' a)))) := by
            show (match S[i]? with
              | some (.own (.lst ds)) => S.set i (.own (.lst (ds.set j (.lst ((l.map e).set j' (e a))))))
              | _ => S) = _
            rw [hx]
            show S.set i (.own (.lst ((xss.map (eL e)).set j (.lst ((l.map e).set j' (e a)))))) = S.set i (.own (.lst ((xss.set j (l.set j' a)).map (eL e))))
            rw [List.map_set]
            unfold eL
            rw [List.map_set]
          show Fits (putL false S (.lst ((l.map e).set j' (e a))) (.it i j)) _
          rw [this]
          exact s.put i fun p e => by cases e; rfl
/-! ### expressions that change a name's thing -/
def XF (P : PP) (fx : List Slot → Res (D × List Slot)) (t : Res σ) (dv : σ → D) (P0 : σ → PP) : Prop := ∀ S, Fits S P → LeG (fun w r => r.1 = dv w ∧ Fits r.2 (P0 w)) t (fx S)
def pPop (l : List α) : Res (α × List α) := ofO (l[l.length - 1]?) >>= fun a => .ok (a, l.dropLast)
theorem xf_pop (i : Nat) {xs : List α} (hp : Pu e) (hP : P[i]? = some (some (.own (eL e xs)))) : XF P (xPop (locV i)) (pPop xs) (fun w => e w.1) (fun w => setP P i (some (.own (eL e w.2)))) := fun S s => by
  obtain ⟨x, hx, fx⟩ := s.2 i _ hP
  cases fx
  have hg : getL S (.top i) = some (eL e xs) := by
    show (match S[i]? with
      | some (.own d) => some d
      | _ => none) = _
    rw [hx]
  unfold xPop locV
  rw [hx]
  show LeG _ _ (match getL S (.top i) with
    | some (.lst ds) => (match ds[ds.length - 1]? with
      | some d => if pureD d = true then Res.ok (d, putL false S (.lst ds.dropLast) (.top i)) else .stuck
      | none => .stuck)
    | _ => .stuck)
  rw [hg]
  show LeG _ _ (match (xs.map e)[(xs.map e).length - 1]? with
      | some d => if pureD d = true then Res.ok (d, putL false S (.lst (xs.map e).dropLast) (.top i)) else .stuck
      | none => .stuck)
  rw [List.length_map, List.getElem?_map]
  unfold pPop
  cases r : xs[xs.length - 1]? with
  | none => trivial
  | some a =>
    refine ⟨(e a, setS S i (.own (eL e xs.dropLast))), ?_, rfl, s.set i rfl⟩
    show (if pureD (e a) = true then Res.ok (e a, putL false S (.lst (xs.map e).dropLast) (.top i)) else .stuck) = _
    rw [if_pos (hp a), ← List.map_dropLast]
    rfl
def pPopAt (l : List α) (kk : Int) : Res (α × List α) := ofO (ixN l.length kk) >>= fun j => ofO l[j]? >>= fun a => if szOk l.length = true then .ok (a, l.take j ++ l.drop (j + 1)) else .stuck
theorem xf_popAt (i : Nat) {xs : List α} {fk : En → Res D} {tk : Res Int} (hp : Pu e) (hP : P[i]? = some (some (.own (eL e xs)))) (hf : XE (enP P) eI fk tk) : XF P (xPopAt (locV i) fk) (tk >>= fun kk => pPopAt xs kk) (fun w => e w.1) (fun w => setP P i (some (.own (eL e w.2)))) := fun S s => by
  obtain ⟨x, hx, fx⟩ := s.2 i _ hP
  cases fx
  have hg : getL S (.top i) = some (eL e xs) := by
    show (match S[i]? with
      | some (.own d) => some d
      | _ => none) = _
    rw [hx]
  unfold xPopAt locV
  rw [hx]
  show LeG _ _ (match getL S (.top i) with
    | some (.lst ds) => fk (en S) >>= fun k => (match k with
      | .int k => (match ixN ds.length k with
        | some j => (match ds[j]? with
          | some d => if (pureD d && szOk ds.length) = true then Res.ok (d, putL false S (.lst (ds.take j ++ ds.drop (j + 1))) (.top i)) else .stuck
          | none => .stuck)
        | none => .stuck)
      | _ => .stuck)
    | _ => .stuck)
  rw [hg]
  show LeG _ _ (fk (en S) >>= _)
  refine (hf _ s.en).g.bind fun kk d hd => ?_
  subst hd
  show LeG _ (pPopAt xs kk) (match ixN (xs.map e).length kk with
        | some j => (match (xs.map e)[j]? with
          | some d => if (pureD d && szOk (xs.map e).length) = true then Res.ok (d, putL false S (.lst ((xs.map e).take j ++ (xs.map e).drop (j + 1))) (.top i)) else .stuck
          | none => .stuck)
        | none => .stuck)
  rw [List.length_map]
  unfold pPopAt
  cases r : ixN xs.length kk with
  | none => trivial
  | some j =>
    show LeG _ (ofO xs[j]? >>= fun a => if szOk xs.length = true then Res.ok (a, xs.take j ++ xs.drop (j + 1)) else .stuck) (match (xs.map e)[j]? with
          | some d => if (pureD d && szOk xs.length) = true then Res.ok (d, putL false S (.lst ((xs.map e).take j ++ (xs.map e).drop (j + 1))) (.top i)) else .stuck
          | none => .stuck)
    rw [List.getElem?_map]
    cases r2 : xs[j]? with
    | none => trivial
    | some a =>
      show LeG _ (if szOk xs.length = true then Res.ok (a, xs.take j ++ xs.drop (j + 1)) else .stuck) (if (pureD (e a) && szOk xs.length) = true then Res.ok (e a, putL false S (.lst ((xs.map e).take j ++ (xs.map e).drop (j + 1))) (.top i)) else .stuck)
      rw [hp a, Bool.true_and]
      by_cases z : szOk xs.length = true
      · rw [if_pos z, if_pos z]
        refine ⟨(e a, setS S i (.own (eL e (xs.take j ++ xs.drop (j + 1))))), ?_, rfl, s.set i rfl⟩
        rw [← List.map_take, ← List.map_drop, ← List.map_append]
        rfl
      · rw [if_neg z]
        trivial
theorem xf_callT {sem : List D → Res (D × D)} {m : Nat} {fs : En → Res (List D)} {em : μ → D} {er : ρ → D} {a0 : μ} {tw : Res (ρ × μ)} (i : Nat) (hP : P[i]? = some (some (.own (em a0)))) (ha : XG (enP (setP P i none)) fs (fun ds => noX (sem (ds.insertIdx m (em a0)))) (fun w r => r = (er w.1, em w.2)) tw) :
    XF P (xCallM m sem (locV i) fs) tw (fun w => er w.1) (fun w => setP P i (some (.own (em w.2)))) := fun S s => by
  obtain ⟨x, hx, fx⟩ := s.2 i _ hP
  cases fx
  have hg : getL S (.top i) = some (em a0) := by
    show (match S[i]? with
      | some (.own d) => some d
      | _ => none) = _
    rw [hx]
  unfold xCallM locV
  rw [hx]
  show LeG _ _ (match getL S (.top i) with
    | some d => fs (en (setS S i .un)) >>= fun ds => noX (sem (ds.insertIdx m d)) >>= fun r => Res.ok (r.1, putL false S r.2 (.top i))
    | none => .stuck)
  rw [hg]
  show LeG _ _ (fs (en (setS S i .un)) >>= fun ds => noX (sem (ds.insertIdx m (em a0))) >>= fun r => Res.ok (r.1, putL false S r.2 (.top i)))
  have q := ha _ (s.un i .un).en
  cases r : fs (en (setS S i .un)) with
  | stuck =>
    rw [r] at q
    cases tw with
    | stuck => trivial
    | ok w => obtain ⟨_, e, _⟩ := q; cases e
    | exc x => cases q
  | exc x =>
    rw [r] at q
    cases tw with
    | stuck => trivial
    | ok w => obtain ⟨_, e, _⟩ := q; cases e
    | exc y => have q' : (Res.exc x : Res (D × D)) = .exc y := q; cases q'; rfl
  | ok ds =>
    rw [r] at q
    have q' : LeG _ tw (noX (sem (ds.insertIdx m (em a0)))) := q
    have e0 : (tw >>= fun w => Res.ok w) = tw := by cases tw <;> rfl
    rw [← e0]
    exact q'.bind fun w p hp => by
      subst hp
      exact ⟨_, rfl, rfl, s.set i rfl⟩
theorem xf_callP {loc : List Slot → Res Lc} {sem : List D → Res (D × D)} {m : Nat} {fs : En → Res (List D)} {em : μ → D} {er : ρ → D} {xs : List μ} {tj : Res Nat} {tw : μ → Res (ρ × μ)} (i : Nat) (hP : P[i]? = some (some (.own (eL em xs)))) (hl : ∀ S, Fits S P → LeG (fun j l => l = Lc.it i j) tj (loc S)) (hx : ∀ x, tj ≠ .exc x) (ha : ∀ a, XG (enP (setP P i none)) fs (fun ds => noX (sem (ds.insertIdx m (em a)))) (fun w r => r = (er w.1, em w.2)) (tw a)) :
    XF P (xCallM m sem loc fs) (tj >>= fun j => ofO xs[j]? >>= fun a => tw a >>= fun w => .ok (w.1, xs.set j w.2)) (fun w => er w.1) (fun w => P.set i (some (.own (eL em w.2)))) := fun S s => by
  obtain ⟨x, hsx, fx⟩ := s.2 i _ hP
  cases fx
  unfold xCallM
  have q1 := hl S s
  cases tj with
  | stuck => trivial
  | exc x => exact absurd rfl (hx x)
  | ok j =>
    obtain ⟨lc, hlc, rfl⟩ := q1
    rw [hlc]
    show LeG _ (ofO xs[j]? >>= fun a => tw a >>= fun w => Res.ok (w.1, xs.set j w.2)) (match getL S (.it i j) with
      | some d => fs (en (setS S i .un)) >>= fun ds => noX (sem (ds.insertIdx m d)) >>= fun r => Res.ok (r.1, putL false S r.2 (.it i j))
      | none => .stuck)
    cases r : xs[j]? with
    | none => trivial
    | some a =>
      have hg : getL S (.it i j) = some (em a) := by
        show (match S[i]? with
          | some (.own (.lst ds)) => ds[j]?
          | _ => none) = _
        rw [hsx]
        show (xs.map em)[j]? = _
        rw [List.getElem?_map, r]
        rfl
      rw [hg]
      show LeG _ (tw a >>= fun w => Res.ok (w.1, xs.set j w.2)) (fs (en (setS S i .un)) >>= fun ds => noX (sem (ds.insertIdx m (em a))) >>= fun r => Res.ok (r.1, putL false S r.2 (.it i j)))
      have q := ha a _ (s.un i .un).en
      cases r2 : fs (en (setS S i .un)) with
      | stuck =>
        rw [r2] at q
        cases r3 : tw a with
        | stuck => trivial
        | ok w => rw [r3] at q; obtain ⟨_, e, _⟩ := q; cases e
        | exc x => rw [r3] at q; cases q
      | exc x =>
        rw [r2] at q
        cases r3 : tw a with
        | stuck => trivial
        | ok w => rw [r3] at q; obtain ⟨_, e, _⟩ := q; cases e
        | exc y => rw [r3] at q; have q' : (Res.exc x : Res (D × D)) = .exc y := q; cases q'; rfl
      | ok ds =>
        rw [r2] at q
        have q' : LeG _ (tw a) (noX (sem (ds.insertIdx m (em a)))) := q
        exact q'.bind fun w p hp => by
          subst hp
          refine ⟨_, rfl, rfl, ?_⟩
          have : putL false S (em w.2) (.it i j) = S.set i (.own (eL em (xs.set j w.2))) := by
            show (match S[i]? with
              | some (.own (.lst ds)) => S.set i (.own (.lst (ds.set j (em w.2))))
              | _ => S) = _
            rw [hsx]
            show S.set i (.own (.lst ((xs.map em).set j (em w.2)))) = S.set i (.own (.lst ((xs.set j w.2).map em)))
            rw [List.map_set]
          show Fits (putL false S (em w.2) (.it i j)) _
          rw [this]
          exact s.put i fun p e => by cases e; rfl
theorem xb_doE {fx : List Slot → Res (D × List Slot)} {ts : Res σ} {dv : σ → D} {P0 : σ → PP} {k : σ → Res ω} (hx : XF P fx ts dv P0) (hk : ∀ w, XB (P0 w) g R (k w)) : XB P (bSeq (sDoE fx) g) R (ts >>= k) := fun S s => by
  rw [bSeq_bind (f := sDoE fx) (r := fx S) (K := fun r => .ok (.nx r.2)) rfl]
  exact (hx S s).bind fun w r ⟨h1, h2⟩ => hk w r.2 h2
theorem xb_setE (i : Nat) {fx : List Slot → Res (D × List Slot)} {ts : Res σ} {dv : σ → D} {P0 : σ → PP} {k : σ → Res ω} (hx : XF P fx ts dv P0) (hk : ∀ w, XB (setP (P0 w) i (some (.fz (dv w)))) g R (k w)) : XB P (bSeq (sSetE i fx) g) R (ts >>= k) := fun S s => by
  rw [bSeq_bind (f := sSetE i fx) (r := fx S) (K := fun r => .ok (.nx (setS r.2 i (.fz r.1)))) rfl]
  exact (hx S s).bind fun w r ⟨h1, h2⟩ => hk w _ (by rw [h1]; exact h2.set i rfl)
/-- tests that change -/
def XU (P : PP) (fu : List Slot → Res (Bool × List Slot)) (t : Res σ) (bv : σ → Bool) (P0 : σ → PP) : Prop := ∀ S, Fits S P → LeG (fun w r => r.1 = bv w ∧ Fits r.2 (P0 w)) t (fu S)
theorem xu_Bl {fx : List Slot → Res (D × List Slot)} {ts : Res σ} {bv : σ → Bool} {P0 : σ → PP} (hx : XF P fx ts (fun w => .bl (bv w)) P0) : XU P (uBl fx) ts bv P0 := fun S s => by
  have q := hx S s
  unfold uBl
  have e0 : (ts >>= fun w => Res.ok w) = ts := by cases ts <;> rfl
  rw [← e0]
  exact q.bind fun w r ⟨h1, h2⟩ => by
    rw [h1]
    exact ⟨_, rfl, rfl, h2⟩
theorem xu_No {fu : List Slot → Res (Bool × List Slot)} {ts : Res σ} {bv : σ → Bool} {P0 : σ → PP} (hx : XU P fu ts bv P0) : XU P (uNo fu) ts (fun w => !bv w) P0 := fun S s => by
  have q := hx S s
  unfold uNo
  have e0 : (ts >>= fun w => Res.ok w) = ts := by cases ts <;> rfl
  rw [← e0]
  exact q.bind fun w r ⟨h1, h2⟩ => ⟨_, rfl, by rw [h1], h2⟩
theorem xu_Or {fu : List Slot → Res (Bool × List Slot)} {c : En → Res Bool} {ts : Res σ} {bv : σ → Bool} {P0 : σ → PP} {tc : σ → Res Bool} (hx : XU P fu ts bv P0) (hc : ∀ w, XT (enP (P0 w)) c (tc w)) : XU P (uOr fu c) (ts >>= fun w => if bv w = true then .ok (true, w) else noX (tc w) >>= fun b => .ok (b, w)) (fun p => p.1) (fun p => P0 p.2) := fun S s => by
  have q := hx S s
  unfold uOr
  exact q.bind fun w r ⟨h1, h2⟩ => by
    rw [h1]
    by_cases z : bv w = true
    · rw [if_pos z, if_pos z]
      exact ⟨_, rfl, rfl, h2⟩
    · rw [if_neg z, if_neg z]
      exact (hc w _ h2.en).g.noX.bind fun b b' e => by
        subst e
        exact ⟨_, rfl, rfl, h2⟩
theorem xb_ifE {fu : List Slot → Res (Bool × List Slot)} {ts : Res σ} {bv : σ → Bool} {P0 : σ → PP} {k1 k2 : σ → Res ω} (hx : XU P fu ts bv P0) (h1 : ∀ w, XB (P0 w) (bSeq f h) R (k1 w)) (h2 : ∀ w, XB (P0 w) (bSeq g h) R (k2 w)) : XB P (bSeq (sIfE fu f g) h) R (ts >>= fun w => if bv w = true then k1 w else k2 w) := fun S s => by
  rw [bSeq_bind (f := sIfE fu f g) (r := fu S) (K := fun r => if r.1 = true then f r.2 else g r.2) rfl]
  exact (hx S s).bind fun w r ⟨q1, q2⟩ => by
    rw [q1]
    by_cases z : bv w = true
    · rw [if_pos z, if_pos z]
      exact h1 w _ q2
    · rw [if_neg z, if_neg z]
      exact h2 w _ q2
/-! appended names and pops -/
theorem xb_appVO (i y : Nat) {xs : List α} {a : α} {k : List α → Res ω} (hiy : i ≠ y) (hP : P[i]? = some (some (.own (eL e xs)))) (hy : P[y]? = some (some (.own (e a)))) (hk : ∀ xs', XB ((setP P y none).set i (some (.own (eL e xs')))) g R (k xs')) : XB P (bSeq (sAppV (locV i) y) g) R (pApp xs a >>= k) := fun S s => by
  obtain ⟨x, hx, fx⟩ := s.2 i _ hP
  obtain ⟨x2, hx2, fx2⟩ := s.2 y _ hy
  cases fx
  cases fx2
  have hs : (setS S y .un)[i]? = some (.own (eL e xs)) := setS_ne hx (fun j z => by cases z) hiy
  have hg : getL (setS S y .un) (.top i) = some (eL e xs) := by
    show (match (setS S y .un)[i]? with
      | some (.own d) => some d
      | _ => none) = _
    rw [hs]
  unfold pApp
  by_cases z : szOk (xs.length + 1) = true
  · have e1 : sAppV (locV i) y S = .ok (.nx ((setS S y .un).set i (.own (eL e (xs ++ [a]))))) := by
      unfold sAppV locV
      rw [hx]
      show (match getL (setS S y .un) (.top i), S[y]? with
        | some (.lst ds), some (.own d) => if szOk (ds.length + 1) = true then Res.ok (Fl.nx (putL true (setS S y .un) (.lst (ds ++ [d])) (.top i))) else .stuck
        | some (.lst ds), some (.fz d) => if (pureD d && szOk (ds.length + 1)) = true then .ok (.nx (putL true S (.lst (ds ++ [d])) (.top i))) else .stuck
        | _, _ => .stuck) = _
      rw [hg, hx2]
      show (if szOk ((xs.map e).length + 1) = true then Res.ok (Fl.nx (putL true (setS S y .un) (.lst (xs.map e ++ [e a])) (.top i))) else .stuck) = _
      rw [List.length_map, if_pos z]
      unfold eL
      rw [List.map_append]
      rfl
    rw [if_pos z, seq_nx e1]
    exact hk _ _ ((s.un y .un).put i fun p e => by cases e; rfl)
  · rw [if_neg z]
    trivial
theorem xb_appVF (i y : Nat) {xs : List α} {a : α} {k : List α → Res ω} (hp : pureD (e a) = true) (hiy : i ≠ y) (hP : P[i]? = some (some (.own (eL e xs)))) (hy : P[y]? = some (some (.fz (e a)))) (hk : ∀ xs', XB (P.set i (some (.own (eL e xs')))) g R (k xs')) : XB P (bSeq (sAppV (locV i) y) g) R (pApp xs a >>= k) := fun S s => by
  obtain ⟨x, hx, fx⟩ := s.2 i _ hP
  obtain ⟨x2, hx2, fx2⟩ := s.2 y _ hy
  cases fx
  cases fx2
  have hs : (setS S y .un)[i]? = some (.own (eL e xs)) := setS_ne hx (fun j z => by cases z) hiy
  have hg : getL (setS S y .un) (.top i) = some (eL e xs) := by
    show (match (setS S y .un)[i]? with
      | some (.own d) => some d
      | _ => none) = _
    rw [hs]
  unfold pApp
  by_cases z : szOk (xs.length + 1) = true
  · have e1 : sAppV (locV i) y S = .ok (.nx (S.set i (.own (eL e (xs ++ [a]))))) := by
      unfold sAppV locV
      rw [hx]
      show (match getL (setS S y .un) (.top i), S[y]? with
        | some (.lst ds), some (.own d) => if szOk (ds.length + 1) = true then Res.ok (Fl.nx (putL true (setS S y .un) (.lst (ds ++ [d])) (.top i))) else .stuck
        | some (.lst ds), some (.fz d) => if (pureD d && szOk (ds.length + 1)) = true then .ok (.nx (putL true S (.lst (ds ++ [d])) (.top i))) else .stuck
        | _, _ => .stuck) = _
      rw [hg, hx2]
      show (if (pureD (e a) && szOk ((xs.map e).length + 1)) = true then Res.ok (Fl.nx (putL true S (.lst (xs.map e ++ [e a])) (.top i))) else .stuck) = _
      rw [List.length_map, if_pos (by rw [hp, z]; rfl)]
      unfold eL
      rw [List.map_append]
      rfl
    rw [if_pos z, seq_nx e1]
    exact hk _ _ (s.put i fun p e => by cases e; rfl)
  · rw [if_neg z]
    trivial
theorem xb_appE (i : Nat) {e : α → D} {fx : List Slot → Res (D × List Slot)} {xs : List α} {ts : Res σ} {va : σ → α} {xs1 : σ → List α} {P0 : σ → PP} {k : σ → List α → Res ω} (hP : P[i]? = some (some (.own (eL e xs)))) (hx : XF P fx ts (fun w => e (va w)) P0) (h0 : ∀ w, (P0 w)[i]? = some (some (.own (eL e (xs1 w))))) (hk : ∀ w xs', XB ((P0 w).set i (some (.own (eL e xs')))) g R (k w xs')) :
    XB P (bSeq (sAppE i fx) g) R (ts >>= fun w => pApp (xs1 w) (va w) >>= k w) := fun S s => by
  obtain ⟨x, hsx, f1⟩ := s.2 i _ hP
  cases f1
  have e0 : sAppE i fx S = (fx S >>= fun r => match r.2[i]? with
    | some (.own (.lst ds)) => if szOk (ds.length + 1) = true then .ok (.nx (r.2.set i (.own (.lst (ds ++ [r.1]))))) else .stuck
    | _ => .stuck) := by
    unfold sAppE
    rw [hsx]
    rfl
  rw [bSeq_bind e0]
  refine (hx S s).bind fun w r ⟨q1, q2⟩ => ?_
  obtain ⟨y, hy, fy⟩ := q2.2 i _ (h0 w)
  cases fy
  rw [hy]
  show LeG R (pApp (xs1 w) (va w) >>= k w) ((if szOk (((xs1 w).map e).length + 1) = true then Res.ok (Fl.nx (r.2.set i (.own (.lst ((xs1 w).map e ++ [r.1]))))) else .stuck) >>= _)
  rw [List.length_map]
  unfold pApp
  by_cases z : szOk ((xs1 w).length + 1) = true
  · rw [if_pos z, if_pos z, q1]
    refine hk w _ _ ?_
    have : D.lst ((xs1 w).map e ++ [e (va w)]) = eL e (xs1 w ++ [va w]) := by unfold eL; rw [List.map_append]; rfl
    show Fits (r.2.set i (.own (.lst ((xs1 w).map e ++ [e (va w)])))) _
    rw [this]
    exact q2.put i fun p e => by cases e; rfl
  · rw [if_neg z]
    trivial
/-- over v[an expression that changes] -/
theorem xs_E (v : Nat) {xss : List (List α)} {fx : List Slot → Res (D × List Slot)} {ts : Res σ} {kv : σ → Int} {P0 : σ → PP} (hP : P[v]? = some (some (.fz (eL (eL e) xss)))) (hx : XF P fx ts (fun w => eI (kv w)) P0) : XSrc P (srcE v fx) (ts >>= fun w => pAt xss (kv w) >>= fun l => .ok (l, w)) (fun p => p.1) e (fun p => P0 p.2) := fun S s => by
  unfold srcE
  rw [frzV_fz s hP]
  obtain ⟨x, hsx, f1⟩ := s.2 v _ hP
  cases f1
  rw [hsx]
  show LeG _ _ (fx S >>= _)
  refine (hx S s).bind fun w r ⟨q1, q2⟩ => ?_
  rw [q1]
  show LeG _ (pAt xss (kv w) >>= fun l => Res.ok (l, w)) (match atI (xss.map (eL e)) (kv w) with
    | some d => itD d >>= fun l => Res.ok (l, r.2)
    | _ => .stuck)
  unfold pAt
  rw [atI_map]
  cases atI xss (kv w) with
  | none => trivial
  | some l => exact ⟨_, rfl, rfl, q2⟩
/-! ### sorted, told -/
theorem xb_retSort (i : Nat) {A : List (List Int)} {w : ω} (hP : P[i]? = some (some (.own (eL (eL eI) A)))) (hk : ∀ S, R w (.rt (eL (eL eI) (sortLL A)) S)) : XB P (bSeq (sRetSort i) g) R (.ok w) := fun S s => by
  obtain ⟨x, hx, fx⟩ := s.2 i _ hP
  cases fx
  unfold bSeq sRetSort
  rw [hx]
  show LeG R (.ok w) ((match llD (A.map (eL eI)) with
    | some B => if allL (A.map (eL eI)) = true then Res.ok (Fl.rt (.lst ((sortLL B).map fun a => .lst (a.map D.int))) (setS S i .un)) else .stuck
    | none => .stuck) >>= _)
  rw [llD_e, allL_e]
  exact ⟨_, rfl, hk _⟩
/-! ### defs -/
/-- told by a def -/
def RF (e : ρ → D) : ρ → Fl → Prop := fun r fl => (∃ S', fl = .rt (e r) S') ∨ (e r = .non ∧ ∃ S', fl = .nx S')
theorem fits_init (m : Nat) : ∀ ds : List D, Fits (ds.map Slot.fz ++ List.replicate m Slot.un) (ds.map (fun d => some (PS.fz d)) ++ List.replicate m none) := fun ds => ⟨by simp, fun i q e => by
  by_cases h : i < ds.length
  · rw [List.getElem?_append_left (by simpa using h), List.getElem?_map] at e
    rw [List.getElem?_append_left (by simpa using h), List.getElem?_map]
    cases r : ds[i]? with
    | none => rw [r] at e; cases e
    | some d => rw [r] at e; cases e; exact ⟨_, rfl, rfl⟩
  · rw [List.getElem?_append_right (by simpa using Nat.le_of_not_lt h), List.getElem?_replicate] at e
    split at e <;> cases e⟩
theorem run_le {m : Nat} {ds : List D} {t : Res ρ} {e : ρ → D} (h : XB (ds.map (fun d => some (PS.fz d)) ++ List.replicate m none) f (RF e) t) : Le e t (runB m f ds) := by
  have q := h _ (fits_init m ds)
  unfold runB
  cases t with
  | stuck => trivial
  | exc x => rw [show f _ = _ from q]; rfl
  | ok r =>
    obtain ⟨fl, e1, e2⟩ := q
    rw [e1]
    rcases e2 with ⟨S', rfl⟩ | ⟨e3, S', rfl⟩
    · rfl
    · show Res.ok D.non = _
      rw [e3]
/-- told by a def that changes its m-th parameter -/
def RM (er : ρ → D) (em : μ → D) (m : Nat) : ρ × μ → Fl → Prop := fun w fl => (∃ S', fl = .rt (er w.1) S' ∧ S'[m]? = some (.own (em w.2))) ∨ (er w.1 = .non ∧ ∃ S', fl = .nx S' ∧ S'[m]? = some (.own (em w.2)))
theorem run_leM {m k : Nat} {ds : List D} {t : Res (ρ × μ)} {er : ρ → D} {em : μ → D} {a : μ} (hp : Pu er) (hm : ds[m]? = some (em a)) (h : XB ((ds.map (fun d => some (PS.fz d))).set m (some (.own (em a))) ++ List.replicate k none) f (RM er em m) t) : LeG (fun w r => r = (er w.1, em w.2)) t (runM k m f ds) := by
  have fi : Fits ((ds.map Slot.fz).set m (.own (em a)) ++ List.replicate k Slot.un) ((ds.map (fun d => some (PS.fz d))).set m (some (.own (em a))) ++ List.replicate k none) := by
    have hl : m < ds.length := (List.getElem?_eq_some_iff.mp hm).1
    have e1 : (ds.map Slot.fz).set m (.own (em a)) ++ List.replicate k Slot.un = (ds.map Slot.fz ++ List.replicate k Slot.un).set m (.own (em a)) := by
      rw [List.set_append, if_pos (by simpa using hl)]
    have e2 : (ds.map (fun d => some (PS.fz d))).set m (some (.own (em a))) ++ List.replicate k none = (ds.map (fun d => some (PS.fz d)) ++ List.replicate k none).set m (some (.own (em a))) := by
      rw [List.set_append, if_pos (by simpa using hl)]
    rw [e1, e2]
    exact (fits_init k ds).put m fun p e => by cases e; rfl
  have q := h _ fi
  unfold runM
  rw [hm]
  show LeG _ t (f ((ds.map Slot.fz).set m (.own (em a)) ++ List.replicate k Slot.un) >>= _)
  have e0 : (t >>= fun w => Res.ok w) = t := by cases t <;> rfl
  rw [← e0]
  refine q.bind fun w fl hfl => ?_
  rcases hfl with ⟨S', rfl, e2⟩ | ⟨e3, S', rfl, e2⟩
  · show LeG _ (Res.ok w) (match S'[m]? with
      | some (.own dm) => if pureD (er w.1) = true then Res.ok (er w.1, dm) else .stuck
      | _ => .stuck)
    rw [e2]
    show LeG _ (Res.ok w) (if pureD (er w.1) = true then Res.ok (er w.1, em w.2) else .stuck)
    rw [if_pos (hp w.1)]
    exact ⟨_, rfl, rfl⟩
  · show LeG _ (Res.ok w) (match S'[m]? with
      | some (.own dm) => Res.ok (D.non, dm)
      | _ => .stuck)
    rw [e2]
    refine ⟨_, rfl, ?_⟩
    rw [← e3]
end
end Ow.P
end
section
set_option linter.all false
set_option maxRecDepth 100000
set_option maxHeartbeats 2000000
/-! Pw5: what the printed proofs name besides. -/
namespace Ow.P
open PySem L2 PySem.Spec Ow
section
variable {ω ω' β β' α γ ρ τ μ σ : Type} {P : PP} {f g h : List Slot → Res Fl} {R : ω → Fl → Prop} {t t1 t2 : Res ω} {e : α → D} {fe : En → Res D} {ta : Res α} {i : Nat}
theorem xb_stuck : XB P f R .stuck := fun S s => trivial
theorem xb_retF {er : ρ → D} {tr : Res ρ} (he : XE (enP P) er fe tr) : XB P (bSeq (sRet fe) g) (RF er) tr := by
  have := xb_ret (g := g) (R := RF er) (w := fun a => a) he (fun a S _ => .inl ⟨S, rfl⟩)
  have e0 : (tr >>= fun a => Res.ok a) = tr := by cases tr <;> rfl
  rw [e0] at this
  exact this
theorem xb_retN {w : ω} (hk : ∀ S, Fits S P → R w (.rt .non S)) : XB P (bSeq (fun S => .ok (.rt .non S)) g) R (.ok w) := fun S s => ⟨_, rfl, hk S s⟩
def RRF (e : ρ → D) : ρ → D → List Slot → Prop := fun r d _ => d = e r
def RRM (er : ρ → D) (em : μ → D) (m : Nat) : ρ × μ → D → List Slot → Prop := fun w d S => d = er w.1 ∧ S[m]? = some (.own (em w.2))
theorem rr_f {er : ρ → D} {r : ρ} {d : D} {S : List Slot} (h : RRF er r d S) : LeG (RF er) (.ok r) (.ok (.rt d S)) := ⟨_, rfl, .inl ⟨S, by rw [show d = _ from h]⟩⟩
theorem rr_m {er : ρ → D} {em : μ → D} {m : Nat} {r : ρ × μ} {d : D} {S : List Slot} (h : RRM er em m r d S) : LeG (RM er em m) (.ok r) (.ok (.rt d S)) := ⟨_, rfl, .inl ⟨S, by rw [h.1], h.2⟩⟩
theorem rr_c {N : τ → PP} {RR : ρ → D → List Slot → Prop} {r : ρ} {d : D} {S : List Slot} (h : RR r d S) : LeG (RC N RR) (.ok (.rt r)) (.ok (.rt d S)) := ⟨_, rfl, d, S, rfl, h⟩
theorem own_at {S : List Slot} {d : D} (h : Fits S P) (m : Nat) (hp : P[m]? = some (some (.own d))) : S[m]? = some (.own d) := by
  obtain ⟨x, hx, fx⟩ := h.2 m _ hp
  cases fx
  exact hx
theorem nx_ofO {o : Option α} (x : Err) : ofO o ≠ .exc x := by cases o <;> exact fun z => by cases z
theorem nx_ixN {n : Nat} {k : Int} : ∀ x, pIxN n k ≠ .exc x := fun x => nx_ofO x
theorem nx_bind {t : Res α} {k : α → Res β} (h : ∀ x, t ≠ .exc x) (hk : ∀ a x, k a ≠ .exc x) : ∀ x, (t >>= k) ≠ .exc x := fun x z => by
  cases t with
  | ok a => exact hk a x z
  | exc y => exact h y rfl
  | stuck => cases z
theorem nx_ok (a : α) : ∀ x, (Res.ok a) ≠ .exc x := fun x z => by cases z
/-! ### the rules with the text told beside -/
variable {PE : List (Option D)} {fa fb : En → Res D} {fs : En → Res (List D)} {ea : α → D} {eb : β → D} {tb : Res β} {tx : Res α}
theorem ya_P (a : α) {K : List D → Res D} {t : Res β} (h1 : XE PE ea fa ta) (ht : ta = .ok a) (h2 : XA PE eb fs (fun ds => K (ea a :: ds)) t) : XA PE eb (aCons fa fs) K t := fun en he => by
  subst ht
  have q1 := h1 en he
  unfold aCons
  rw [show fa en = _ from q1]
  have q := h2 en he
  show Le eb t ((fs en >>= fun ds => .ok (ea a :: ds)) >>= K)
  cases r : fs en with
  | ok ds => rw [r] at q; exact q
  | exc x => rw [r] at q; exact q
  | stuck => rw [r] at q; exact q
theorem ya_cons {K : List D → Res D} {k : α → Res β} (h1 : XE PE ea fa ta) (ht : tx = ta) (h2 : ∀ a, XA PE eb fs (fun ds => K (ea a :: ds)) (k a)) : XA PE eb (aCons fa fs) K (tx >>= k) := by
  subst ht
  exact xa_cons h1 h2
theorem yg_P (a : α) {K : List D → Res β} {R : ω → β → Prop} {t : Res ω} (h1 : XE PE ea fa ta) (ht : ta = .ok a) (h2 : XG PE fs (fun ds => K (ea a :: ds)) R t) : XG PE (aCons fa fs) K R t := fun en he => by
  subst ht
  have q1 := h1 en he
  unfold aCons
  rw [show fa en = _ from q1]
  have q := h2 en he
  show LeG R t ((fs en >>= fun ds => .ok (ea a :: ds)) >>= K)
  cases r : fs en with
  | ok ds => rw [r] at q; exact q
  | exc x => rw [r] at q; exact q
  | stuck => rw [r] at q; exact q
theorem yg_cons {K : List D → Res β} {R : ω → β → Prop} {k : α → Res ω} (h1 : XE PE ea fa ta) (ht : tx = ta) (h2 : ∀ a, XG PE fs (fun ds => K (ea a :: ds)) R (k a)) : XG PE (aCons fa fs) K R (tx >>= k) := by
  subst ht
  exact xg_cons h1 h2
theorem yt_AnP {c d : En → Res Bool} {t1 t2 : Res Bool} {b1 b2 : Bool} (h1 : XT PE c t1) (h2 : XT PE d t2) (e1 : t1 = .ok b1) (e2 : t2 = .ok b2) : XT PE (tAn c d) (.ok (b1 && b2)) := by
  subst e1 e2
  exact xt_AnP h1 h2
theorem yt_OrP {c d : En → Res Bool} {t1 t2 : Res Bool} {b1 b2 : Bool} (h1 : XT PE c t1) (h2 : XT PE d t2) (e1 : t1 = .ok b1) (e2 : t2 = .ok b2) : XT PE (tOr' c d) (.ok (b1 || b2)) := by
  subst e1 e2
  exact xt_OrP h1 h2
theorem ye_AnP {t1 t2 : Res Bool} {b1 b2 : Bool} (h1 : XE PE eB fa t1) (h2 : XE PE eB fb t2) (e1 : t1 = .ok b1) (e2 : t2 = .ok b2) : XE PE eB (xAn fa fb) (.ok (b1 && b2)) := by
  subst e1 e2
  exact xe_AnP h1 h2
theorem ye_OrP {t1 t2 : Res Bool} {b1 b2 : Bool} (h1 : XE PE eB fa t1) (h2 : XE PE eB fb t2) (e1 : t1 = .ok b1) (e2 : t2 = .ok b2) : XE PE eB (xOr fa fb) (.ok (b1 || b2)) := by
  subst e1 e2
  exact xe_OrP h1 h2
variable {k : α → Res ω}
theorem yb_setF (i : Nat) (hp : Pu e) (he : XE (enP P) e fe ta) (ht : tx = ta) (hk : ∀ a, XB (setP P i (some (.fz (e a)))) g R (k a)) : XB P (bSeq (sSet i fe) g) R (tx >>= k) := by
  subst ht
  exact xb_setF i hp he hk
theorem yb_setO (i : Nat) (hp : Im e) (he : XE (enP P) e fe ta) (ht : tx = ta) (hk : ∀ a, XB (setP P i (some (.own (e a)))) g R (k a)) : XB P (bSeq (sSet i fe) g) R (tx >>= k) := by
  subst ht
  exact xb_setO i hp he hk
theorem yb_setR (i : Nat) (he : XE (enP P) e fe ta) (ht : tx = ta) (hk : ∀ a, XB (setP P i (some (.rd (e a)))) g R (k a)) : XB P (bSeq (sSet i fe) g) R (tx >>= k) := by
  subst ht
  exact xb_setR i he hk
theorem yb_setZ (i : Nat) (he : XE (enP P) e fe ta) (ht : tx = ta) (hk : ∀ a, XB (setP (frzAllP P) i (some (.fz (e a)))) g R (k a)) : XB P (bSeq (sSetZ i fe) g) R (tx >>= k) := by
  subst ht
  exact xb_setZ i he hk
theorem yb_do (he : XE (enP P) e fe ta) (ht : tx = ta) (hk : ∀ a, XB P g R (k a)) : XB P (bSeq (sDo fe) g) R (tx >>= k) := by
  subst ht
  exact xb_do he hk
theorem yb_ret {w : α → ω} (he : XE (enP P) e fe ta) (ht : tx = ta) (hk : ∀ a S, Fits S P → R (w a) (.rt (e a) S)) : XB P (bSeq (sRet fe) g) R (tx >>= fun a => .ok (w a)) := by
  subst ht
  exact xb_ret he hk
theorem yb_retF {er : ρ → D} {tr ty : Res ρ} (he : XE (enP P) er fe tr) (ht : ty = tr) : XB P (bSeq (sRet fe) g) (RF er) ty := by
  subst ht
  exact xb_retF he
theorem yb_if {c : En → Res Bool} {tc ty : Res Bool} (hc : XT (enP P) c tc) (ht : ty = tc) (h1 : XB P (bSeq f h) R t1) (h2 : XB P (bSeq g h) R t2) : XB P (bSeq (sIf c f g) h) R (ty >>= fun b => if b = true then t1 else t2) := by
  subst ht
  exact xb_if hc h1 h2
theorem yb_raise1 {c : Nat} (he : XE (enP P) e fe ta) (ht : tx = ta) : XB P (bSeq (sRaise1 c fe) g) R (tx >>= fun a => .exc ⟨c, [e a]⟩) := by
  subst ht
  exact xb_raise1 he
theorem yb_try (i v : Nat) {ex : Nat → Bool} {o : Option Err} {k : Option Err → Res ω} (hiv : i ≠ v) (hv : P[v]? = some (some (.fz (eO eX o)))) (he : XE (enP P) e fe ta) (ht : tx = ta) (hk : ∀ o', XB (setP (setP P i none) v (some (.fz (eO eX o')))) g R (k o')) : XB P (bSeq (sTry i v ex fe) g) R (pTry ex tx o >>= k) := by
  subst ht
  exact xb_try i v hiv hv he hk
theorem yb_par (i j : Nat) {ty : Res β} {k : α → β → Res ω} (hp : Pu ea) (hq : Pu eb) (ha : XE (enP P) ea fa ta) (ht : tx = ta) (hb : XE (enP P) eb fb tb) (hty : ty = tb) (hk : ∀ a b, XB (setP (setP P i (some (.fz (ea a)))) j (some (.fz (eb b)))) g R (k a b)) :
    XB P (bSeq (sPar i j fa fb) g) R (tx >>= fun a => ty >>= fun b => k a b) := by
  subst ht hty
  exact xb_par (k := fun p => k p.1 p.2) i j hp hq ha hb hk
theorem yb_unp (i j : Nat) {t ty : Res (α × β)} {k : α × β → Res ω} (hp : Pu ea) (hq : Pu eb) (ha : XE (enP P) (eT2 ea eb) fa t) (ht : ty = t) (hk : ∀ p : α × β, XB (setP (setP P i (some (.fz (ea p.1)))) j (some (.fz (eb p.2)))) g R (k p)) :
    XB P (bSeq (sUnp2 i j fa) g) R (ty >>= k) := by
  subst ht
  exact xb_unp i j hp hq ha hk
theorem yb_alPF (i v : Nat) {xs : List α} {tk : Res Int} (hP : P[v]? = some (some (.fz (eL e xs)))) (hf : XE (enP P) eI fa tk) (ht : tx = (tk >>= fun i => pAt xs i)) (hk : ∀ a, XB (setP P i (some (.fz (e a)))) g R (k a)) : XB P (bSeq (sAlP i v fa) g) R (tx >>= k) := by
  subst ht
  exact xb_alPF i v hP hf hk
theorem yb_alPP (i v : Nat) {xs : List α} {tk : Res Int} (hp : Pu e) (hP : P[v]? = some (some (.own (eL e xs)))) (hf : XE (enP P) eI fa tk) (ht : tx = (tk >>= fun i => pAt xs i)) (hk : ∀ a, XB (setP P i (some (.fz (e a)))) g R (k a)) : XB P (bSeq (sAlP i v fa) g) R (tx >>= k) := by
  subst ht
  exact xb_alPP i v hp hP hf hk
theorem yb_alPO (i v : Nat) {xs : List α} {tk : Res Int} {tj : Res Nat} {k : Nat → Res ω} (hv : v ≠ i) (hm : Im e) (hP : P[v]? = some (some (.own (eL e xs)))) (hf : XE (enP P) eI fa tk) (ht : tj = (tk >>= fun i => pIxN xs.length i)) (hk : ∀ j, XB (setP P i (some (.ali v j))) g R (k j)) : XB P (bSeq (sAlP i v fa) g) R (tj >>= k) := by
  subst ht
  exact xb_alPO i v hv hm hP hf hk
theorem yb_putI (v : Nat) {l : List (Int × α)} {tk : Res Int} {ty : Res (List (Int × α))} {k : List (Int × α) → Res ω} (hp : Pu e) (hP : P[v]? = some (some (.own (eDI e l)))) (he : XE (enP P) e fe ta) (hg : XE (enP P) eI fa tk) (ht : ty = (ta >>= fun a => tk >>= fun kk => pPut l kk a)) (hk : ∀ l', XB (setP P v (some (.own (eDI e l')))) g R (k l')) :
    XB P (bSeq (sPutI v fe fa) g) R (ty >>= k) := by
  subst ht
  exact xb_putI v hp hP he hg hk
theorem yb_putT (v : Nat) {l : List (List Int × α)} {tk : Res (List Int)} {ty : Res (List (List Int × α))} {k : List (List Int × α) → Res ω} (hp : Pu e) (hP : P[v]? = some (some (.own (eDT e l)))) (he : XE (enP P) e fe ta) (hg : XE (enP P) eK fa tk) (ht : ty = (ta >>= fun a => tk >>= fun kk => pPut l kk a)) (hk : ∀ l', XB (setP P v (some (.own (eDT e l')))) g R (k l')) :
    XB P (bSeq (sPutT v fe fa) g) R (ty >>= k) := by
  subst ht
  exact xb_putT v hp hP he hg hk
theorem yb_methI {loc : List Slot → Res Lc} (i : Nat) {xss : List (List α)} {op : MOp} {tj : Res Nat} {tu : List α → Res (List α)} {ty : Res (List (List α))} {k : List (List α) → Res ω} (hP : P[i]? = some (some (.own (eL (eL e) xss)))) (hl : ∀ S, Fits S P → LeG (fun j l => l = Lc.it i j) tj (loc S))
    (ha : ∀ l, XG (enP P) fs (fun es => ofO (op (eL e l) es)) (fun l' r => r.1 = eL e l') (tu l)) (ht : ty = (tj >>= fun j => pUpdN xss j tu)) (hk : ∀ xss', XB (P.set i (some (.own (eL (eL e) xss')))) g R (k xss')) :
    XB P (bSeq (sMeth loc fs op) g) R (ty >>= k) := by
  subst ht
  exact xb_methI i hP hl ha hk
theorem yb_methT (i : Nat) {xs : List α} {op : MOp} {tm ty : Res (List α)} {k : List α → Res ω} (keep : Bool) (hP : P[i]? = some (some (.own (eL e xs)))) (ha : XG (enP P) fs (fun es => ofO (op (eL e xs) es)) (fun xs' r => r = (eL e xs', keep)) tm) (ht : ty = tm) (hk : ∀ xs', XB (putP keep P i (some (.own (eL e xs')))) g R (k xs')) :
    XB P (bSeq (sMeth (locV i) fs op) g) R (ty >>= k) := by
  subst ht
  exact xb_methT i keep hP ha hk
theorem yb_setAtT (i : Nat) {xs : List α} {tk : Res Int} {ty : Res (List α)} {k : List α → Res ω} (hP : P[i]? = some (some (.own (eL e xs)))) (he : XE (enP P) e fe ta) (hf : XE (enP P) eI fa tk) (ht : ty = (ta >>= fun a => tk >>= fun kk => pSetAt xs kk a)) (hk : ∀ xs', XB (setP P i (some (.own (eL e xs')))) g R (k xs')) :
    XB P (bSeq (sSetAt (locV i) fe fa) g) R (ty >>= k) := by
  subst ht
  exact xb_setAtT i hP he hf hk
theorem yb_setAtI {loc : List Slot → Res Lc} (i : Nat) {xss : List (List α)} {tj : Res Nat} {tk : Res Int} {ty : Res (List (List α))} {k : List (List α) → Res ω} (hP : P[i]? = some (some (.own (eL (eL e) xss)))) (hl : ∀ S, Fits S P → LeG (fun j l => l = Lc.it i j) tj (loc S)) (he : XE (enP P) e fe ta) (hf : XE (enP P) eI fa tk)
    (ht : ty = (ta >>= fun a => tj >>= fun j => pUpdN xss j fun l => tk >>= fun kk => pSetAt l kk a)) (hk : ∀ xss', XB (P.set i (some (.own (eL (eL e) xss')))) g R (k xss')) :
    XB P (bSeq (sSetAt loc fe fa) g) R (ty >>= k) := by
  subst ht
  exact xb_setAtI i hP hl he hf hk
theorem yb_doE {fx : List Slot → Res (D × List Slot)} {ts ty : Res σ} {dv : σ → D} {P0 : σ → PP} {k : σ → Res ω} (hx : XF P fx ts dv P0) (ht : ty = ts) (hk : ∀ w, XB (P0 w) g R (k w)) : XB P (bSeq (sDoE fx) g) R (ty >>= k) := by
  subst ht
  exact xb_doE hx hk
theorem yb_setE (i : Nat) {fx : List Slot → Res (D × List Slot)} {ts ty : Res σ} {dv : σ → D} {P0 : σ → PP} {k : σ → Res ω} (hx : XF P fx ts dv P0) (ht : ty = ts) (hk : ∀ w, XB (setP (P0 w) i (some (.fz (dv w)))) g R (k w)) : XB P (bSeq (sSetE i fx) g) R (ty >>= k) := by
  subst ht
  exact xb_setE i hx hk
theorem yb_ifE {fu : List Slot → Res (Bool × List Slot)} {ts ty : Res σ} {bv : σ → Bool} {P0 : σ → PP} {k1 k2 : σ → Res ω} (hx : XU P fu ts bv P0) (ht : ty = ts) (h1 : ∀ w, XB (P0 w) (bSeq f h) R (k1 w)) (h2 : ∀ w, XB (P0 w) (bSeq g h) R (k2 w)) : XB P (bSeq (sIfE fu f g) h) R (ty >>= fun w => if bv w = true then k1 w else k2 w) := by
  subst ht
  exact xb_ifE hx h1 h2
theorem yb_appE (i : Nat) {e : α → D} {fx : List Slot → Res (D × List Slot)} {xs : List α} {ts ty : Res σ} {va : σ → α} {xs1 : σ → List α} {P0 : σ → PP} {k : σ → List α → Res ω} (hP : P[i]? = some (some (.own (eL e xs)))) (hx : XF P fx ts (fun w => e (va w)) P0) (ht : ty = ts) (h0 : ∀ w, (P0 w)[i]? = some (some (.own (eL e (xs1 w))))) (hk : ∀ w xs', XB ((P0 w).set i (some (.own (eL e xs')))) g R (k w xs')) :
    XB P (bSeq (sAppE i fx) g) R (ty >>= fun w => pApp (xs1 w) (va w) >>= k w) := by
  subst ht
  exact xb_appE i hP hx h0 hk
theorem yb_for {N : τ → PP} {s0 : σ → τ} {src : List Slot → Res (List β × List Slot)} {ts ty : Res σ} {l : σ → List α} {eb : α → β} {P0 : σ → PP} {bnd : β → Bd} {body : τ → α → Res τ} {k : τ → Res ω} (hs : XSrc P src ts l eb P0) (ht : ty = ts) (hw : ∀ w, Wk' (P0 w) (N (s0 w))) (hb : ∀ s a, XB (bndS (N s) (bnd (eb a))) f (RB N) (body s a)) (hk : ∀ s, XB (N s) g R (k s)) :
    XB P (bSeq (sForG src bnd f) g) R (ty >>= fun w => pFor body (l w) (s0 w) >>= k) := by
  subst ht
  exact xb_for N s0 hs hw hb hk
theorem yb_forC {N : τ → PP} {RR : ρ → D → List Slot → Prop} {s0 : σ → τ} {src : List Slot → Res (List β × List Slot)} {ts ty : Res σ} {l : σ → List α} {eb : α → β} {P0 : σ → PP} {bnd : β → Bd} {body : τ → α → Res (Ct τ ρ)} {k : τ → Res ω} {kr : ρ → Res ω} (hs : XSrc P src ts l eb P0) (ht : ty = ts) (hw : ∀ w, Wk' (P0 w) (N (s0 w))) (hb : ∀ s a, XB (bndS (N s) (bnd (eb a))) f (RC N RR) (body s a))
    (hr : ∀ r d S, RR r d S → LeG R (kr r) (.ok (.rt d S))) (hk : ∀ s, XB (N s) g R (k s)) :
    XB P (bSeq (sForG src bnd f) g) R (ty >>= fun w => pForC body (l w) (s0 w) >>= fun c => ctk c k kr) := by
  subst ht
  exact xb_forC N RR s0 hs hw hb hr hk
theorem yb_while {N : τ → PP} {RR : ρ → D → List Slot → Prop} {s0 : τ} {c : En → Res Bool} {tc ty : τ → Res Bool} {body : τ → Res (Ct τ ρ)} {k : τ → Res ω} {kr : ρ → Res ω} (hw : Wk' P (N s0)) (hc : ∀ s, XT (enP (N s)) c (tc s)) (ht : ty = tc) (hb : ∀ s, XB (N s) f (RC N RR) (body s))
    (hr : ∀ r d S, RR r d S → LeG R (kr r) (.ok (.rt d S))) (hk : ∀ s, XB (N s) g R (k s)) :
    XB P (bSeq (sWhile c f) g) R (pWhile ty body s0 >>= fun c => ctk c k kr) := by
  subst ht
  exact xb_while N RR s0 hw hc hb hr hk
/-! loops that change the items -/
def pForA (n : Nat) (len : τ → Nat) (b : τ → Nat → Res τ) : Nat → τ → Res τ
  | 0, s => if len s = n then .ok s else .stuck
  | m + 1, s => if len s = n then b s (n - (m + 1)) >>= pForA n len b m else .stuck
theorem forA_le {N : τ → PP} {lst : τ → List α} {i v : Nat} (hv : ∀ s, (N s)[v]? = some (some (.own (eL e (lst s))))) {n : Nat} {b : τ → Nat → Res τ} (hb : ∀ s k, XB (setP (N s) i (some (.ali v k))) f (RB N) (b s k)) : ∀ (m : Nat) (s : τ) (S : List Slot), Fits S (N s) → LeG (RN N) (pForA n (fun s => (lst s).length) b m s) (forA i v n f m S)
  | 0, s, S, hs => by
    obtain ⟨x, hx, fx⟩ := hs.2 v _ (hv s)
    cases fx
    unfold pForA forA
    rw [hx]
    show LeG (RN N) (if (lst s).length = n then Res.ok s else .stuck) (if ((lst s).map e).length = n then Res.ok (Fl.nx S) else .stuck)
    rw [List.length_map]
    by_cases z : (lst s).length = n
    · rw [if_pos z, if_pos z]
      exact ⟨_, rfl, S, rfl, hs⟩
    · rw [if_neg z]
      trivial
  | m + 1, s, S, hs => by
    obtain ⟨x, hx, fx⟩ := hs.2 v _ (hv s)
    cases fx
    unfold pForA forA
    rw [hx]
    show LeG (RN N) (if (lst s).length = n then b s (n - (m + 1)) >>= pForA n (fun s => (lst s).length) b m else .stuck) (if ((lst s).map e).length = n then (f (setS S i (.ali v (n - (m + 1)))) >>= fun r => match r with
      | .nx S' => forA i v n f m S'
      | .ct S' => forA i v n f m S'
      | .bk S' => .ok (.nx S')
      | .rt d S' => .ok (.rt d S')) else .stuck)
    rw [List.length_map]
    by_cases z : (lst s).length = n
    · rw [if_pos z, if_pos z]
      refine (hb s (n - (m + 1)) _ (hs.set i rfl)).bind fun s' fl ⟨S', hfl, hs'⟩ => ?_
      rcases hfl with rfl | rfl
      · exact forA_le hv hb m s' S' hs'
      · exact forA_le hv hb m s' S' hs'
    · rw [if_neg z]
      trivial
theorem xb_forA {N : τ → PP} {lst : τ → List α} {s0 : τ} {k : τ → Res ω} {i v : Nat} {xs : List α} {body : τ → Nat → Res τ} (hP : P[v]? = some (some (.own (eL e xs)))) (hw : Wk' P (N s0)) (hv : ∀ s, (N s)[v]? = some (some (.own (eL e (lst s))))) (hb : ∀ s j, XB (setP (N s) i (some (.ali v j))) f (RB N) (body s j)) (hk : ∀ s, XB (N s) g R (k s)) :
    XB P (bSeq (sForA i v f) g) R (pForA xs.length (fun s => (lst s).length) body xs.length s0 >>= k) := fun S s => by
  obtain ⟨x, hx, fx⟩ := s.2 v _ hP
  cases fx
  have e1 : sForA i v f S = (forA i v xs.length f xs.length S >>= fun r => Res.ok r) := by
    unfold sForA
    rw [hx]
    show forA i v (xs.map e).length f (xs.map e).length S = _
    rw [List.length_map]
    cases forA i v xs.length f xs.length S <;> rfl
  rw [bSeq_bind e1]
  refine (forA_le hv hb xs.length s0 S (hw.wk _ s)).bind fun s' fl ⟨S', e, hs'⟩ => ?_
  subst e
  exact hk s' S' hs'
theorem pForA_inv {n : Nat} {len : τ → Nat} {b : τ → Nat → Res τ} (I : Nat → τ → Prop) (hl : ∀ k s, I k s → len s = n) (h : ∀ k s, k < n → I k s → ∃ s', b s k = .ok s' ∧ I (k + 1) s') : ∀ (m : Nat) (s : τ), m ≤ n → I (n - m) s → ∃ s', pForA n len b m s = .ok s' ∧ I n s'
  | 0, s, _, hi => ⟨s, by unfold pForA; rw [if_pos (hl _ s hi)], by simpa using hi⟩
  | m + 1, s, hm, hi => by
    obtain ⟨s1, e1, i1⟩ := h (n - (m + 1)) s (by omega) hi
    obtain ⟨s2, e2, i2⟩ := pForA_inv I hl h m s1 (by omega) (by rw [show n - m = n - (m + 1) + 1 by omega]; exact i1)
    exact ⟨s2, by unfold pForA; rw [if_pos (hl _ s hi), e1]; exact e2, i2⟩
end
end Ow.P
end
section
set_option linter.all false
set_option maxRecDepth 100000
set_option maxHeartbeats 2000000
/-! Pw6: rules for expressions by what ends for sure (p) and what may not (i). -/
namespace Ow.P
open PySem L2 PySem.Spec Ow
section
variable {ω β α γ δ : Type} {P : List (Option D)} {f g h : En → Res D} {ta : Res α} {tb : Res β} {ea : α → D} {eb : β → D} {ec : γ → D} {a : α} {b : β} {t : Res γ}
theorem z2pp {op : D → D → Res D} {o : α → β → Res γ} (ho : ∀ a b, Le ec (o a b) (op (ea a) (eb b))) (h1 : XE P ea f (.ok a)) (h2 : XE P eb g (.ok b)) (ht : t = o a b) : XE P ec (x2 op f g) t := by
  subst ht
  exact xe_2 ho h1 h2
theorem z2pi {op : D → D → Res D} {o : α → β → Res γ} (ho : ∀ a b, Le ec (o a b) (op (ea a) (eb b))) (h1 : XE P ea f (.ok a)) (h2 : XE P eb g tb) (ht : t = (tb >>= fun b => o a b)) : XE P ec (x2 op f g) t := by
  subst ht
  exact xe_2 ho h1 h2
theorem z2ip {op : D → D → Res D} {o : α → β → Res γ} (ho : ∀ a b, Le ec (o a b) (op (ea a) (eb b))) (h1 : XE P ea f ta) (h2 : XE P eb g (.ok b)) (ht : t = (ta >>= fun a => o a b)) : XE P ec (x2 op f g) t := by
  subst ht
  exact xe_2 ho h1 h2
theorem z2ii {op : D → D → Res D} {o : α → β → Res γ} (ho : ∀ a b, Le ec (o a b) (op (ea a) (eb b))) (h1 : XE P ea f ta) (h2 : XE P eb g tb) (ht : t = (ta >>= fun a => tb >>= fun b => o a b)) : XE P ec (x2 op f g) t := by
  subst ht
  exact xe_2 ho h1 h2
theorem z1p {op : D → Res D} {o : α → Res γ} (ho : ∀ a, Le ec (o a) (op (ea a))) (h1 : XE P ea f (.ok a)) (ht : t = o a) : XE P ec (x1 op f) t := by
  subst ht
  exact xe_1 ho h1
theorem z1i {op : D → Res D} {o : α → Res γ} (ho : ∀ a, Le ec (o a) (op (ea a))) (h1 : XE P ea f ta) (ht : t = (ta >>= fun a => o a)) : XE P ec (x1 op f) t := by
  subst ht
  exact xe_1 ho h1
theorem zsomep {t : Res (Option α)} (h : XE P ea f (.ok a)) (ht : t = .ok (some a)) : XE P (eO ea) f t := by
  subst ht
  exact xe_some h
theorem zsomei {t : Res (Option α)} (h : XE P ea f ta) (ht : t = (ta >>= fun a => .ok (some a))) : XE P (eO ea) f t := by
  subst ht
  exact xe_some h
theorem znonep {t : Res (Option α)} {u : Unit} (h : XE P eN f (.ok u)) (ht : t = .ok none) : XE P (eO ea) f t := by
  subst ht
  exact xe_none h
theorem znonei {t : Res (Option α)} {tu : Res Unit} (h : XE P eN f tu) (ht : t = (tu >>= fun _ => .ok none)) : XE P (eO ea) f t := by
  subst ht
  exact xe_none h
theorem zgetp {t : Res α} {o : Option α} (h : XE P (eO ea) f (.ok o)) (ht : t = ofO o) : XE P ea f t := by
  subst ht
  exact xe_get h
theorem zgeti {t : Res α} {to : Res (Option α)} (h : XE P (eO ea) f to) (ht : t = (to >>= fun o => ofO o)) : XE P ea f t := by
  subst ht
  exact xe_get h
theorem z20p {t : Res α} {p : α × β} (h : XE P (eT2 ea eb) f (.ok p)) (ht : t = .ok p.1) : XE P ea (x2 oIx f (xC (.int 0))) t := by subst ht; exact xe_20 h
theorem z21p {t : Res β} {p : α × β} (h : XE P (eT2 ea eb) f (.ok p)) (ht : t = .ok p.2) : XE P eb (x2 oIx f (xC (.int 1))) t := by subst ht; exact xe_21 h
theorem z30p {t : Res α} {p : α × β × γ} (h : XE P (eT3 ea eb ec) f (.ok p)) (ht : t = .ok p.1) : XE P ea (x2 oIx f (xC (.int 0))) t := by subst ht; exact xe_30 h
theorem z31p {t : Res β} {p : α × β × γ} (h : XE P (eT3 ea eb ec) f (.ok p)) (ht : t = .ok p.2.1) : XE P eb (x2 oIx f (xC (.int 1))) t := by subst ht; exact xe_31 h
theorem z32p {t : Res γ} {p : α × β × γ} (h : XE P (eT3 ea eb ec) f (.ok p)) (ht : t = .ok p.2.2) : XE P ec (x2 oIx f (xC (.int 2))) t := by subst ht; exact xe_32 h
theorem z20i {t : Res α} {tp : Res (α × β)} (h : XE P (eT2 ea eb) f tp) (ht : t = (tp >>= fun p => .ok p.1)) : XE P ea (x2 oIx f (xC (.int 0))) t := by subst ht; exact xe_20 h
theorem z21i {t : Res β} {tp : Res (α × β)} (h : XE P (eT2 ea eb) f tp) (ht : t = (tp >>= fun p => .ok p.2)) : XE P eb (x2 oIx f (xC (.int 1))) t := by subst ht; exact xe_21 h
theorem z30i {t : Res α} {tp : Res (α × β × γ)} (h : XE P (eT3 ea eb ec) f tp) (ht : t = (tp >>= fun p => .ok p.1)) : XE P ea (x2 oIx f (xC (.int 0))) t := by subst ht; exact xe_30 h
theorem z31i {t : Res β} {tp : Res (α × β × γ)} (h : XE P (eT3 ea eb ec) f tp) (ht : t = (tp >>= fun p => .ok p.2.1)) : XE P eb (x2 oIx f (xC (.int 1))) t := by subst ht; exact xe_31 h
theorem z32i {t : Res γ} {tp : Res (α × β × γ)} (h : XE P (eT3 ea eb ec) f tp) (ht : t = (tp >>= fun p => .ok p.2.2)) : XE P ec (x2 oIx f (xC (.int 2))) t := by subst ht; exact xe_32 h
theorem zSp {t : Res (Option Int)} {i : Int} (h : XE P eI f (.ok i)) (ht : t = .ok (some i)) : XO P (pS f) t := by subst ht; exact xo_S h
theorem zSi {t : Res (Option Int)} {ti : Res Int} (h : XE P eI f ti) (ht : t = (ti >>= fun i => .ok (some i))) : XO P (pS f) t := by subst ht; exact xo_S h
theorem zsl {lo hi : En → Res (Option Int)} {t : Res (List α)} {tl th : Res (Option Int)} {ts : Res (List α)} (hp : Pu ea) (h : XE P (eL ea) f t) (hl : XO P lo tl) (hh : XO P hi th) (ht : ts = (t >>= fun l => tl >>= fun i => th >>= fun j => .ok (cutG l i j))) : XE P (eL ea) (xSl f lo hi) ts := by
  subst ht
  exact xe_sl hp h hl hh
theorem zslC {lo hi : En → Res (Option Int)} {t : Res (List Int)} {tl th : Res (Option Int)} {ts : Res (List Int)} (h : XE P eC f t) (hl : XO P lo tl) (hh : XO P hi th) (ht : ts = (t >>= fun l => tl >>= fun i => th >>= fun j => .ok (cutG l i j))) : XE P (eL eI) (xSl f lo hi) ts := by
  subst ht
  exact xe_slC h hl hh
theorem zslR {lo hi : En → Res (Option Int)} {t : Res (List α)} {tl th : Res (Option Int)} {ts : Res (List α)} (h : XE P (eL ea) f t) (hl : XO P lo tl) (hh : XO P hi th) (ht : ts = (t >>= fun l => tl >>= fun i => th >>= fun j => .ok (cutG l i j))) : XE P (eL ea) (xSlR f lo hi) ts := by
  subst ht
  exact xe_slR h hl hh
/-! iterators -/
theorem zR1p {ts : Res (List Int)} {n : Int} (h : XE P eI f (.ok n)) (ht : ts = pR1 n) : XI P (iR1 f) eI ts := by subst ht; exact xi_R1 h
theorem zR1i {ts : Res (List Int)} {tn : Res Int} (h : XE P eI f tn) (ht : ts = (tn >>= fun n => pR1 n)) : XI P (iR1 f) eI ts := by subst ht; exact xi_R1 h
theorem zR2pp {ts : Res (List Int)} {n m : Int} (h : XE P eI f (.ok n)) (h2 : XE P eI g (.ok m)) (ht : ts = pR2 n m) : XI P (iR2 f g) eI ts := by subst ht; exact xi_R2 h h2
theorem zR2pi {ts : Res (List Int)} {n : Int} {tm : Res Int} (h : XE P eI f (.ok n)) (h2 : XE P eI g tm) (ht : ts = (tm >>= fun m => pR2 n m)) : XI P (iR2 f g) eI ts := by subst ht; exact xi_R2 h h2
theorem zR2ip {ts : Res (List Int)} {tn : Res Int} {m : Int} (h : XE P eI f tn) (h2 : XE P eI g (.ok m)) (ht : ts = (tn >>= fun n => pR2 n m)) : XI P (iR2 f g) eI ts := by subst ht; exact xi_R2 h h2
theorem zR2ii {ts : Res (List Int)} {tn tm : Res Int} (h : XE P eI f tn) (h2 : XE P eI g tm) (ht : ts = (tn >>= fun n => tm >>= fun m => pR2 n m)) : XI P (iR2 f g) eI ts := by subst ht; exact xi_R2 h h2
theorem zZpp {ts : Res (List (α × β))} {xs : List α} {ys : List β} (h : XE P (eL ea) f (.ok xs)) (h2 : XE P (eL eb) g (.ok ys)) (ht : ts = .ok (xs.zip ys)) : XI P (iZ f g) (e2 ea eb) ts := by subst ht; exact xi_Z h h2
theorem zZpi {ts : Res (List (α × β))} {xs : List α} {tys : Res (List β)} (h : XE P (eL ea) f (.ok xs)) (h2 : XE P (eL eb) g tys) (ht : ts = (tys >>= fun ys => .ok (xs.zip ys))) : XI P (iZ f g) (e2 ea eb) ts := by subst ht; exact xi_Z h h2
theorem zZip {ts : Res (List (α × β))} {txs : Res (List α)} {ys : List β} (h : XE P (eL ea) f txs) (h2 : XE P (eL eb) g (.ok ys)) (ht : ts = (txs >>= fun xs => .ok (xs.zip ys))) : XI P (iZ f g) (e2 ea eb) ts := by subst ht; exact xi_Z h h2
theorem zZii {ts : Res (List (α × β))} {txs : Res (List α)} {tys : Res (List β)} (h : XE P (eL ea) f txs) (h2 : XE P (eL eb) g tys) (ht : ts = (txs >>= fun xs => tys >>= fun ys => .ok (xs.zip ys))) : XI P (iZ f g) (e2 ea eb) ts := by subst ht; exact xi_Z h h2
theorem zEnp {ts : Res (List (Int × α))} {l : List α} (h : XE P (eL ea) f (.ok l)) (ht : ts = .ok (pEn 0 l)) : XI P (iEn f) (e2 eI ea) ts := by subst ht; exact xi_En h
theorem zEni {ts : Res (List (Int × α))} {tl : Res (List α)} (h : XE P (eL ea) f tl) (ht : ts = (tl >>= fun l => .ok (pEn 0 l))) : XI P (iEn f) (e2 eI ea) ts := by subst ht; exact xi_En h
theorem zRvp {ts : Res (List α)} {l : List α} (h : XE P (eL ea) f (.ok l)) (ht : ts = .ok l.reverse) : XI P (iRv f) ea ts := by subst ht; exact xi_Rv h
theorem zRvi {ts : Res (List α)} {tl : Res (List α)} (h : XE P (eL ea) f tl) (ht : ts = (tl >>= fun l => .ok l.reverse)) : XI P (iRv f) ea ts := by subst ht; exact xi_Rv h
theorem zlcp {β : Type} {L : En → Res (List β)} {bnd : β → Bd} {vs : List Nat} {c : En → Res Bool} {f : En → Res D} {eb : α → β} {l : List α} {tc : α → Res Bool} {tf : α → Res γ} {t : Res (List γ)} (hL : XI P L eb (.ok l)) (hc : ∀ a, XT (bndP (wipeP P vs) (bnd (eb a))) c (tc a)) (hf : ∀ a, XE (bndP (wipeP P vs) (bnd (eb a))) ec f (tf a)) (ht : t = pLc l tc tf) :
    XE P (eL ec) (xLc L bnd vs c f) t := by subst ht; exact xe_lc hL hc hf
theorem zlci {β : Type} {L : En → Res (List β)} {bnd : β → Bd} {vs : List Nat} {c : En → Res Bool} {f : En → Res D} {eb : α → β} {tl : Res (List α)} {tc : α → Res Bool} {tf : α → Res γ} {t : Res (List γ)} (hL : XI P L eb tl) (hc : ∀ a, XT (bndP (wipeP P vs) (bnd (eb a))) c (tc a)) (hf : ∀ a, XE (bndP (wipeP P vs) (bnd (eb a))) ec f (tf a)) (ht : t = (tl >>= fun l => pLc l tc tf)) :
    XE P (eL ec) (xLc L bnd vs c f) t := by subst ht; exact xe_lc hL hc hf
/-! tests -/
variable {c d : En → Res Bool} {t1 t2 tt : Res Bool} {b1 b2 : Bool}
theorem zAnpp (h1 : XT P c (.ok b1)) (h2 : XT P d (.ok b2)) (ht : tt = .ok (b1 && b2)) : XT P (tAn c d) tt := by subst ht; exact xt_AnP h1 h2
theorem zAnpi (h1 : XT P c (.ok b1)) (h2 : XT P d t2) (ht : tt = if b1 = true then t2 else .ok false) : XT P (tAn c d) tt := by subst ht; exact xt_An h1 h2
theorem zAnii (h1 : XT P c t1) (h2 : XT P d t2) (ht : tt = (t1 >>= fun b => if b = true then t2 else .ok false)) : XT P (tAn c d) tt := by subst ht; exact xt_An h1 h2
theorem zOrpp (h1 : XT P c (.ok b1)) (h2 : XT P d (.ok b2)) (ht : tt = .ok (b1 || b2)) : XT P (tOr' c d) tt := by subst ht; exact xt_OrP h1 h2
theorem zOrpi (h1 : XT P c (.ok b1)) (h2 : XT P d t2) (ht : tt = if b1 = true then .ok true else t2) : XT P (tOr' c d) tt := by subst ht; exact xt_Or h1 h2
theorem zOrii (h1 : XT P c t1) (h2 : XT P d t2) (ht : tt = (t1 >>= fun b => if b = true then .ok true else t2)) : XT P (tOr' c d) tt := by subst ht; exact xt_Or h1 h2
theorem zNop (h1 : XT P c (.ok b1)) (ht : tt = .ok (!b1)) : XT P (tNo c) tt := by subst ht; exact xt_No h1
theorem zNoi (h1 : XT P c t1) (ht : tt = (t1 >>= fun b => .ok (!b))) : XT P (tNo c) tt := by subst ht; exact xt_No h1
theorem zxAnpp (h1 : XE P eB f (.ok b1)) (h2 : XE P eB g (.ok b2)) (ht : tt = .ok (b1 && b2)) : XE P eB (xAn f g) tt := by subst ht; exact xe_AnP h1 h2
theorem zxAnpi (h1 : XE P eB f (.ok b1)) (h2 : XE P eB g t2) (ht : tt = if b1 = true then t2 else .ok false) : XE P eB (xAn f g) tt := by subst ht; exact xe_An h1 h2
theorem zxAnii (h1 : XE P eB f t1) (h2 : XE P eB g t2) (ht : tt = (t1 >>= fun b => if b = true then t2 else .ok false)) : XE P eB (xAn f g) tt := by subst ht; exact xe_An h1 h2
theorem zxOrpp (h1 : XE P eB f (.ok b1)) (h2 : XE P eB g (.ok b2)) (ht : tt = .ok (b1 || b2)) : XE P eB (xOr f g) tt := by subst ht; exact xe_OrP h1 h2
theorem zxOrpi (h1 : XE P eB f (.ok b1)) (h2 : XE P eB g t2) (ht : tt = if b1 = true then .ok true else t2) : XE P eB (xOr f g) tt := by subst ht; exact xe_Or h1 h2
theorem zxOrii (h1 : XE P eB f t1) (h2 : XE P eB g t2) (ht : tt = (t1 >>= fun b => if b = true then .ok true else t2)) : XE P eB (xOr f g) tt := by subst ht; exact xe_Or h1 h2
theorem zxNop (h1 : XE P eB f (.ok b1)) (ht : tt = .ok (!b1)) : XE P eB (xNo f) tt := by subst ht; exact xe_No h1
theorem zxNoi (h1 : XE P eB f t1) (ht : tt = (t1 >>= fun b => .ok (!b))) : XE P eB (xNo f) tt := by subst ht; exact xe_No h1
theorem zIfp {ta' t : Res α} (hc : XT P c (.ok b1)) (h1 : XE P ea f ta) (h2 : XE P ea g ta') (ht : t = if b1 = true then ta else ta') : XE P ea (xIf c f g) t := by subst ht; exact xe_If hc h1 h2
theorem zIfi {ta' t : Res α} (hc : XT P c t1) (h1 : XE P ea f ta) (h2 : XE P ea g ta') (ht : t = (t1 >>= fun b => if b = true then ta else ta')) : XE P ea (xIf c f g) t := by subst ht; exact xe_If hc h1 h2
/-! arguments -/
theorem zaP {fa : En → Res D} {fs : En → Res (List D)} {K : List D → Res D} {t : Res β} (h1 : XE P ea fa (.ok a)) (h2 : XA P eb fs (fun ds => K (ea a :: ds)) t) : XA P eb (aCons fa fs) K t := ya_P a h1 rfl h2
theorem zgP {fa : En → Res D} {fs : En → Res (List D)} {K : List D → Res β} {R : ω → β → Prop} {t : Res ω} (h1 : XE P ea fa (.ok a)) (h2 : XG P fs (fun ds => K (ea a :: ds)) R t) : XG P (aCons fa fs) K R t := yg_P a h1 rfl h2
end
section
theorem xb_at {ω : Type} {P N : PP} {g : List Slot → Res Fl} {R : ω → Fl → Prop} {t : Res ω} (h : P = N) (hb : XB N g R t) : XB P g R t := h ▸ hb
end
end Ow.P
end
section
set_option linter.all false
set_option maxRecDepth 100000
set_option maxHeartbeats 2000000
/-! Pw7: sets of numbers; what is not kept. -/
namespace Ow.P
open PySem L2 PySem.Spec Ow
variable {α : Type} {ea : α → D} {P : List (Option D)} {f : En → Res D}
theorem xe_U {a : α} (h : XE P ea f (.ok a)) : XE P eN (xU f) (.ok ()) := fun en he => by
  have e : f en = .ok (ea a) := h en he
  show xU f en = .ok .non
  unfold xU
  rw [e]
  rfl
def pLenS (l : List Int) : Res Int := if decide (l.length ≤ 4000) = true then .ok ((ddI l).length : Int) else .stuck
theorem lo_lenS (l : List Int) : Le eI (pLenS l) (oLenSet (eL eI l)) := by
  unfold pLenS oLenSet
  rw [ilD_e]
  by_cases z : decide (l.length ≤ 4000) = true
  · rw [if_pos z]
    show (if decide (l.length ≤ 4000) = true then Res.ok (D.int ((ddI l).length : Nat)) else .stuck) = _
    rw [if_pos z]
    rfl
  · rw [if_neg z]
    trivial
def pSortS (l : List Int) : Res (List Int) := if decide (l.length ≤ 4000) = true then .ok (srt (ddI l)) else .stuck
theorem lo_sortS (l : List Int) : Le (eL eI) (pSortS l) (oSortSet (eL eI l)) := by
  unfold pSortS oSortSet
  rw [ilD_e]
  by_cases z : decide (l.length ≤ 4000) = true
  · rw [if_pos z]
    show (if decide (l.length ≤ 4000) = true then Res.ok (D.lst ((srt (ddI l)).map D.int)) else .stuck) = _
    rw [if_pos z]
    rfl
  · rw [if_neg z]
    trivial
theorem lo_sortLL (A : List (List Int)) : Le (eL (eL eI)) (.ok (sortLL A)) (oSortLL (eL (eL eI) A)) := by
  show (match llD (A.map (eL eI)) with
    | some A' => if allL (A.map (eL eI)) = true then Res.ok (D.lst ((sortLL A').map fun a : List Int => D.lst (a.map D.int))) else .stuck
    | none => .stuck) = _
  rw [llD_e]
  show (if allL (A.map (eL eI)) = true then Res.ok (D.lst ((sortLL A).map fun a : List Int => D.lst (a.map D.int))) else .stuck) = _
  rw [if_pos (allL_e A)]
  rfl
theorem lo_revL (hp : Pu ea) (l : List α) : Le (eL ea) (.ok l.reverse) (oRevL (eL ea l)) := by
  show oRevL (eL ea l) = _
  unfold oRevL eL
  simp only
  rw [if_pos (pus hp l), List.map_reverse]
/-! lists of two things unlike in kind -/
section
variable {β : Type} {eb : β → D}
def eP2 (e : α → D) (f : β → D) (p : α × β) : D := .lst [e p.1, f p.2]
theorem im_P2 : Im (eP2 ea eb) := fun _ => pureD_lst _
theorem q_P2 [DecidableEq α] [DecidableEq β] {n m : Nat} (h : EqE n ea) (h2 : EqE m eb) : EqE (max n m + 1) (eP2 ea eb) := ⟨fun p => Sh.lst fun d hd => by
  rcases List.mem_cons.mp hd with rfl | hd
  · exact (h.sh _).mono (by omega)
  · cases List.mem_singleton.mp hd
    exact (h2.sh _).mono (by omega), fun p q => by
  unfold eP2
  simp only [toP, PyData.eqv, toPs, PyData.eqvAll, h.eq, h2.eq, Bool.and_true]
  obtain ⟨a, b⟩ := p
  obtain ⟨c, d⟩ := q
  by_cases z : a = c <;> by_cases z2 : b = d <;> simp [z, z2]⟩
theorem ld_P2 (a : α) (b : β) : Le (eP2 ea eb) (.ok (a, b)) (if szOk [ea a, eb b].length = true then Res.ok (.lst [ea a, eb b]) else .stuck) := rfl
theorem zp20p {t : Res α} {p : α × β} (h : XE P (eP2 ea eb) f (.ok p)) (ht : t = .ok p.1) : XE P ea (x2 oIx f (xC (.int 0))) t := by
  subst ht
  exact fun en he => by
    have e : f en = .ok (eP2 ea eb p) := h en he
    show (f en >>= fun d => (xC (.int 0)) en >>= fun e => oIx d e) = _
    rw [e]
    rfl
theorem zp21p {t : Res β} {p : α × β} (h : XE P (eP2 ea eb) f (.ok p)) (ht : t = .ok p.2) : XE P eb (x2 oIx f (xC (.int 1))) t := by
  subst ht
  exact fun en he => by
    have e : f en = .ok (eP2 ea eb p) := h en he
    show (f en >>= fun d => (xC (.int 1)) en >>= fun e => oIx d e) = _
    rw [e]
    rfl
end
end Ow.P
end
section
set_option linter.all false
set_option maxRecDepth 100000
set_option maxHeartbeats 4000000
/-! PLib: the typed functions that many laws share. -/
namespace Ow.Lib
open PySem L2 PySem.Spec Ow.P
@[irreducible] noncomputable def p_divisor (one : Int) (other : Int) : Res Int :=
  ((.ok (pAbs one)) >>= fun one_1 =>
  ((.ok (pAbs other)) >>= fun other_2 =>
  (pWhile (ρ := Int) (fun (s9 : Int × Int) => (.ok (decide (s9.2 > (0 : Int))))) (fun (s9 : Int × Int) =>
  ((.ok s9.2) >>= fun one_10 => (pMod s9.1 s9.2) >>= fun other_11 =>
  (.ok (.nx (one_10, other_11))))) (one_1, other_2) >>= fun c => ctk c (fun s9 =>
  (.ok s9.1)) (fun r => .ok r))))
theorem le_divisor (one : Int) (other : Int) : Le eI (p_divisor one other) (sem_divisor [eI one, eI other]) := by
  unfold p_divisor sem_divisor
  exact run_le (m := 0) (ds := [eI one, eI other]) (show XB [some (.fz (eI one)), some (.fz (eI other))] _ _ _ from
  (xb_last (xb_as (yb_setF 0 pu_I (z1p lo_abs (xe_var eI one 0 rfl) rfl) rfl fun one_1 =>
  (xb_at (N := [some (.fz (eI one_1)), some (.fz (eI other))]) rfl (xb_as (yb_setF 1 pu_I (z1p lo_abs (xe_var eI other 1 rfl) rfl) rfl fun other_2 =>
  (xb_at (N := [some (.fz (eI one_1)), some (.fz (eI other_2))]) rfl (xb_as (yb_while (N := (fun s9 : Int × Int => ([some (.fz (eI s9.1)), some (.fz (eI s9.2))] : PP))) (RR := (RRF eI)) (s0 := (one_1, other_2)) (wk_s (wk_s wk_nil)) (fun s9 => (xt_Bl (z2pp lo_gt (xe_var eI s9.2 1 rfl) (xe_C (e := eI) (a := (0 : Int)) rfl) rfl))) rfl (fun s9 =>
  (xb_last (yb_par 0 1 pu_I pu_I (xe_var eI s9.2 1 rfl) rfl (z2pp lo_mod (xe_var eI s9.1 0 rfl) (xe_var eI s9.2 1 rfl) rfl) rfl fun one_10 other_11 =>
  (xb_endc (wk_s (wk_s wk_nil)))))) (fun _ _ _ h => rr_f h) fun s9 =>
  (xb_retP 0 rfl (pu_I _) fun S _ => .inl ⟨S, rfl⟩)))))))))))

@[irreducible] noncomputable def p_ratio (top : Int) (bottom : Int) : Res (Int × Int) :=
  ((.ok (decide (bottom = (0 : Int)))) >>= fun b8 => if b8 = true then
  (.exc ⟨1, []⟩)
 else
  ((noX (p_divisor top bottom)) >>= fun by__1 =>
  ((((.ok (decide (bottom < (0 : Int)))) >>= fun b7 => if b7 = true then
  ((.ok ((0 : Int) - by__1)) >>= fun by__4 =>
  (.ok by__4))
 else
  (.ok by__1)) : Res (Int)) >>= fun s3 =>
  ((pDiv top s3) >>= fun a5 => ((pDiv bottom s3) >>= fun a6 => .ok (a5, a6))))))
theorem le_ratio (top : Int) (bottom : Int) : Le (eT2 eI eI) (p_ratio top bottom) (sem_ratio [eI top, eI bottom]) := by
  unfold p_ratio sem_ratio
  exact run_le (m := 1) (ds := [eI top, eI bottom]) (show XB [some (.fz (eI top)), some (.fz (eI bottom)), none] _ _ _ from
  (xb_last (xb_as (yb_if (xt_Bl (z2pp (lo_eq q_I) (xe_var eI bottom 1 rfl) (xe_C (e := eI) (a := (0 : Int)) rfl) rfl)) rfl
  xb_raise
  (xb_skip (xb_as (yb_setF 2 pu_I (xe_call (zaP (xe_var eI top 0 rfl) (zaP (xe_var eI bottom 1 rfl) (xa_nil (Le.noX (le_divisor top bottom)))))) rfl fun by__1 =>
  (xb_at (N := [some (.fz (eI top)), some (.fz (eI bottom)), some (.fz (eI by__1))]) rfl (xb_as (xb_join (N := fun s3 : Int => ([some (.fz (eI top)), some (.fz (eI bottom)), some (.fz (eI s3))] : PP)) (xb_last (yb_if (xt_Bl (z2pp lo_lt (xe_var eI bottom 1 rfl) (xe_C (e := eI) (a := (0 : Int)) rfl) rfl)) rfl
  (yb_setF 2 pu_I (z2pp lo_sub (xe_C (e := eI) (a := (0 : Int)) rfl) (xe_var eI by__1 2 rfl) rfl) rfl fun by__4 =>
  (xb_end (wk_s (wk_s (wk_s wk_nil)))))
  (xb_skip (xb_end (wk_s (wk_s (wk_s wk_nil))))))) fun s3 =>
  (yb_retF (xe_tup (ya_cons (z2pp lo_div (xe_var eI top 0 rfl) (xe_var eI s3 2 rfl) rfl) rfl fun a5 => (ya_cons (z2pp lo_div (xe_var eI bottom 1 rfl) (xe_var eI s3 2 rfl) rfl) rfl fun a6 => (xa_nil (ld_T2 a5 a6))))) rfl)))))))))))

@[irreducible] noncomputable def pX_ratio (top : Int) (bottom : Int) : Res (Int × Int) :=
  ((.ok (decide (bottom = (0 : Int)))) >>= fun b8 => if b8 = true then
  (.exc ⟨1, []⟩)
 else
  ((noX (p_divisor top bottom)) >>= fun by__1 =>
  ((((.ok (decide (bottom < (0 : Int)))) >>= fun b7 => if b7 = true then
  ((.ok ((0 : Int) - by__1)) >>= fun by__4 =>
  (.ok by__4))
 else
  (.ok by__1)) : Res (Int)) >>= fun s3 =>
  ((pDiv top s3) >>= fun a5 => ((pDiv bottom s3) >>= fun a6 => .ok (a5, a6))))))
theorem leX_ratio (top : Int) (bottom : Int) : Le (eT2 eI eI) (pX_ratio top bottom) (semX_ratio [eI top, eI bottom]) := by
  unfold pX_ratio semX_ratio
  exact run_le (m := 1) (ds := [eI top, eI bottom]) (show XB [some (.fz (eI top)), some (.fz (eI bottom)), none] _ _ _ from
  (xb_last (xb_as (yb_if (xt_Bl (z2pp (lo_eq q_I) (xe_var eI bottom 1 rfl) (xe_C (e := eI) (a := (0 : Int)) rfl) rfl)) rfl
  xb_raise
  (xb_skip (xb_as (yb_setF 2 pu_I (xe_call (zaP (xe_var eI top 0 rfl) (zaP (xe_var eI bottom 1 rfl) (xa_nil (Le.noX (le_divisor top bottom)))))) rfl fun by__1 =>
  (xb_at (N := [some (.fz (eI top)), some (.fz (eI bottom)), some (.fz (eI by__1))]) rfl (xb_as (xb_join (N := fun s3 : Int => ([some (.fz (eI top)), some (.fz (eI bottom)), some (.fz (eI s3))] : PP)) (xb_last (yb_if (xt_Bl (z2pp lo_lt (xe_var eI bottom 1 rfl) (xe_C (e := eI) (a := (0 : Int)) rfl) rfl)) rfl
  (yb_setF 2 pu_I (z2pp lo_sub (xe_C (e := eI) (a := (0 : Int)) rfl) (xe_var eI by__1 2 rfl) rfl) rfl fun by__4 =>
  (xb_end (wk_s (wk_s (wk_s wk_nil)))))
  (xb_skip (xb_end (wk_s (wk_s (wk_s wk_nil))))))) fun s3 =>
  (yb_retF (xe_tup (ya_cons (z2pp lo_div (xe_var eI top 0 rfl) (xe_var eI s3 2 rfl) rfl) rfl fun a5 => (ya_cons (z2pp lo_div (xe_var eI bottom 1 rfl) (xe_var eI s3 2 rfl) rfl) rfl fun a6 => (xa_nil (ld_T2 a5 a6))))) rfl)))))))))))

@[irreducible] noncomputable def p__law_cell_at (script : (List Int)) (k : Int) : Res Int :=
  ((.ok (decide (k < (script.length : Int)))) >>= fun b1 => if b1 = true then
  (pAt script k)
 else
  (.ok (0 : Int)))
theorem le__law_cell_at (script : (List Int)) (k : Int) : Le eI (p__law_cell_at script k) (sem__law_cell_at [eC script, eI k]) := by
  unfold p__law_cell_at sem__law_cell_at
  exact run_le (m := 0) (ds := [eC script, eI k]) (show XB [some (.fz (eC script)), some (.fz (eI k))] _ _ _ from
  (xb_last (xb_as (yb_if (xt_Bl (z2pp lo_lt (xe_var eI k 1 rfl) (z1p lo_lenC (xe_var eC script 0 rfl) rfl) rfl)) rfl
  (yb_retF (xe_P pu_I (z2pp lo_ixC (xe_var eC script 0 rfl) (xe_var eI k 1 rfl) rfl)) rfl)
  (xb_skip (yb_retF (xe_C (e := eI) (a := (0 : Int)) rfl) rfl))))))

@[irreducible] noncomputable def p_plus (one : (Int × Int)) (other : (Int × Int)) : Res (Int × Int) :=
  (((pMul one.1 other.2) >>= fun a1 => ((pMul other.1 one.2) >>= fun a2 => .ok (a1 + a2))) >>= fun a3 => ((pMul one.2 other.2) >>= fun a4 => (noX (p_ratio a3 a4))))
theorem le_plus (one : (Int × Int)) (other : (Int × Int)) : Le (eT2 eI eI) (p_plus one other) (sem_plus [(eT2 eI eI) one, (eT2 eI eI) other]) := by
  unfold p_plus sem_plus
  exact run_le (m := 0) (ds := [(eT2 eI eI) one, (eT2 eI eI) other]) (show XB [some (.fz ((eT2 eI eI) one)), some (.fz ((eT2 eI eI) other))] _ _ _ from
  (xb_last (yb_retF (xe_call (ya_cons (z2ii lo_add (z2pp lo_mul (z20p (xe_var (eT2 eI eI) one 0 rfl) rfl) (z21p (xe_var (eT2 eI eI) other 1 rfl) rfl) rfl) (z2pp lo_mul (z20p (xe_var (eT2 eI eI) other 1 rfl) rfl) (z21p (xe_var (eT2 eI eI) one 0 rfl) rfl) rfl) rfl) rfl fun a3 => (ya_cons (z2pp lo_mul (z21p (xe_var (eT2 eI eI) one 0 rfl) rfl) (z21p (xe_var (eT2 eI eI) other 1 rfl) rfl) rfl) rfl fun a4 => (xa_nil (Le.noX (le_ratio a3 a4)))))) rfl)))

@[irreducible] noncomputable def p_minus (one : (Int × Int)) (other : (Int × Int)) : Res (Int × Int) :=
  (((pMul one.1 other.2) >>= fun a1 => ((pMul other.1 one.2) >>= fun a2 => .ok (a1 - a2))) >>= fun a3 => ((pMul one.2 other.2) >>= fun a4 => (noX (p_ratio a3 a4))))
theorem le_minus (one : (Int × Int)) (other : (Int × Int)) : Le (eT2 eI eI) (p_minus one other) (sem_minus [(eT2 eI eI) one, (eT2 eI eI) other]) := by
  unfold p_minus sem_minus
  exact run_le (m := 0) (ds := [(eT2 eI eI) one, (eT2 eI eI) other]) (show XB [some (.fz ((eT2 eI eI) one)), some (.fz ((eT2 eI eI) other))] _ _ _ from
  (xb_last (yb_retF (xe_call (ya_cons (z2ii lo_sub (z2pp lo_mul (z20p (xe_var (eT2 eI eI) one 0 rfl) rfl) (z21p (xe_var (eT2 eI eI) other 1 rfl) rfl) rfl) (z2pp lo_mul (z20p (xe_var (eT2 eI eI) other 1 rfl) rfl) (z21p (xe_var (eT2 eI eI) one 0 rfl) rfl) rfl) rfl) rfl fun a3 => (ya_cons (z2pp lo_mul (z21p (xe_var (eT2 eI eI) one 0 rfl) rfl) (z21p (xe_var (eT2 eI eI) other 1 rfl) rfl) rfl) rfl fun a4 => (xa_nil (Le.noX (le_ratio a3 a4)))))) rfl)))

@[irreducible] noncomputable def p_times (one : (Int × Int)) (other : (Int × Int)) : Res (Int × Int) :=
  ((pMul one.1 other.1) >>= fun a1 => ((pMul one.2 other.2) >>= fun a2 => (noX (p_ratio a1 a2))))
theorem le_times (one : (Int × Int)) (other : (Int × Int)) : Le (eT2 eI eI) (p_times one other) (sem_times [(eT2 eI eI) one, (eT2 eI eI) other]) := by
  unfold p_times sem_times
  exact run_le (m := 0) (ds := [(eT2 eI eI) one, (eT2 eI eI) other]) (show XB [some (.fz ((eT2 eI eI) one)), some (.fz ((eT2 eI eI) other))] _ _ _ from
  (xb_last (yb_retF (xe_call (ya_cons (z2pp lo_mul (z20p (xe_var (eT2 eI eI) one 0 rfl) rfl) (z20p (xe_var (eT2 eI eI) other 1 rfl) rfl) rfl) rfl fun a1 => (ya_cons (z2pp lo_mul (z21p (xe_var (eT2 eI eI) one 0 rfl) rfl) (z21p (xe_var (eT2 eI eI) other 1 rfl) rfl) rfl) rfl fun a2 => (xa_nil (Le.noX (le_ratio a1 a2)))))) rfl)))

@[irreducible] noncomputable def p__law_divisor (one : Int) (other : Int) : Res Int :=
  ((.ok (pAbs one)) >>= fun one_1 =>
  ((.ok (pAbs other)) >>= fun other_2 =>
  (pWhile (ρ := Int) (fun (s9 : Int × Int) => (.ok (decide (s9.2 > (0 : Int))))) (fun (s9 : Int × Int) =>
  ((.ok s9.2) >>= fun one_10 => (pMod s9.1 s9.2) >>= fun other_11 =>
  (.ok (.nx (one_10, other_11))))) (one_1, other_2) >>= fun c => ctk c (fun s9 =>
  (.ok s9.1)) (fun r => .ok r))))
theorem le__law_divisor (one : Int) (other : Int) : Le eI (p__law_divisor one other) (sem__law_divisor [eI one, eI other]) := by
  unfold p__law_divisor sem__law_divisor
  exact run_le (m := 0) (ds := [eI one, eI other]) (show XB [some (.fz (eI one)), some (.fz (eI other))] _ _ _ from
  (xb_last (xb_as (yb_setF 0 pu_I (z1p lo_abs (xe_var eI one 0 rfl) rfl) rfl fun one_1 =>
  (xb_at (N := [some (.fz (eI one_1)), some (.fz (eI other))]) rfl (xb_as (yb_setF 1 pu_I (z1p lo_abs (xe_var eI other 1 rfl) rfl) rfl fun other_2 =>
  (xb_at (N := [some (.fz (eI one_1)), some (.fz (eI other_2))]) rfl (xb_as (yb_while (N := (fun s9 : Int × Int => ([some (.fz (eI s9.1)), some (.fz (eI s9.2))] : PP))) (RR := (RRF eI)) (s0 := (one_1, other_2)) (wk_s (wk_s wk_nil)) (fun s9 => (xt_Bl (z2pp lo_gt (xe_var eI s9.2 1 rfl) (xe_C (e := eI) (a := (0 : Int)) rfl) rfl))) rfl (fun s9 =>
  (xb_last (yb_par 0 1 pu_I pu_I (xe_var eI s9.2 1 rfl) rfl (z2pp lo_mod (xe_var eI s9.1 0 rfl) (xe_var eI s9.2 1 rfl) rfl) rfl fun one_10 other_11 =>
  (xb_endc (wk_s (wk_s wk_nil)))))) (fun _ _ _ h => rr_f h) fun s9 =>
  (xb_retP 0 rfl (pu_I _) fun S _ => .inl ⟨S, rfl⟩)))))))))))

@[irreducible] noncomputable def p__law_lowest (top : Int) (bottom : Int) : Res (Int × Int) :=
  ((noX (p__law_divisor top bottom)) >>= fun by__1 =>
  ((((.ok (decide (bottom < (0 : Int)))) >>= fun b7 => if b7 = true then
  ((.ok ((0 : Int) - by__1)) >>= fun by__4 =>
  (.ok by__4))
 else
  (.ok by__1)) : Res (Int)) >>= fun s3 =>
  ((pDiv top s3) >>= fun a5 => ((pDiv bottom s3) >>= fun a6 => .ok (a5, a6)))))
theorem le__law_lowest (top : Int) (bottom : Int) : Le (eT2 eI eI) (p__law_lowest top bottom) (sem__law_lowest [eI top, eI bottom]) := by
  unfold p__law_lowest sem__law_lowest
  exact run_le (m := 1) (ds := [eI top, eI bottom]) (show XB [some (.fz (eI top)), some (.fz (eI bottom)), none] _ _ _ from
  (xb_last (xb_as (yb_setF 2 pu_I (xe_call (zaP (xe_var eI top 0 rfl) (zaP (xe_var eI bottom 1 rfl) (xa_nil (Le.noX (le__law_divisor top bottom)))))) rfl fun by__1 =>
  (xb_at (N := [some (.fz (eI top)), some (.fz (eI bottom)), some (.fz (eI by__1))]) rfl (xb_as (xb_join (N := fun s3 : Int => ([some (.fz (eI top)), some (.fz (eI bottom)), some (.fz (eI s3))] : PP)) (xb_last (yb_if (xt_Bl (z2pp lo_lt (xe_var eI bottom 1 rfl) (xe_C (e := eI) (a := (0 : Int)) rfl) rfl)) rfl
  (yb_setF 2 pu_I (z2pp lo_sub (xe_C (e := eI) (a := (0 : Int)) rfl) (xe_var eI by__1 2 rfl) rfl) rfl fun by__4 =>
  (xb_end (wk_s (wk_s (wk_s wk_nil)))))
  (xb_skip (xb_end (wk_s (wk_s (wk_s wk_nil))))))) fun s3 =>
  (yb_retF (xe_tup (ya_cons (z2pp lo_div (xe_var eI top 0 rfl) (xe_var eI s3 2 rfl) rfl) rfl fun a5 => (ya_cons (z2pp lo_div (xe_var eI bottom 1 rfl) (xe_var eI s3 2 rfl) rfl) rfl fun a6 => (xa_nil (ld_T2 a5 a6))))) rfl))))))))

@[irreducible] noncomputable def p__law_fraction_by (cell : Int) (k : Int) : Res (Int × Int) :=
  ((((pPow (10 : Int) (18 : Int)) >>= fun a1 => (pMod cell a1)) >>= fun a2 => ((pMul (48271 : Int) (k + (1 : Int))) >>= fun a3 => .ok (a2 + a3))) >>= fun number_4 =>
  (((pMul number_4 number_4) >>= fun a5 => (pMod a5 (2147483647 : Int))) >>= fun number_6 =>
  ((((((pDiv number_6 (6 : Int)) >>= fun a9 => (pMod a9 (13 : Int))) >>= fun a10 => .ok (a10 - (6 : Int))) >>= fun a11 => ((((pDiv number_6 (6 : Int)) >>= fun a12 => (pMod a12 (200001 : Int))) >>= fun a13 => ((pPow (10 : Int) (5 : Int)) >>= fun a14 => .ok (a13 - a14))) >>= fun a15 => (((((pPow (10 : Int) (9 : Int)) >>= fun a16 => (pMul (2 : Int) a16)) >>= fun a17 => (pMod cell a17)) >>= fun a18 => ((pPow (10 : Int) (9 : Int)) >>= fun a19 => .ok (a18 - a19))) >>= fun a20 => .ok ([a11, a15, a20] : List Int)))) >>= fun a22 => (((pDiv number_6 (6 : Int)) >>= fun a21 => (pMod a21 (3 : Int))) >>= fun a23 => (pAt a22 a23))) >>= fun top_24 =>
  (((pMod number_6 (6 : Int)) >>= fun a25 => .ok ((1 : Int) + a25)) >>= fun a26 => (noX (p__law_lowest top_24 a26))))))
theorem le__law_fraction_by (cell : Int) (k : Int) : Le (eT2 eI eI) (p__law_fraction_by cell k) (sem__law_fraction_by [eI cell, eI k]) := by
  unfold p__law_fraction_by sem__law_fraction_by
  exact run_le (m := 2) (ds := [eI cell, eI k]) (show XB [some (.fz (eI cell)), some (.fz (eI k)), none, none] _ _ _ from
  (xb_last (xb_as (yb_setF 2 pu_I (z2ii lo_add (z2pi lo_mod (xe_var eI cell 0 rfl) (z2pp lo_pow (xe_C (e := eI) (a := (10 : Int)) rfl) (xe_C (e := eI) (a := (18 : Int)) rfl) rfl) rfl) (z2pp lo_mul (xe_C (e := eI) (a := (48271 : Int)) rfl) (z2pp lo_add (xe_var eI k 1 rfl) (xe_C (e := eI) (a := (1 : Int)) rfl) rfl) rfl) rfl) rfl fun number_4 =>
  (xb_at (N := [some (.fz (eI cell)), some (.fz (eI k)), some (.fz (eI number_4)), none]) rfl (xb_as (yb_setF 2 pu_I (z2ip lo_mod (z2pp lo_mul (xe_var eI number_4 2 rfl) (xe_var eI number_4 2 rfl) rfl) (xe_C (e := eI) (a := (2147483647 : Int)) rfl) rfl) rfl fun number_6 =>
  (xb_at (N := [some (.fz (eI cell)), some (.fz (eI k)), some (.fz (eI number_6)), none]) rfl (xb_as (yb_setF 3 pu_I (xe_P pu_I (z2ii (lo_ix (e := eI)) (xe_lst (ya_cons (z2ip lo_sub (z2ip lo_mod (z2pp lo_div (xe_var eI number_6 2 rfl) (xe_C (e := eI) (a := (6 : Int)) rfl) rfl) (xe_C (e := eI) (a := (13 : Int)) rfl) rfl) (xe_C (e := eI) (a := (6 : Int)) rfl) rfl) rfl fun a11 => (ya_cons (z2ii lo_sub (z2ip lo_mod (z2pp lo_div (xe_var eI number_6 2 rfl) (xe_C (e := eI) (a := (6 : Int)) rfl) rfl) (xe_C (e := eI) (a := (200001 : Int)) rfl) rfl) (z2pp lo_pow (xe_C (e := eI) (a := (10 : Int)) rfl) (xe_C (e := eI) (a := (5 : Int)) rfl) rfl) rfl) rfl fun a15 => (ya_cons (z2ii lo_sub (z2pi lo_mod (xe_var eI cell 0 rfl) (z2pi lo_mul (xe_C (e := eI) (a := (2 : Int)) rfl) (z2pp lo_pow (xe_C (e := eI) (a := (10 : Int)) rfl) (xe_C (e := eI) (a := (9 : Int)) rfl) rfl) rfl) rfl) (z2pp lo_pow (xe_C (e := eI) (a := (10 : Int)) rfl) (xe_C (e := eI) (a := (9 : Int)) rfl) rfl) rfl) rfl fun a20 => (xa_nil (ld_L (e := eI) [a11, a15, a20] _ rfl rfl)))))) (z2ip lo_mod (z2pp lo_div (xe_var eI number_6 2 rfl) (xe_C (e := eI) (a := (6 : Int)) rfl) rfl) (xe_C (e := eI) (a := (3 : Int)) rfl) rfl) rfl)) rfl fun top_24 =>
  (xb_at (N := [some (.fz (eI cell)), some (.fz (eI k)), some (.fz (eI number_6)), some (.fz (eI top_24))]) rfl (yb_retF (xe_call (zaP (xe_var eI top_24 3 rfl) (ya_cons (z2pi lo_add (xe_C (e := eI) (a := (1 : Int)) rfl) (z2pp lo_mod (xe_var eI number_6 2 rfl) (xe_C (e := eI) (a := (6 : Int)) rfl) rfl) rfl) rfl fun a26 => (xa_nil (Le.noX (le__law_lowest top_24 a26)))))) rfl))))))))))))

@[irreducible] noncomputable def p__law_great (one : Int) (other : Int) : Res (Int × Int) :=
  ((((((pPow (10 : Int) (60 : Int)) >>= fun a1 => (pMul (2 : Int) a1)) >>= fun a2 => .ok (a2 - (1 : Int))) >>= fun a3 => (pMod one a3)) >>= fun a5 => (((pPow (10 : Int) (60 : Int)) >>= fun a4 => .ok (a4 - (1 : Int))) >>= fun a6 => .ok (a5 - a6))) >>= fun top_7 =>
  (((((pPow (10 : Int) (60 : Int)) >>= fun a8 => .ok (a8 - (1 : Int))) >>= fun a9 => (pMod other a9)) >>= fun a10 => .ok ((1 : Int) + a10)) >>= fun a11 => (noX (p__law_lowest top_7 a11))))
theorem le__law_great (one : Int) (other : Int) : Le (eT2 eI eI) (p__law_great one other) (sem__law_great [eI one, eI other]) := by
  unfold p__law_great sem__law_great
  exact run_le (m := 1) (ds := [eI one, eI other]) (show XB [some (.fz (eI one)), some (.fz (eI other)), none] _ _ _ from
  (xb_last (xb_as (yb_setF 2 pu_I (z2ii lo_sub (z2pi lo_mod (xe_var eI one 0 rfl) (z2ip lo_sub (z2pi lo_mul (xe_C (e := eI) (a := (2 : Int)) rfl) (z2pp lo_pow (xe_C (e := eI) (a := (10 : Int)) rfl) (xe_C (e := eI) (a := (60 : Int)) rfl) rfl) rfl) (xe_C (e := eI) (a := (1 : Int)) rfl) rfl) rfl) (z2ip lo_sub (z2pp lo_pow (xe_C (e := eI) (a := (10 : Int)) rfl) (xe_C (e := eI) (a := (60 : Int)) rfl) rfl) (xe_C (e := eI) (a := (1 : Int)) rfl) rfl) rfl) rfl fun top_7 =>
  (xb_at (N := [some (.fz (eI one)), some (.fz (eI other)), some (.fz (eI top_7))]) rfl (yb_retF (xe_call (zaP (xe_var eI top_7 2 rfl) (ya_cons (z2pi lo_add (xe_C (e := eI) (a := (1 : Int)) rfl) (z2pi lo_mod (xe_var eI other 1 rfl) (z2ip lo_sub (z2pp lo_pow (xe_C (e := eI) (a := (10 : Int)) rfl) (xe_C (e := eI) (a := (60 : Int)) rfl) rfl) (xe_C (e := eI) (a := (1 : Int)) rfl) rfl) rfl) rfl) rfl fun a11 => (xa_nil (Le.noX (le__law_lowest top_7 a11)))))) rfl))))))

@[irreducible] noncomputable def p__law_whole_I (found : Int) : Res Bool :=
  (.ok (true && (!false)))
theorem le__law_whole_I (found : Int) : Le eB (p__law_whole_I found) (sem__law_whole [eI found]) := by
  unfold p__law_whole_I sem__law_whole
  exact run_le (m := 0) (ds := [eI found]) (show XB [some (.fz (eI found))] _ _ _ from
  (xb_last (yb_retF (xe_P pu_B (zxAnpp (z1p (li_I (rfl)) (xe_var eI found 0 rfl) rfl) (zxNop (z1p (li_I (rfl)) (xe_var eI found 0 rfl) rfl) rfl) rfl)) rfl)))

@[irreducible] noncomputable def p__law_is_fraction_TII (found : (Int × Int)) : Res Bool :=
  ((if (!true) = true then .ok true else (if (decide ((2 : Int) ≠ (2 : Int))) = true then .ok true else (((noX (p__law_whole_I found.1)) >>= fun a1 => .ok (!a1)) >>= fun b3 => if b3 = true then .ok true else ((noX (p__law_whole_I found.2)) >>= fun a2 => .ok (!a2))))) >>= fun b8 => if b8 = true then
  (.ok false)
 else
  (if (decide (found.2 > (0 : Int))) = true then ((noX (p__law_divisor found.1 found.2)) >>= fun a6 => .ok (decide (a6 = (1 : Int)))) else .ok false))
theorem le__law_is_fraction_TII (found : (Int × Int)) : Le eB (p__law_is_fraction_TII found) (sem__law_is_fraction [(eT2 eI eI) found]) := by
  unfold p__law_is_fraction_TII sem__law_is_fraction
  exact run_le (m := 0) (ds := [(eT2 eI eI) found]) (show XB [some (.fz ((eT2 eI eI) found))] _ _ _ from
  (xb_last (xb_as (yb_if (zOrpi (zNop (xt_Bl (z1p (li_T2 (rfl)) (xe_var (eT2 eI eI) found 0 rfl) rfl)) rfl) (zOrpi (xt_Bl (z2pp (lo_ne q_I) (z1p lo_lenT2 (xe_var (eT2 eI eI) found 0 rfl) rfl) (xe_C (e := eI) (a := (2 : Int)) rfl) rfl)) (zOrii (zNoi (xt_Bl (xe_call (zaP (z20p (xe_var (eT2 eI eI) found 0 rfl) rfl) (xa_nil (Le.noX (le__law_whole_I found.1)))))) rfl) (zNoi (xt_Bl (xe_call (zaP (z21p (xe_var (eT2 eI eI) found 0 rfl) rfl) (xa_nil (Le.noX (le__law_whole_I found.2)))))) rfl) rfl) rfl) rfl) rfl
  (yb_retF (xe_C (e := eB) (a := false) rfl) rfl)
  (xb_skip (yb_retF (xe_P pu_B (zxAnpi (z2pp lo_gt (z21p (xe_var (eT2 eI eI) found 0 rfl) rfl) (xe_C (e := eI) (a := (0 : Int)) rfl) rfl) (z2ip (lo_eq q_I) (xe_call (zaP (z20p (xe_var (eT2 eI eI) found 0 rfl) rfl) (zaP (z21p (xe_var (eT2 eI eI) found 0 rfl) rfl) (xa_nil (Le.noX (le__law_divisor found.1 found.2)))))) (xe_C (e := eI) (a := (1 : Int)) rfl) rfl) rfl)) rfl))))))

@[irreducible] noncomputable def p__law_worth (found : (Int × Int)) (top : Int) (bottom : Int) : Res Bool :=
  ((noX (p__law_is_fraction_TII found)) >>= fun b3 => if b3 = true then ((pMul found.1 bottom) >>= fun a1 => ((pMul top found.2) >>= fun a2 => .ok (decide (a1 = a2)))) else .ok false)
theorem le__law_worth (found : (Int × Int)) (top : Int) (bottom : Int) : Le eB (p__law_worth found top bottom) (sem__law_worth [(eT2 eI eI) found, eI top, eI bottom]) := by
  unfold p__law_worth sem__law_worth
  exact run_le (m := 0) (ds := [(eT2 eI eI) found, eI top, eI bottom]) (show XB [some (.fz ((eT2 eI eI) found)), some (.fz (eI top)), some (.fz (eI bottom))] _ _ _ from
  (xb_last (yb_retF (xe_P pu_B (zxAnii (xe_call (zaP (xe_var (eT2 eI eI) found 0 rfl) (xa_nil (Le.noX (le__law_is_fraction_TII found))))) (z2ii (lo_eq q_I) (z2pp lo_mul (z20p (xe_var (eT2 eI eI) found 0 rfl) rfl) (xe_var eI bottom 2 rfl) rfl) (z2pp lo_mul (xe_var eI top 1 rfl) (z21p (xe_var (eT2 eI eI) found 0 rfl) rfl) rfl) rfl) rfl)) rfl)))

@[irreducible] noncomputable def p_over (one : (Int × Int)) (other : (Int × Int)) : Res (Int × Int) :=
  ((pMul one.1 other.2) >>= fun a1 => ((pMul one.2 other.1) >>= fun a2 => (noX (p_ratio a1 a2))))
theorem le_over (one : (Int × Int)) (other : (Int × Int)) : Le (eT2 eI eI) (p_over one other) (sem_over [(eT2 eI eI) one, (eT2 eI eI) other]) := by
  unfold p_over sem_over
  exact run_le (m := 0) (ds := [(eT2 eI eI) one, (eT2 eI eI) other]) (show XB [some (.fz ((eT2 eI eI) one)), some (.fz ((eT2 eI eI) other))] _ _ _ from
  (xb_last (yb_retF (xe_call (ya_cons (z2pp lo_mul (z20p (xe_var (eT2 eI eI) one 0 rfl) rfl) (z21p (xe_var (eT2 eI eI) other 1 rfl) rfl) rfl) rfl fun a1 => (ya_cons (z2pp lo_mul (z21p (xe_var (eT2 eI eI) one 0 rfl) rfl) (z20p (xe_var (eT2 eI eI) other 1 rfl) rfl) rfl) rfl fun a2 => (xa_nil (Le.noX (le_ratio a1 a2)))))) rfl)))

@[irreducible] noncomputable def pX_over (one : (Int × Int)) (other : (Int × Int)) : Res (Int × Int) :=
  ((pMul one.1 other.2) >>= fun a1 => ((pMul one.2 other.1) >>= fun a2 => (pX_ratio a1 a2)))
theorem leX_over (one : (Int × Int)) (other : (Int × Int)) : Le (eT2 eI eI) (pX_over one other) (semX_over [(eT2 eI eI) one, (eT2 eI eI) other]) := by
  unfold pX_over semX_over
  exact run_le (m := 0) (ds := [(eT2 eI eI) one, (eT2 eI eI) other]) (show XB [some (.fz ((eT2 eI eI) one)), some (.fz ((eT2 eI eI) other))] _ _ _ from
  (xb_last (yb_retF (xe_callX (ya_cons (z2pp lo_mul (z20p (xe_var (eT2 eI eI) one 0 rfl) rfl) (z21p (xe_var (eT2 eI eI) other 1 rfl) rfl) rfl) rfl fun a1 => (ya_cons (z2pp lo_mul (z21p (xe_var (eT2 eI eI) one 0 rfl) rfl) (z20p (xe_var (eT2 eI eI) other 1 rfl) rfl) rfl) rfl fun a2 => (xa_nil (leX_ratio a1 a2))))) rfl)))

@[irreducible] noncomputable def p_ties (orders : (List (List Int))) : Res (List (Int × Int)) :=
  ((.ok ([] : List (Int × Int))) >>= fun found_1 =>
  ((pR1 (orders.length : Int)) >>= fun w2 => pFor (fun (s14 : (List (Int × Int))) (x3 : Int) =>
  (((((pAt orders x3) >>= fun a15 => .ok (srt a15)) >>= fun a17 => (pLc a17 (fun x16 => (.ok (decide (x3 < x16)))) (fun x16 => (.ok (x3, x16))))) >>= fun a18 => (pCat s14 a18)) >>= fun found_19 =>
  (.ok found_19))) w2 found_1 >>= fun s14 =>
  (.ok s14)))
theorem le_ties (orders : (List (List Int))) : Le (eL (eT2 eI eI)) (p_ties orders) (sem_ties [(eL (eL eI)) orders]) := by
  unfold p_ties sem_ties
  exact run_le (m := 3) (ds := [(eL (eL eI)) orders]) (show XB [some (.fz ((eL (eL eI)) orders)), none, none, none] _ _ _ from
  (xb_last (xb_as (yb_setO 1 im_L (xe_lst (xa_nil (ld_L (e := (eT2 eI eI)) [] _ rfl rfl))) rfl fun found_1 =>
  (xb_at (N := [some (.fz ((eL (eL eI)) orders)), some (.own ((eL (eT2 eI eI)) found_1)), none, none]) rfl (xb_as (yb_for (N := (fun s14 : (List (Int × Int)) => ([some (.fz ((eL (eL eI)) orders)), some (.own ((eL (eT2 eI eI)) s14)), none, none] : PP))) (s0 := (fun w2 : (List Int) => found_1)) (xs_K (zR1p (z1p (lo_len (e := (eL eI))) (xe_var (eL (eL eI)) orders 0 rfl) rfl) rfl)) (by simp only [okB]) (fun w2 => (wk_s (wk_s (wk_n (wk_n wk_nil))))) (fun s14 x3 =>
  (xb_last (xb_at (N := [some (.fz ((eL (eL eI)) orders)), some (.own ((eL (eT2 eI eI)) s14)), some (.fz (eI x3)), none]) rfl (yb_setO 1 im_L (z2pi (lo_cat (pu_T2 pu_I pu_I)) (xe_var (eL (eT2 eI eI)) s14 1 rfl) (zlci (xi_L (z1i lo_sort (z2pp (lo_ix (e := (eL eI))) (xe_var (eL (eL eI)) orders 0 rfl) (xe_var eI x3 2 rfl) rfl) rfl)) (fun x16 => (xt_Bl (z2pp lo_lt (xe_var eI x3 2 rfl) (xe_var eI x16 3 rfl) rfl))) (fun x16 => (xe_tup (zaP (xe_P pu_I (xe_var eI x3 2 rfl)) (zaP (xe_P pu_I (xe_var eI x16 3 rfl)) (xa_nil (ld_T2 x3 x16)))))) rfl) rfl) rfl fun found_19 =>
  (xb_ends (wk_s (wk_s (wk_n (wk_n wk_nil))))))))) fun s14 =>
  (xb_retO 1 rfl fun S _ => .inl ⟨S, rfl⟩))))))))

@[irreducible] noncomputable def p_come_to (orders : (List (List Int))) (start : Int) (gone : (List Int)) : Res (List (Int × Bool)) :=
  ((.ok ([] : (List (Int × Bool)))) >>= fun found_1 =>
  ((pPut found_1 start true) >>= fun found_2 =>
  ((.ok ([start] : List Int)) >>= fun row_5 =>
  (pWhile (ρ := (List (Int × Bool))) (fun (s46 : (List (Int × Bool)) × (List Int)) => (.ok (decide (s46.2 ≠ ([] : List Int))))) (fun (s46 : (List (Int × Bool)) × (List Int)) =>
  (((pPop s46.2) >>= fun w47 => pAt orders w47.1 >>= fun l48 => .ok (l48, w47)) >>= fun w49 => pFor (fun (s61 : (List (Int × Bool)) × (List Int)) (x50 : Int) =>
  ((.ok ((!pHas s61.1 x50) && (decide (x50 ∉ gone)))) >>= fun b66 => if b66 = true then
  ((pPut s61.1 x50 true) >>= fun found_62 =>
  (((pApp s61.2 x50)) >>= fun row_65 =>
  (.ok (found_62, row_65))))
 else
  (.ok (s61.1, s61.2)))) w49.1 (s46.1, w49.2.2) >>= fun s61 =>
  (.ok (.nx (s61.1, s61.2))))) (found_2, row_5) >>= fun c => ctk c (fun s46 =>
  (.ok s46.1)) (fun r => .ok r)))))
theorem le_come_to (orders : (List (List Int))) (start : Int) (gone : (List Int)) : Le (eDI eB) (p_come_to orders start gone) (sem_come_to [(eL (eL eI)) orders, eI start, (eL eI) gone]) := by
  unfold p_come_to sem_come_to
  exact run_le (m := 3) (ds := [(eL (eL eI)) orders, eI start, (eL eI) gone]) (show XB [some (.fz ((eL (eL eI)) orders)), some (.fz (eI start)), some (.fz ((eL eI) gone)), none, none, none] _ _ _ from
  (xb_last (xb_as (yb_setO 3 im_DI (xe_C (e := (eDI eB)) (a := []) rfl) rfl fun found_1 =>
  (xb_at (N := [some (.fz ((eL (eL eI)) orders)), some (.fz (eI start)), some (.fz ((eL eI) gone)), some (.own ((eDI eB) found_1)), none, none]) rfl (xb_as (yb_putI 3 pu_B rfl (xe_C (e := eB) (a := true) rfl) (xe_var eI start 1 rfl) (by simp only [okB]) fun found_2 =>
  (xb_at (N := [some (.fz ((eL (eL eI)) orders)), some (.fz (eI start)), some (.fz ((eL eI) gone)), some (.own ((eDI eB) found_2)), none, none]) rfl (xb_as (yb_setO 4 im_L (xe_lst (zaP (xe_P pu_I (xe_var eI start 1 rfl)) (xa_nil (ld_L (e := eI) [start] _ rfl rfl)))) rfl fun row_5 =>
  (xb_at (N := [some (.fz ((eL (eL eI)) orders)), some (.fz (eI start)), some (.fz ((eL eI) gone)), some (.own ((eDI eB) found_2)), some (.own ((eL eI) row_5)), none]) rfl (xb_as (yb_while (N := (fun s46 : (List (Int × Bool)) × (List Int) => ([some (.fz ((eL (eL eI)) orders)), some (.fz (eI start)), some (.fz ((eL eI) gone)), some (.own ((eDI eB) s46.1)), some (.own ((eL eI) s46.2)), none] : PP))) (RR := (RRF (eDI eB))) (s0 := (found_2, row_5)) (wk_s (wk_s (wk_s (wk_s (wk_s (wk_n wk_nil)))))) (fun s46 => (xt_Bl (z2pp (lo_ne (q_L q_I)) (xe_var (eL eI) s46.2 4 rfl) (xe_lst (xa_nil (ld_L (e := eI) [] _ rfl rfl))) rfl))) rfl (fun s46 =>
  (xb_last (yb_for (N := (fun s61 : (List (Int × Bool)) × (List Int) => ([some (.fz ((eL (eL eI)) orders)), some (.fz (eI start)), some (.fz ((eL eI) gone)), some (.own ((eDI eB) s61.1)), some (.own ((eL eI) s61.2)), none] : PP))) (s0 := (fun w49 : ((List Int) × (Int × (List Int))) => (s46.1, w49.2.2))) (xs_E (e := eI) (kv := fun w : (Int × (List Int)) => w.1) 0 rfl (xf_pop 4 pu_I rfl)) (by simp only [okB]) (fun w49 => (wk_s (wk_s (wk_s (wk_s (wk_s (wk_n wk_nil))))))) (fun s61 x50 =>
  (xb_last (xb_at (N := [some (.fz ((eL (eL eI)) orders)), some (.fz (eI start)), some (.fz ((eL eI) gone)), some (.own ((eDI eB) s61.1)), some (.own ((eL eI) s61.2)), some (.fz (eI x50))]) rfl (yb_if (zAnpp (xt_Bl (z2pp (lo_ninDI (e := eB)) (xe_var eI x50 5 rfl) (xe_var (eDI eB) s61.1 3 rfl) rfl)) (xt_Bl (z2pp (lo_nin q_I) (xe_var eI x50 5 rfl) (xe_var (eL eI) gone 2 rfl) rfl)) rfl) rfl
  (xb_as (yb_putI 3 pu_B rfl (xe_C (e := eB) (a := true) rfl) (xe_var eI x50 5 rfl) (by simp only [okB]) fun found_62 =>
  (xb_at (N := [some (.fz ((eL (eL eI)) orders)), some (.fz (eI start)), some (.fz ((eL eI) gone)), some (.own ((eDI eB) found_62)), some (.own ((eL eI) s61.2)), some (.fz (eI x50))]) rfl (yb_methT (e := eI) 4 true rfl (zgP (xe_P pu_I (xe_var eI x50 5 rfl)) (xg_nil (lm_app s61.2 x50))) rfl fun row_65 =>
  (xb_ends (wk_s (wk_s (wk_s (wk_s (wk_s (wk_n wk_nil)))))))))))
  (xb_skip (xb_ends (wk_s (wk_s (wk_s (wk_s (wk_s (wk_n wk_nil)))))))))))) fun s61 =>
  (xb_endc (wk_s (wk_s (wk_s (wk_s (wk_s (wk_n wk_nil)))))))))) (fun _ _ _ h => rr_f h) fun s46 =>
  (xb_retO 3 rfl fun S _ => .inl ⟨S, rfl⟩))))))))))))))

@[irreducible] noncomputable def p_hangs (orders : (List (List Int))) : Res Bool :=
  (((noX (p_come_to orders (0 : Int) ([] : List Int))) >>= fun a1 => .ok (a1.length : Int)) >>= fun a2 => .ok (decide (a2 = (orders.length : Int))))
theorem le_hangs (orders : (List (List Int))) : Le eB (p_hangs orders) (sem_hangs [(eL (eL eI)) orders]) := by
  unfold p_hangs sem_hangs
  exact run_le (m := 0) (ds := [(eL (eL eI)) orders]) (show XB [some (.fz ((eL (eL eI)) orders))] _ _ _ from
  (xb_last (yb_retF (z2ip (lo_eq q_I) (z1i (lo_lenDI (e := eB)) (xe_call (zaP (xe_var (eL (eL eI)) orders 0 rfl) (zaP (xe_C (e := eI) (a := (0 : Int)) rfl) (zaP (xe_lst (xa_nil (ld_L (e := eI) [] _ rfl rfl))) (xa_nil (Le.noX (le_come_to orders (0 : Int) ([] : List Int)))))))) rfl) (z1p (lo_len (e := (eL eI))) (xe_var (eL (eL eI)) orders 0 rfl) rfl) rfl) rfl)))

@[irreducible] noncomputable def p__law_block (script : (List Int)) (k : Int) : Res Int :=
  ((.ok (0 : Int)) >>= fun cell_1 =>
  (((((((pDiv k (8 : Int)) >>= fun a2 => (pMod a2 (62 : Int))) >>= fun a3 => .ok ((1 : Int) + a3)) >>= fun a4 => .ok (decide (a4 < (script.length : Int)))) >>= fun b25 => if b25 = true then
  ((((((pDiv k (8 : Int)) >>= fun a12 => (pMod a12 (62 : Int))) >>= fun a13 => .ok ((1 : Int) + a13)) >>= fun a14 => (pAt script a14)) >>= fun a15 => ((pPow (10 : Int) (64 : Int)) >>= fun a16 => (pDiv a15 a16))) >>= fun cell_17 =>
  (.ok cell_17))
 else
  (.ok cell_1)) : Res (Int)) >>= fun s11 =>
  (((pMod k (8 : Int)) >>= fun a18 => (pR1 a18)) >>= fun w19 => pFor (fun (s23 : Int) (x20 : Int) =>
  ((pDiv s23 (2147483587 : Int)) >>= fun cell_24 =>
  (.ok cell_24))) w19 s11 >>= fun s23 =>
  (pMod s23 (2147483587 : Int)))))
theorem le__law_block (script : (List Int)) (k : Int) : Le eI (p__law_block script k) (sem__law_block [eC script, eI k]) := by
  unfold p__law_block sem__law_block
  exact run_le (m := 2) (ds := [eC script, eI k]) (show XB [some (.fz (eC script)), some (.fz (eI k)), none, none] _ _ _ from
  (xb_last (xb_as (yb_setF 2 pu_I (xe_C (e := eI) (a := (0 : Int)) rfl) rfl fun cell_1 =>
  (xb_at (N := [some (.fz (eC script)), some (.fz (eI k)), some (.fz (eI cell_1)), none]) rfl (xb_as (xb_join (N := fun s11 : Int => ([some (.fz (eC script)), some (.fz (eI k)), some (.fz (eI s11)), none] : PP)) (xb_last (yb_if (xt_Bl (z2ip lo_lt (z2pi lo_add (xe_C (e := eI) (a := (1 : Int)) rfl) (z2ip lo_mod (z2pp lo_div (xe_var eI k 1 rfl) (xe_C (e := eI) (a := (8 : Int)) rfl) rfl) (xe_C (e := eI) (a := (62 : Int)) rfl) rfl) rfl) (z1p lo_lenC (xe_var eC script 0 rfl) rfl) rfl)) rfl
  (yb_setF 2 pu_I (z2ii lo_div (z2pi lo_ixC (xe_var eC script 0 rfl) (z2pi lo_add (xe_C (e := eI) (a := (1 : Int)) rfl) (z2ip lo_mod (z2pp lo_div (xe_var eI k 1 rfl) (xe_C (e := eI) (a := (8 : Int)) rfl) rfl) (xe_C (e := eI) (a := (62 : Int)) rfl) rfl) rfl) rfl) (z2pp lo_pow (xe_C (e := eI) (a := (10 : Int)) rfl) (xe_C (e := eI) (a := (64 : Int)) rfl) rfl) rfl) rfl fun cell_17 =>
  (xb_end (wk_s (wk_s (wk_s (wk_n wk_nil))))))
  (xb_skip (xb_end (wk_s (wk_s (wk_s (wk_n wk_nil)))))))) fun s11 =>
  (xb_as (yb_for (N := (fun s23 : Int => ([some (.fz (eC script)), some (.fz (eI k)), some (.fz (eI s23)), none] : PP))) (s0 := (fun w19 : (List Int) => s11)) (xs_K (zR1i (z2pp lo_mod (xe_var eI k 1 rfl) (xe_C (e := eI) (a := (8 : Int)) rfl) rfl) rfl)) (by simp only [okB]) (fun w19 => (wk_s (wk_s (wk_s (wk_n wk_nil))))) (fun s23 x20 =>
  (xb_last (xb_at (N := [some (.fz (eC script)), some (.fz (eI k)), some (.fz (eI s23)), some (.fz (eI x20))]) rfl (yb_setF 2 pu_I (z2pp lo_div (xe_var eI s23 2 rfl) (xe_C (e := eI) (a := (2147483587 : Int)) rfl) rfl) rfl fun cell_24 =>
  (xb_ends (wk_s (wk_s (wk_s (wk_n wk_nil))))))))) fun s23 =>
  (yb_retF (z2pp lo_mod (xe_var eI s23 2 rfl) (xe_C (e := eI) (a := (2147483587 : Int)) rfl) rfl) rfl))))))))))

@[irreducible] noncomputable def p__law_mixed (script : (List Int)) (k : Int) : Res Int :=
  ((.ok (0 : Int)) >>= fun cell_1 =>
  ((((.ok (decide ((script.length : Int) > (0 : Int)))) >>= fun b24 => if b24 = true then
  ((pAt script (0 : Int)) >>= fun cell_4 =>
  (.ok cell_4))
 else
  (.ok cell_1)) : Res (Int)) >>= fun s3 =>
  (((((pPow (10 : Int) (6 : Int)) >>= fun a5 => (pDiv s3 a5)) >>= fun a6 => (pMod a6 (2 : Int))) >>= fun a7 => .ok (decide (a7 = (1 : Int)))) >>= fun b23 => if b23 = true then
  (noX (p__law_block script k))
 else
  ((((.ok (decide ((script.length : Int) > (0 : Int)))) >>= fun b22 => if b22 = true then
  (((pMod k (pMin (63 : Int) (script.length : Int))) >>= fun a11 => (pAt script a11)) >>= fun cell_12 =>
  (.ok cell_12))
 else
  (.ok s3)) : Res (Int)) >>= fun s10 =>
  ((((pPow (10 : Int) (18 : Int)) >>= fun a13 => (pMod s10 a13)) >>= fun a14 => ((pMul (48271 : Int) (k + (1 : Int))) >>= fun a15 => .ok (a14 + a15))) >>= fun number_16 =>
  ((((pMul number_16 number_16) >>= fun a17 => (pMod a17 (2147483629 : Int))) >>= fun a18 => ((pMul (69621 : Int) k) >>= fun a19 => .ok (a18 + a19))) >>= fun number_20 =>
  ((pMul number_20 number_20) >>= fun a21 => (pMod a21 (2147483587 : Int)))))))))
theorem le__law_mixed (script : (List Int)) (k : Int) : Le eI (p__law_mixed script k) (sem__law_mixed [eC script, eI k]) := by
  unfold p__law_mixed sem__law_mixed
  exact run_le (m := 2) (ds := [eC script, eI k]) (show XB [some (.fz (eC script)), some (.fz (eI k)), none, none] _ _ _ from
  (xb_last (xb_as (yb_setF 2 pu_I (xe_C (e := eI) (a := (0 : Int)) rfl) rfl fun cell_1 =>
  (xb_at (N := [some (.fz (eC script)), some (.fz (eI k)), some (.fz (eI cell_1)), none]) rfl (xb_as (xb_join (N := fun s3 : Int => ([some (.fz (eC script)), some (.fz (eI k)), some (.fz (eI s3)), none] : PP)) (xb_last (yb_if (xt_Bl (z2pp lo_gt (z1p lo_lenC (xe_var eC script 0 rfl) rfl) (xe_C (e := eI) (a := (0 : Int)) rfl) rfl)) rfl
  (yb_setF 2 pu_I (xe_P pu_I (z2pp lo_ixC (xe_var eC script 0 rfl) (xe_C (e := eI) (a := (0 : Int)) rfl) rfl)) rfl fun cell_4 =>
  (xb_end (wk_s (wk_s (wk_s (wk_n wk_nil))))))
  (xb_skip (xb_end (wk_s (wk_s (wk_s (wk_n wk_nil)))))))) fun s3 =>
  (xb_as (yb_if (xt_Bl (z2ip (lo_eq q_I) (z2ip lo_mod (z2pi lo_div (xe_var eI s3 2 rfl) (z2pp lo_pow (xe_C (e := eI) (a := (10 : Int)) rfl) (xe_C (e := eI) (a := (6 : Int)) rfl) rfl) rfl) (xe_C (e := eI) (a := (2 : Int)) rfl) rfl) (xe_C (e := eI) (a := (1 : Int)) rfl) rfl)) rfl
  (yb_retF (xe_call (zaP (xe_var eC script 0 rfl) (zaP (xe_var eI k 1 rfl) (xa_nil (Le.noX (le__law_block script k)))))) rfl)
  (xb_skip (xb_as (xb_join (N := fun s10 : Int => ([some (.fz (eC script)), some (.fz (eI k)), some (.fz (eI s10)), none] : PP)) (xb_last (yb_if (xt_Bl (z2pp lo_gt (z1p lo_lenC (xe_var eC script 0 rfl) rfl) (xe_C (e := eI) (a := (0 : Int)) rfl) rfl)) rfl
  (yb_setF 2 pu_I (xe_P pu_I (z2pi lo_ixC (xe_var eC script 0 rfl) (z2pp lo_mod (xe_var eI k 1 rfl) (z2pp lo_min (xe_C (e := eI) (a := (63 : Int)) rfl) (z1p lo_lenC (xe_var eC script 0 rfl) rfl) rfl) rfl) rfl)) rfl fun cell_12 =>
  (xb_end (wk_s (wk_s (wk_s (wk_n wk_nil))))))
  (xb_skip (xb_end (wk_s (wk_s (wk_s (wk_n wk_nil)))))))) fun s10 =>
  (xb_as (yb_setF 3 pu_I (z2ii lo_add (z2pi lo_mod (xe_var eI s10 2 rfl) (z2pp lo_pow (xe_C (e := eI) (a := (10 : Int)) rfl) (xe_C (e := eI) (a := (18 : Int)) rfl) rfl) rfl) (z2pp lo_mul (xe_C (e := eI) (a := (48271 : Int)) rfl) (z2pp lo_add (xe_var eI k 1 rfl) (xe_C (e := eI) (a := (1 : Int)) rfl) rfl) rfl) rfl) rfl fun number_16 =>
  (xb_at (N := [some (.fz (eC script)), some (.fz (eI k)), some (.fz (eI s10)), some (.fz (eI number_16))]) rfl (xb_as (yb_setF 3 pu_I (z2ii lo_add (z2ip lo_mod (z2pp lo_mul (xe_var eI number_16 3 rfl) (xe_var eI number_16 3 rfl) rfl) (xe_C (e := eI) (a := (2147483629 : Int)) rfl) rfl) (z2pp lo_mul (xe_C (e := eI) (a := (69621 : Int)) rfl) (xe_var eI k 1 rfl) rfl) rfl) rfl fun number_20 =>
  (xb_at (N := [some (.fz (eC script)), some (.fz (eI k)), some (.fz (eI s10)), some (.fz (eI number_20))]) rfl (yb_retF (z2ip lo_mod (z2pp lo_mul (xe_var eI number_20 3 rfl) (xe_var eI number_20 3 rfl) rfl) (xe_C (e := eI) (a := (2147483587 : Int)) rfl) rfl) rfl)))))))))))))))))))

@[irreducible] noncomputable def p__law_any (script : (List Int)) (start : Int) (many : Int) : Res (List (List Int)) :=
  (((pR1 many) >>= fun a2 => (pLc a2 (fun x1 => (.ok true)) (fun x1 => (.ok ([] : List Int))))) >>= fun orders_3 =>
  ((((noX (p__law_mixed script start)) >>= fun a4 => (pMod a4 (3 : Int))) >>= fun a5 => .ok ((2 : Int) + a5)) >>= fun thick_6 =>
  ((pR1 many) >>= fun w7 => pFor (fun (s147 : (List (List Int))) (x8 : Int) =>
  ((pR1 x8) >>= fun w148 => pFor (fun (s194 : (List (List Int))) (x149 : Int) =>
  (((((pMul (8 : Int) x8) >>= fun a195 => .ok ((start + (1 : Int)) + a195)) >>= fun a196 => .ok (a196 + x149)) >>= fun a197 => (noX (p__law_mixed script a197))) >>= fun number_198 =>
  (((pMod number_198 thick_6) >>= fun a199 => .ok (decide (a199 ≠ (0 : Int)))) >>= fun b216 => if b216 = true then
  (((pIxN s194.length x8) >>= fun a207 => (pUpdN s194 a207 fun l200 => (((pDiv number_198 (12 : Int)) >>= fun a203 => ((((pAt s194 x8) >>= fun a201 => .ok (a201.length : Int)) >>= fun a202 => .ok (a202 + (1 : Int))) >>= fun a204 => (pMod a203 a204))) >>= fun a205 => (pIns l200 a205 x149)))) >>= fun orders_206 =>
  (((pIxN orders_206.length x149) >>= fun a215 => (pUpdN orders_206 a215 fun l208 => (((pDiv number_198 (128 : Int)) >>= fun a211 => ((((pAt orders_206 x149) >>= fun a209 => .ok (a209.length : Int)) >>= fun a210 => .ok (a210 + (1 : Int))) >>= fun a212 => (pMod a211 a212))) >>= fun a213 => (pIns l208 a213 x8)))) >>= fun orders_214 =>
  (.ok orders_214)))
 else
  (.ok s194)))) w148 s147 >>= fun s194 =>
  (.ok s194))) w7 orders_3 >>= fun s147 =>
  (.ok s147))))
theorem le__law_any (script : (List Int)) (start : Int) (many : Int) : Le (eL (eL eI)) (p__law_any script start many) (sem__law_any [eC script, eI start, eI many]) := by
  unfold p__law_any sem__law_any
  exact run_le (m := 6) (ds := [eC script, eI start, eI many]) (show XB [some (.fz (eC script)), some (.fz (eI start)), some (.fz (eI many)), none, none, none, none, none, none] _ _ _ from
  (xb_last (xb_as (yb_setO 3 im_L (zlci (zR1p (xe_var eI many 2 rfl) rfl) (fun x1 => xt_Ys) (fun x1 => (xe_lst (xa_nil (ld_L (e := eI) [] _ rfl rfl)))) rfl) rfl fun orders_3 =>
  (xb_at (N := [some (.fz (eC script)), some (.fz (eI start)), some (.fz (eI many)), some (.own ((eL (eL eI)) orders_3)), none, none, none, none, none]) rfl (xb_as (yb_setF 4 pu_I (z2pi lo_add (xe_C (e := eI) (a := (2 : Int)) rfl) (z2ip lo_mod (xe_call (zaP (xe_var eC script 0 rfl) (zaP (xe_var eI start 1 rfl) (xa_nil (Le.noX (le__law_mixed script start)))))) (xe_C (e := eI) (a := (3 : Int)) rfl) rfl) rfl) rfl fun thick_6 =>
  (xb_at (N := [some (.fz (eC script)), some (.fz (eI start)), some (.fz (eI many)), some (.own ((eL (eL eI)) orders_3)), some (.fz (eI thick_6)), none, none, none, none]) rfl (xb_as (yb_for (N := (fun s147 : (List (List Int)) => ([some (.fz (eC script)), some (.fz (eI start)), some (.fz (eI many)), some (.own ((eL (eL eI)) s147)), some (.fz (eI thick_6)), none, none, none, none] : PP))) (s0 := (fun w7 : (List Int) => orders_3)) (xs_K (zR1p (xe_var eI many 2 rfl) rfl)) (by simp only [okB]) (fun w7 => (wk_s (wk_s (wk_s (wk_s (wk_s (wk_n (wk_n (wk_n (wk_n wk_nil)))))))))) (fun s147 x8 =>
  (xb_last (xb_at (N := [some (.fz (eC script)), some (.fz (eI start)), some (.fz (eI many)), some (.own ((eL (eL eI)) s147)), some (.fz (eI thick_6)), some (.fz (eI x8)), none, none, none]) rfl (yb_for (N := (fun s194 : (List (List Int)) => ([some (.fz (eC script)), some (.fz (eI start)), some (.fz (eI many)), some (.own ((eL (eL eI)) s194)), some (.fz (eI thick_6)), some (.fz (eI x8)), none, none, none] : PP))) (s0 := (fun w148 : (List Int) => s147)) (xs_K (zR1p (xe_var eI x8 5 rfl) rfl)) (by simp only [okB]) (fun w148 => (wk_s (wk_s (wk_s (wk_s (wk_s (wk_s (wk_n (wk_n (wk_n wk_nil)))))))))) (fun s194 x149 =>
  (xb_last (xb_at (N := [some (.fz (eC script)), some (.fz (eI start)), some (.fz (eI many)), some (.own ((eL (eL eI)) s194)), some (.fz (eI thick_6)), some (.fz (eI x8)), some (.fz (eI x149)), none, none]) rfl (xb_as (yb_setF 8 pu_I (xe_call (zaP (xe_var eC script 0 rfl) (ya_cons (z2ip lo_add (z2pi lo_add (z2pp lo_add (xe_var eI start 1 rfl) (xe_C (e := eI) (a := (1 : Int)) rfl) rfl) (z2pp lo_mul (xe_C (e := eI) (a := (8 : Int)) rfl) (xe_var eI x8 5 rfl) rfl) rfl) (xe_var eI x149 6 rfl) rfl) rfl fun a197 => (xa_nil (Le.noX (le__law_mixed script a197)))))) rfl fun number_198 =>
  (xb_at (N := [some (.fz (eC script)), some (.fz (eI start)), some (.fz (eI many)), some (.own ((eL (eL eI)) s194)), some (.fz (eI thick_6)), some (.fz (eI x8)), some (.fz (eI x149)), none, some (.fz (eI number_198))]) rfl (yb_if (xt_Bl (z2ip (lo_ne q_I) (z2pp lo_mod (xe_var eI number_198 8 rfl) (xe_var eI thick_6 4 rfl) rfl) (xe_C (e := eI) (a := (0 : Int)) rfl) rfl)) rfl
  (xb_as (yb_methI (e := eI) 3 rfl (xl_P 3 rfl (xe_var eI x8 5 rfl)) (fun l200 => (yg_cons (z2ii lo_mod (z2pp lo_div (xe_var eI number_198 8 rfl) (xe_C (e := eI) (a := (12 : Int)) rfl) rfl) (z2ip lo_add (z1i (lo_len (e := eI)) (z2pp (lo_ix (e := (eL eI))) (xe_var (eL (eL eI)) s194 3 rfl) (xe_var eI x8 5 rfl) rfl) rfl) (xe_C (e := eI) (a := (1 : Int)) rfl) rfl) rfl) rfl fun a205 => (zgP (xe_P pu_I (xe_var eI x149 6 rfl)) (xg_nil (LeG.fst (lm_ins l200 a205 x149)))))) (by simp only [okB]) fun orders_206 =>
  (xb_at (N := [some (.fz (eC script)), some (.fz (eI start)), some (.fz (eI many)), some (.own ((eL (eL eI)) orders_206)), some (.fz (eI thick_6)), some (.fz (eI x8)), some (.fz (eI x149)), none, some (.fz (eI number_198))]) rfl (yb_methI (e := eI) 3 rfl (xl_P 3 rfl (xe_var eI x149 6 rfl)) (fun l208 => (yg_cons (z2ii lo_mod (z2pp lo_div (xe_var eI number_198 8 rfl) (xe_C (e := eI) (a := (128 : Int)) rfl) rfl) (z2ip lo_add (z1i (lo_len (e := eI)) (z2pp (lo_ix (e := (eL eI))) (xe_var (eL (eL eI)) orders_206 3 rfl) (xe_var eI x149 6 rfl) rfl) rfl) (xe_C (e := eI) (a := (1 : Int)) rfl) rfl) rfl) rfl fun a213 => (zgP (xe_P pu_I (xe_var eI x8 5 rfl)) (xg_nil (LeG.fst (lm_ins l208 a213 x8)))))) (by simp only [okB]) fun orders_214 =>
  (xb_ends (wk_s (wk_s (wk_s (wk_s (wk_s (wk_s (wk_n (wk_n (wk_n wk_nil))))))))))))))
  (xb_skip (xb_ends (wk_s (wk_s (wk_s (wk_s (wk_s (wk_s (wk_n (wk_n (wk_n wk_nil)))))))))))))))))) fun s194 =>
  (xb_ends (wk_s (wk_s (wk_s (wk_s (wk_s (wk_n (wk_n (wk_n (wk_n wk_nil)))))))))))))) fun s147 =>
  (xb_retO 3 rfl fun S _ => .inl ⟨S, rfl⟩)))))))))))

@[irreducible] noncomputable def p_next_in (orders : (List (List Int))) (one : Int) (other : Int) : Res Int :=
  ((pAt orders other) >>= fun order_1 =>
  (((pIndex order_1 one) >>= fun a2 => .ok (a2 - (1 : Int))) >>= fun a3 => (pAt order_1 a3)))
theorem le_next_in (orders : (List (List Int))) (one : Int) (other : Int) : Le eI (p_next_in orders one other) (sem_next_in [(eL (eL eI)) orders, eI one, eI other]) := by
  unfold p_next_in sem_next_in
  exact run_le (m := 1) (ds := [(eL (eL eI)) orders, eI one, eI other]) (show XB [some (.fz ((eL (eL eI)) orders)), some (.fz (eI one)), some (.fz (eI other)), none] _ _ _ from
  (xb_last (xb_as (yb_alPF (e := (eL eI)) 3 0 rfl (xe_var eI other 2 rfl) (by simp only [okB]) fun order_1 =>
  (xb_at (N := [some (.fz ((eL (eL eI)) orders)), some (.fz (eI one)), some (.fz (eI other)), some (.fz ((eL eI) order_1))]) rfl (yb_retF (xe_P pu_I (z2pi (lo_ix (e := eI)) (xe_var (eL eI) order_1 3 rfl) (z2ip lo_sub (z2pp (lo_index q_I) (xe_L (fun _ => rfl) (xe_var (eL eI) order_1 3 rfl)) (xe_var eI one 1 rfl) rfl) (xe_C (e := eI) (a := (1 : Int)) rfl) rfl) rfl)) rfl))))))

@[irreducible] noncomputable def p_ring_from (orders : (List (List Int))) (one : Int) (other : Int) : Res (List Int) :=
  ((.ok ([one] : List Int)) >>= fun found_1 =>
  ((.ok one) >>= fun here_2 =>
  ((.ok other) >>= fun there_3 =>
  (pWhile (ρ := (List Int)) (fun (s14 : (List Int) × Int × Int) => (.ok true)) (fun (s14 : (List Int) × Int × Int) =>
  ((.ok s14.2.2) >>= fun here_15 => (noX (p_next_in orders s14.2.1 s14.2.2)) >>= fun there_16 =>
  ((.ok ((decide (here_15 = one)) && (decide (there_16 = other)))) >>= fun b18 => if b18 = true then
  (.ok (.rt s14.1))
 else
  (((pApp s14.1 here_15)) >>= fun found_17 =>
  (.ok (.nx (found_17, here_15, there_16))))))) (found_1, here_2, there_3) >>= fun c => ctk c (fun s14 =>
  .stuck) (fun r => .ok r)))))
theorem le_ring_from (orders : (List (List Int))) (one : Int) (other : Int) : Le (eL eI) (p_ring_from orders one other) (sem_ring_from [(eL (eL eI)) orders, eI one, eI other]) := by
  unfold p_ring_from sem_ring_from
  exact run_le (m := 3) (ds := [(eL (eL eI)) orders, eI one, eI other]) (show XB [some (.fz ((eL (eL eI)) orders)), some (.fz (eI one)), some (.fz (eI other)), none, none, none] _ _ _ from
  (xb_last (xb_as (yb_setO 3 im_L (xe_lst (zaP (xe_P pu_I (xe_var eI one 1 rfl)) (xa_nil (ld_L (e := eI) [one] _ rfl rfl)))) rfl fun found_1 =>
  (xb_at (N := [some (.fz ((eL (eL eI)) orders)), some (.fz (eI one)), some (.fz (eI other)), some (.own ((eL eI) found_1)), none, none]) rfl (xb_as (yb_setF 4 pu_I (xe_P pu_I (xe_var eI one 1 rfl)) rfl fun here_2 =>
  (xb_at (N := [some (.fz ((eL (eL eI)) orders)), some (.fz (eI one)), some (.fz (eI other)), some (.own ((eL eI) found_1)), some (.fz (eI here_2)), none]) rfl (xb_as (yb_setF 5 pu_I (xe_P pu_I (xe_var eI other 2 rfl)) rfl fun there_3 =>
  (xb_at (N := [some (.fz ((eL (eL eI)) orders)), some (.fz (eI one)), some (.fz (eI other)), some (.own ((eL eI) found_1)), some (.fz (eI here_2)), some (.fz (eI there_3))]) rfl (yb_while (N := (fun s14 : (List Int) × Int × Int => ([some (.fz ((eL (eL eI)) orders)), some (.fz (eI one)), some (.fz (eI other)), some (.own ((eL eI) s14.1)), some (.fz (eI s14.2.1)), some (.fz (eI s14.2.2))] : PP))) (RR := (RRF (eL eI))) (s0 := (found_1, here_2, there_3)) (wk_s (wk_s (wk_s (wk_s (wk_s (wk_s wk_nil)))))) (fun s14 => (xt_Bl (xe_C (e := eB) (a := true) rfl))) rfl (fun s14 =>
  (xb_last (xb_as (yb_par 4 5 pu_I pu_I (xe_var eI s14.2.2 5 rfl) rfl (xe_call (zaP (xe_var (eL (eL eI)) orders 0 rfl) (zaP (xe_var eI s14.2.1 4 rfl) (zaP (xe_var eI s14.2.2 5 rfl) (xa_nil (Le.noX (le_next_in orders s14.2.1 s14.2.2))))))) rfl fun here_15 there_16 =>
  (xb_at (N := [some (.fz ((eL (eL eI)) orders)), some (.fz (eI one)), some (.fz (eI other)), some (.own ((eL eI) s14.1)), some (.fz (eI here_15)), some (.fz (eI there_16))]) rfl (xb_as (yb_if (zAnpp (xt_Bl (z2pp (lo_eq q_I) (xe_var eI here_15 4 rfl) (xe_var eI one 1 rfl) rfl)) (xt_Bl (z2pp (lo_eq q_I) (xe_var eI there_16 5 rfl) (xe_var eI other 2 rfl) rfl)) rfl) rfl
  (xb_retO 3 rfl fun S hS => ⟨_, S, rfl, rfl⟩)
  (xb_skip (yb_methT (e := eI) 3 true rfl (zgP (xe_P pu_I (xe_var eI here_15 4 rfl)) (xg_nil (lm_app s14.1 here_15))) rfl fun found_17 =>
  (xb_endc (wk_s (wk_s (wk_s (wk_s (wk_s (wk_s wk_nil)))))))))))))))) (fun _ _ _ h => rr_f h) fun s14 =>
  xb_stuck))))))))))))

@[irreducible] noncomputable def p_begun_least (ring : (List Int)) : Res (List Int) :=
  (((pR1 (ring.length : Int)) >>= fun a2 => (pLc a2 (fun x1 => (.ok true)) (fun x1 => (pCat (cutG ring (some x1) none) (cutG ring none (some x1)))))) >>= fun a3 => (pMinLL a3))
theorem le_begun_least (ring : (List Int)) : Le (eL eI) (p_begun_least ring) (sem_begun_least [(eL eI) ring]) := by
  unfold p_begun_least sem_begun_least
  exact run_le (m := 1) (ds := [(eL eI) ring]) (show XB [some (.fz ((eL eI) ring)), none] _ _ _ from
  (xb_last (yb_retF (z1i lo_minLL (zlci (zR1p (z1p (lo_len (e := eI)) (xe_var (eL eI) ring 0 rfl) rfl) rfl) (fun x1 => xt_Ys) (fun x1 => (z2pp (lo_cat pu_I) (zsl (ts := (.ok (cutG ring (some x1) none))) pu_I (xe_var (eL eI) ring 0 rfl) (zSp (xe_var eI x1 1 rfl) rfl) xo_N (by simp only [okB])) (zsl (ts := (.ok (cutG ring none (some x1)))) pu_I (xe_var (eL eI) ring 0 rfl) xo_N (zSp (xe_var eI x1 1 rfl) rfl) (by simp only [okB])) rfl)) rfl) rfl) rfl)))

@[irreducible] noncomputable def p_lands (orders : (List (List Int))) : Res (List (List Int)) :=
  ((.ok ([] : (List ((List Int) × Bool)))) >>= fun gone_1 =>
  ((.ok ([] : List (List Int))) >>= fun found_2 =>
  ((pR1 (orders.length : Int)) >>= fun w3 => pFor (fun (s161 : (List ((List Int) × Bool)) × (List (List Int))) (x4 : Int) =>
  ((pAt orders x4) >>= fun w162 => pFor (fun (s214 : (List ((List Int) × Bool)) × (List (List Int))) (x163 : Int) =>
  ((.ok (!pHas s214.1 [x4, x163])) >>= fun b239 => if b239 = true then
  ((noX (p_ring_from orders x4 x163)) >>= fun ring_215 =>
  ((pR1 (ring_215.length : Int)) >>= fun w216 => pFor (fun (s230 : (List ((List Int) × Bool))) (x217 : Int) =>
  ((((pAt ring_215 (x217 - (1 : Int))) >>= fun a231 => ((pAt ring_215 x217) >>= fun a232 => .ok [a231, a232])) >>= fun a236 => (pPut s230 a236 true)) >>= fun gone_233 =>
  (.ok gone_233))) w216 s214.1 >>= fun s230 =>
  ((((noX (p_begun_least ring_215)) >>= fun a237 => (pApp s214.2 a237))) >>= fun found_238 =>
  (.ok (s230, found_238)))))
 else
  (.ok (s214.1, s214.2)))) w162 (s161.1, s161.2) >>= fun s214 =>
  (.ok (s214.1, s214.2)))) w3 (gone_1, found_2) >>= fun s161 =>
  (.ok (sortLL s161.2)))))
theorem le_lands (orders : (List (List Int))) : Le (eL (eL eI)) (p_lands orders) (sem_lands [(eL (eL eI)) orders]) := by
  unfold p_lands sem_lands
  exact run_le (m := 6) (ds := [(eL (eL eI)) orders]) (show XB [some (.fz ((eL (eL eI)) orders)), none, none, none, none, none, none] _ _ _ from
  (xb_last (xb_as (yb_setO 1 im_DT (xe_C (e := (eDT eB)) (a := []) rfl) rfl fun gone_1 =>
  (xb_at (N := [some (.fz ((eL (eL eI)) orders)), some (.own ((eDT eB) gone_1)), none, none, none, none, none]) rfl (xb_as (yb_setO 2 im_L (xe_lst (xa_nil (ld_L (e := (eL eI)) [] _ rfl rfl))) rfl fun found_2 =>
  (xb_at (N := [some (.fz ((eL (eL eI)) orders)), some (.own ((eDT eB) gone_1)), some (.own ((eL (eL eI)) found_2)), none, none, none, none]) rfl (xb_as (yb_for (N := (fun s161 : (List ((List Int) × Bool)) × (List (List Int)) => ([some (.fz ((eL (eL eI)) orders)), some (.own ((eDT eB) s161.1)), some (.own ((eL (eL eI)) s161.2)), none, none, none, none] : PP))) (s0 := (fun w3 : (List Int) => (gone_1, found_2))) (xs_K (zR1p (z1p (lo_len (e := (eL eI))) (xe_var (eL (eL eI)) orders 0 rfl) rfl) rfl)) (by simp only [okB]) (fun w3 => (wk_s (wk_s (wk_s (wk_n (wk_n (wk_n (wk_n wk_nil)))))))) (fun s161 x4 =>
  (xb_last (xb_at (N := [some (.fz ((eL (eL eI)) orders)), some (.own ((eDT eB) s161.1)), some (.own ((eL (eL eI)) s161.2)), some (.fz (eI x4)), none, none, none]) rfl (yb_for (N := (fun s214 : (List ((List Int) × Bool)) × (List (List Int)) => ([some (.fz ((eL (eL eI)) orders)), some (.own ((eDT eB) s214.1)), some (.own ((eL (eL eI)) s214.2)), some (.fz (eI x4)), none, none, none] : PP))) (s0 := (fun w162 : (List Int) => (s161.1, s161.2))) (xs_PF (e := eI) 0 rfl (xe_var eI x4 3 rfl)) (by simp only [okB]) (fun w162 => (wk_s (wk_s (wk_s (wk_s (wk_n (wk_n (wk_n wk_nil)))))))) (fun s214 x163 =>
  (xb_last (xb_at (N := [some (.fz ((eL (eL eI)) orders)), some (.own ((eDT eB) s214.1)), some (.own ((eL (eL eI)) s214.2)), some (.fz (eI x4)), some (.fz (eI x163)), none, none]) rfl (yb_if (xt_Bl (z2pp (lo_ninDT (e := eB)) (xe_key (zaP (xe_var eI x4 3 rfl) (zaP (xe_var eI x163 4 rfl) (xa_nil (lk_2 x4 x163))))) (xe_var (eDT eB) s214.1 1 rfl) rfl)) rfl
  (xb_as (yb_setO 5 im_L (xe_call (zaP (xe_var (eL (eL eI)) orders 0 rfl) (zaP (xe_var eI x4 3 rfl) (zaP (xe_var eI x163 4 rfl) (xa_nil (Le.noX (le_ring_from orders x4 x163))))))) rfl fun ring_215 =>
  (xb_at (N := [some (.fz ((eL (eL eI)) orders)), some (.own ((eDT eB) s214.1)), some (.own ((eL (eL eI)) s214.2)), some (.fz (eI x4)), some (.fz (eI x163)), some (.own ((eL eI) ring_215)), none]) rfl (xb_as (yb_for (N := (fun s230 : (List ((List Int) × Bool)) => ([some (.fz ((eL (eL eI)) orders)), some (.own ((eDT eB) s230)), some (.own ((eL (eL eI)) s214.2)), some (.fz (eI x4)), some (.fz (eI x163)), some (.own ((eL eI) ring_215)), none] : PP))) (s0 := (fun w216 : (List Int) => s214.1)) (xs_K (zR1p (z1p (lo_len (e := eI)) (xe_var (eL eI) ring_215 5 rfl) rfl) rfl)) (by simp only [okB]) (fun w216 => (wk_s (wk_s (wk_s (wk_s (wk_s (wk_s (wk_n wk_nil)))))))) (fun s230 x217 =>
  (xb_last (xb_at (N := [some (.fz ((eL (eL eI)) orders)), some (.own ((eDT eB) s230)), some (.own ((eL (eL eI)) s214.2)), some (.fz (eI x4)), some (.fz (eI x163)), some (.own ((eL eI) ring_215)), some (.fz (eI x217))]) rfl (yb_putT 1 pu_B rfl (xe_C (e := eB) (a := true) rfl) (xe_key (ya_cons (z2pp (lo_ix (e := eI)) (xe_var (eL eI) ring_215 5 rfl) (z2pp lo_sub (xe_var eI x217 6 rfl) (xe_C (e := eI) (a := (1 : Int)) rfl) rfl) rfl) rfl fun a231 => (ya_cons (z2pp (lo_ix (e := eI)) (xe_var (eL eI) ring_215 5 rfl) (xe_var eI x217 6 rfl) rfl) rfl fun a232 => (xa_nil (lk_2 a231 a232))))) (by simp only [okB]) fun gone_233 =>
  (xb_ends (wk_s (wk_s (wk_s (wk_s (wk_s (wk_s (wk_n wk_nil)))))))))))) fun s230 =>
  (yb_methT (e := (eL eI)) 2 true rfl (yg_cons (xe_call (zaP (xe_var (eL eI) ring_215 5 rfl) (xa_nil (Le.noX (le_begun_least ring_215))))) rfl fun a237 => (xg_nil (lm_app s214.2 a237))) rfl fun found_238 =>
  (xb_ends (wk_s (wk_s (wk_s (wk_s (wk_n (wk_n (wk_n wk_nil))))))))))))))
  (xb_skip (xb_ends (wk_s (wk_s (wk_s (wk_s (wk_n (wk_n (wk_n wk_nil))))))))))))) fun s214 =>
  (xb_ends (wk_s (wk_s (wk_s (wk_n (wk_n (wk_n (wk_n wk_nil)))))))))))) fun s161 =>
  (xb_retSort 2 rfl fun S => .inl ⟨S, rfl⟩)))))))))))

@[irreducible] noncomputable def p_count (orders : (List (List Int))) : Res Int :=
  (((pLc orders (fun x1 => (.ok (decide (x1 = ([] : List Int))))) (fun x1 => (.ok ()))) >>= fun a2 => .ok (a2.length : Int)) >>= fun lone_3 =>
  (((((noX (p_ties orders)) >>= fun a4 => .ok (a4.length : Int)) >>= fun a5 => .ok ((orders.length : Int) - a5)) >>= fun a7 => (((noX (p_lands orders)) >>= fun a6 => .ok (a6.length : Int)) >>= fun a8 => .ok (a7 + a8))) >>= fun a9 => .ok (a9 + lone_3)))
theorem le_count (orders : (List (List Int))) : Le eI (p_count orders) (sem_count [(eL (eL eI)) orders]) := by
  unfold p_count sem_count
  exact run_le (m := 2) (ds := [(eL (eL eI)) orders]) (show XB [some (.fz ((eL (eL eI)) orders)), none, none] _ _ _ from
  (xb_last (xb_as (yb_setF 1 pu_I (z1i (lo_len (e := eN)) (zlcp (xi_L (xe_var (eL (eL eI)) orders 0 rfl)) (fun x1 => (xt_Bl (z2pp (lo_eq (q_L q_I)) (xe_var (eL eI) x1 2 rfl) (xe_lst (xa_nil (ld_L (e := eI) [] _ rfl rfl))) rfl))) (fun x1 => (xe_U (xe_var (eL eI) x1 2 rfl))) rfl) rfl) rfl fun lone_3 =>
  (xb_at (N := [some (.fz ((eL (eL eI)) orders)), some (.fz (eI lone_3)), none]) rfl (yb_retF (z2ip lo_add (z2ii lo_add (z2pi lo_sub (z1p (lo_len (e := (eL eI))) (xe_var (eL (eL eI)) orders 0 rfl) rfl) (z1i (lo_len (e := (eT2 eI eI))) (xe_call (zaP (xe_var (eL (eL eI)) orders 0 rfl) (xa_nil (Le.noX (le_ties orders))))) rfl) rfl) (z1i (lo_len (e := (eL eI))) (xe_call (zaP (xe_var (eL (eL eI)) orders 0 rfl) (xa_nil (Le.noX (le_lands orders))))) rfl) rfl) (xe_var eI lone_3 1 rfl) rfl) rfl))))))

@[irreducible] noncomputable def p__law_rings (orders : (List (List Int))) : Res (List (List Int)) :=
  ((.ok ([] : (List ((List Int) × Bool)))) >>= fun gone_1 =>
  ((.ok ([] : List (List Int))) >>= fun found_2 =>
  ((pR1 (orders.length : Int)) >>= fun w3 => pFor (fun (s227 : (List ((List Int) × Bool)) × (List (List Int))) (x4 : Int) =>
  ((pAt orders x4) >>= fun w228 => pFor (fun (s302 : (List ((List Int) × Bool)) × (List (List Int))) (x229 : Int) =>
  ((.ok (!pHas s302.1 [x4, x229])) >>= fun b338 => if b338 = true then
  ((.ok ([] : List Int)) >>= fun ring_303 =>
  ((.ok x4) >>= fun here_304 =>
  ((.ok x229) >>= fun there_305 =>
  (pWhile (ρ := Unit) (fun (s326 : (List ((List Int) × Bool)) × (List Int) × Int × Int) => (.ok (!pHas s326.1 [s326.2.2.1, s326.2.2.2]))) (fun (s326 : (List ((List Int) × Bool)) × (List Int) × Int × Int) =>
  ((pPut s326.1 [s326.2.2.1, s326.2.2.2] true) >>= fun gone_327 =>
  (((pApp s326.2.1 s326.2.2.1)) >>= fun ring_330 =>
  ((pAt orders s326.2.2.2) >>= fun order_331 =>
  ((.ok s326.2.2.2) >>= fun here_334 => (((pIndex order_331 s326.2.2.1) >>= fun a332 => .ok (a332 - (1 : Int))) >>= fun a333 => (pAt order_331 a333)) >>= fun there_335 =>
  (.ok (.nx (gone_327, ring_330, here_334, there_335)))))))) (s302.1, ring_303, here_304, there_305) >>= fun c => ctk c (fun s326 =>
  ((pApp s302.2 s326.2.1) >>= fun found_337 =>
  (.ok (s326.1, found_337)))) (fun r => .stuck)))))
 else
  (.ok (s302.1, s302.2)))) w228 (s227.1, s227.2) >>= fun s302 =>
  (.ok (s302.1, s302.2)))) w3 (gone_1, found_2) >>= fun s227 =>
  (.ok s227.2))))
theorem le__law_rings (orders : (List (List Int))) : Le (eL (eL eI)) (p__law_rings orders) (sem__law_rings [(eL (eL eI)) orders]) := by
  unfold p__law_rings sem__law_rings
  exact run_le (m := 8) (ds := [(eL (eL eI)) orders]) (show XB [some (.fz ((eL (eL eI)) orders)), none, none, none, none, none, none, none, none] _ _ _ from
  (xb_last (xb_as (yb_setO 1 im_DT (xe_C (e := (eDT eB)) (a := []) rfl) rfl fun gone_1 =>
  (xb_at (N := [some (.fz ((eL (eL eI)) orders)), some (.own ((eDT eB) gone_1)), none, none, none, none, none, none, none]) rfl (xb_as (yb_setO 2 im_L (xe_lst (xa_nil (ld_L (e := (eL eI)) [] _ rfl rfl))) rfl fun found_2 =>
  (xb_at (N := [some (.fz ((eL (eL eI)) orders)), some (.own ((eDT eB) gone_1)), some (.own ((eL (eL eI)) found_2)), none, none, none, none, none, none]) rfl (xb_as (yb_for (N := (fun s227 : (List ((List Int) × Bool)) × (List (List Int)) => ([some (.fz ((eL (eL eI)) orders)), some (.own ((eDT eB) s227.1)), some (.own ((eL (eL eI)) s227.2)), none, none, none, none, none, none] : PP))) (s0 := (fun w3 : (List Int) => (gone_1, found_2))) (xs_K (zR1p (z1p (lo_len (e := (eL eI))) (xe_var (eL (eL eI)) orders 0 rfl) rfl) rfl)) (by simp only [okB]) (fun w3 => (wk_s (wk_s (wk_s (wk_n (wk_n (wk_n (wk_n (wk_n (wk_n wk_nil)))))))))) (fun s227 x4 =>
  (xb_last (xb_at (N := [some (.fz ((eL (eL eI)) orders)), some (.own ((eDT eB) s227.1)), some (.own ((eL (eL eI)) s227.2)), some (.fz (eI x4)), none, none, none, none, none]) rfl (yb_for (N := (fun s302 : (List ((List Int) × Bool)) × (List (List Int)) => ([some (.fz ((eL (eL eI)) orders)), some (.own ((eDT eB) s302.1)), some (.own ((eL (eL eI)) s302.2)), some (.fz (eI x4)), none, none, none, none, none] : PP))) (s0 := (fun w228 : (List Int) => (s227.1, s227.2))) (xs_PF (e := eI) 0 rfl (xe_var eI x4 3 rfl)) (by simp only [okB]) (fun w228 => (wk_s (wk_s (wk_s (wk_s (wk_n (wk_n (wk_n (wk_n (wk_n wk_nil)))))))))) (fun s302 x229 =>
  (xb_last (xb_at (N := [some (.fz ((eL (eL eI)) orders)), some (.own ((eDT eB) s302.1)), some (.own ((eL (eL eI)) s302.2)), some (.fz (eI x4)), some (.fz (eI x229)), none, none, none, none]) rfl (yb_if (xt_Bl (z2pp (lo_ninDT (e := eB)) (xe_key (zaP (xe_var eI x4 3 rfl) (zaP (xe_var eI x229 4 rfl) (xa_nil (lk_2 x4 x229))))) (xe_var (eDT eB) s302.1 1 rfl) rfl)) rfl
  (xb_as (yb_setO 5 im_L (xe_lst (xa_nil (ld_L (e := eI) [] _ rfl rfl))) rfl fun ring_303 =>
  (xb_at (N := [some (.fz ((eL (eL eI)) orders)), some (.own ((eDT eB) s302.1)), some (.own ((eL (eL eI)) s302.2)), some (.fz (eI x4)), some (.fz (eI x229)), some (.own ((eL eI) ring_303)), none, none, none]) rfl (xb_as (yb_setF 6 pu_I (xe_P pu_I (xe_var eI x4 3 rfl)) rfl fun here_304 =>
  (xb_at (N := [some (.fz ((eL (eL eI)) orders)), some (.own ((eDT eB) s302.1)), some (.own ((eL (eL eI)) s302.2)), some (.fz (eI x4)), some (.fz (eI x229)), some (.own ((eL eI) ring_303)), some (.fz (eI here_304)), none, none]) rfl (xb_as (yb_setF 7 pu_I (xe_P pu_I (xe_var eI x229 4 rfl)) rfl fun there_305 =>
  (xb_at (N := [some (.fz ((eL (eL eI)) orders)), some (.own ((eDT eB) s302.1)), some (.own ((eL (eL eI)) s302.2)), some (.fz (eI x4)), some (.fz (eI x229)), some (.own ((eL eI) ring_303)), some (.fz (eI here_304)), some (.fz (eI there_305)), none]) rfl (xb_as (yb_while (N := (fun s326 : (List ((List Int) × Bool)) × (List Int) × Int × Int => ([some (.fz ((eL (eL eI)) orders)), some (.own ((eDT eB) s326.1)), some (.own ((eL (eL eI)) s302.2)), some (.fz (eI x4)), some (.fz (eI x229)), some (.own ((eL eI) s326.2.1)), some (.fz (eI s326.2.2.1)), some (.fz (eI s326.2.2.2)), none] : PP))) (RR := (fun (_ : Unit) _ _ => False)) (s0 := (s302.1, ring_303, here_304, there_305)) (wk_s (wk_s (wk_s (wk_s (wk_s (wk_s (wk_s (wk_s (wk_n wk_nil))))))))) (fun s326 => (xt_Bl (z2pp (lo_ninDT (e := eB)) (xe_key (zaP (xe_var eI s326.2.2.1 6 rfl) (zaP (xe_var eI s326.2.2.2 7 rfl) (xa_nil (lk_2 s326.2.2.1 s326.2.2.2))))) (xe_var (eDT eB) s326.1 1 rfl) rfl))) rfl (fun s326 =>
  (xb_last (xb_as (yb_putT 1 pu_B rfl (xe_C (e := eB) (a := true) rfl) (xe_key (zaP (xe_var eI s326.2.2.1 6 rfl) (zaP (xe_var eI s326.2.2.2 7 rfl) (xa_nil (lk_2 s326.2.2.1 s326.2.2.2))))) (by simp only [okB]) fun gone_327 =>
  (xb_at (N := [some (.fz ((eL (eL eI)) orders)), some (.own ((eDT eB) gone_327)), some (.own ((eL (eL eI)) s302.2)), some (.fz (eI x4)), some (.fz (eI x229)), some (.own ((eL eI) s326.2.1)), some (.fz (eI s326.2.2.1)), some (.fz (eI s326.2.2.2)), none]) rfl (xb_as (yb_methT (e := eI) 5 true rfl (zgP (xe_P pu_I (xe_var eI s326.2.2.1 6 rfl)) (xg_nil (lm_app s326.2.1 s326.2.2.1))) rfl fun ring_330 =>
  (xb_at (N := [some (.fz ((eL (eL eI)) orders)), some (.own ((eDT eB) gone_327)), some (.own ((eL (eL eI)) s302.2)), some (.fz (eI x4)), some (.fz (eI x229)), some (.own ((eL eI) ring_330)), some (.fz (eI s326.2.2.1)), some (.fz (eI s326.2.2.2)), none]) rfl (xb_as (yb_alPF (e := (eL eI)) 8 0 rfl (xe_var eI s326.2.2.2 7 rfl) (by simp only [okB]) fun order_331 =>
  (xb_at (N := [some (.fz ((eL (eL eI)) orders)), some (.own ((eDT eB) gone_327)), some (.own ((eL (eL eI)) s302.2)), some (.fz (eI x4)), some (.fz (eI x229)), some (.own ((eL eI) ring_330)), some (.fz (eI s326.2.2.1)), some (.fz (eI s326.2.2.2)), some (.fz ((eL eI) order_331))]) rfl (yb_par 6 7 pu_I pu_I (xe_var eI s326.2.2.2 7 rfl) rfl (z2pi (lo_ix (e := eI)) (xe_var (eL eI) order_331 8 rfl) (z2ip lo_sub (z2pp (lo_index q_I) (xe_L (fun _ => rfl) (xe_var (eL eI) order_331 8 rfl)) (xe_var eI s326.2.2.1 6 rfl) rfl) (xe_C (e := eI) (a := (1 : Int)) rfl) rfl) rfl) rfl fun here_334 there_335 =>
  (xb_endc (wk_s (wk_s (wk_s (wk_s (wk_s (wk_s (wk_s (wk_s (wk_n wk_nil)))))))))))))))))))))) (fun _ _ _ h => h.elim) fun s326 =>
  (xb_appVO (e := (eL eI)) (a := s326.2.1) 2 5 (by decide) rfl rfl fun found_337 =>
  (xb_ends (wk_s (wk_s (wk_s (wk_s (wk_n (wk_n (wk_n (wk_n (wk_n wk_nil))))))))))))))))))))))
  (xb_skip (xb_ends (wk_s (wk_s (wk_s (wk_s (wk_n (wk_n (wk_n (wk_n (wk_n wk_nil))))))))))))))) fun s302 =>
  (xb_ends (wk_s (wk_s (wk_s (wk_n (wk_n (wk_n (wk_n (wk_n (wk_n wk_nil)))))))))))))) fun s227 =>
  (xb_retO 2 rfl fun S _ => .inl ⟨S, rfl⟩)))))))))))

@[irreducible] noncomputable def p_copied (orders : (List (List Int))) : Res (List (List Int)) :=
  (pLc orders (fun x1 => (.ok true)) (fun x1 => (.ok x1)))
theorem le_copied (orders : (List (List Int))) : Le (eL (eL eI)) (p_copied orders) (sem_copied [(eL (eL eI)) orders]) := by
  unfold p_copied sem_copied
  exact run_le (m := 1) (ds := [(eL (eL eI)) orders]) (show XB [some (.fz ((eL (eL eI)) orders)), none] _ _ _ from
  (xb_last (yb_retF (zlcp (xi_L (xe_var (eL (eL eI)) orders 0 rfl)) (fun x1 => xt_Ys) (fun x1 => (z1p (lo_list pu_I) (xe_var (eL eI) x1 1 rfl) rfl)) rfl) rfl)))

@[irreducible] noncomputable def p_put_ahead (order : (List Int)) (mark : Int) (place : Int) : Res (Unit × (List Int)) :=
  ((((pIndex order mark) >>= fun a1 => (pIns order a1 place))) >>= fun order_2 =>
  (.ok ((), order_2)))
theorem le_put_ahead (order : (List Int)) (mark : Int) (place : Int) : LeG (fun w r => r = (eN w.1, (eL eI) w.2)) (p_put_ahead order mark place) (sem_put_ahead [(eL eI) order, eI mark, eI place]) := by
  unfold p_put_ahead sem_put_ahead
  exact run_leM (k := 0) (m := 0) (ds := [(eL eI) order, eI mark, eI place]) (a := order) pu_N rfl (show XB [some (.own ((eL eI) order)), some (.fz (eI mark)), some (.fz (eI place))] _ _ _ from
  (xb_last (yb_methT (e := eI) 0 false rfl (yg_cons (z2pp (lo_index q_I) (xe_L (fun _ => rfl) (xe_var (eL eI) order 0 rfl)) (xe_var eI mark 1 rfl) rfl) rfl fun a1 => (zgP (xe_P pu_I (xe_var eI place 2 rfl)) (xg_nil (lm_ins order a1 place)))) rfl fun order_2 =>
  (xb_bN fun S hS => .inr ⟨rfl, S, rfl, own_at hS 0 rfl⟩))))

@[irreducible] noncomputable def p_tied (orders : (List (List Int))) (land : Int) (one : Int) (other : Int) : Res (List (List Int)) :=
  (((noX (p_lands orders)) >>= fun a1 => (pAt a1 land)) >>= fun ring_2 =>
  ((pAt ring_2 one) >>= fun first_3 =>
  ((pAt ring_2 other) >>= fun second_4 =>
  ((if (decide (first_3 = second_4)) = true then .ok true else ((pAt orders first_3) >>= fun a5 => .ok (decide (second_4 ∈ a5)))) >>= fun b18 => if b18 = true then
  (.exc ⟨3, []⟩)
 else
  ((noX (p_copied orders)) >>= fun found_7 =>
  (((pIxN found_7.length first_3) >>= fun a11 => (ofO (found_7)[a11]? >>= fun l8 => ((pAt ring_2 (one - (1 : Int))) >>= fun a9 => (noX (p_put_ahead l8 a9 second_4))) >>= fun w10 => .ok (w10.1, (found_7).set a11 w10.2))) >>= fun w12 =>
  (((pIxN w12.2.length second_4) >>= fun a16 => (ofO (w12.2)[a16]? >>= fun l13 => ((pAt ring_2 (other - (1 : Int))) >>= fun a14 => (noX (p_put_ahead l13 a14 first_3))) >>= fun w15 => .ok (w15.1, (w12.2).set a16 w15.2))) >>= fun w17 =>
  (.ok w17.2))))))))
theorem le_tied (orders : (List (List Int))) (land : Int) (one : Int) (other : Int) : Le (eL (eL eI)) (p_tied orders land one other) (sem_tied [(eL (eL eI)) orders, eI land, eI one, eI other]) := by
  unfold p_tied sem_tied
  exact run_le (m := 4) (ds := [(eL (eL eI)) orders, eI land, eI one, eI other]) (show XB [some (.fz ((eL (eL eI)) orders)), some (.fz (eI land)), some (.fz (eI one)), some (.fz (eI other)), none, none, none, none] _ _ _ from
  (xb_last (xb_as (yb_setO 4 im_L (z2ip (lo_ix (e := (eL eI))) (xe_call (zaP (xe_var (eL (eL eI)) orders 0 rfl) (xa_nil (Le.noX (le_lands orders))))) (xe_var eI land 1 rfl) rfl) rfl fun ring_2 =>
  (xb_at (N := [some (.fz ((eL (eL eI)) orders)), some (.fz (eI land)), some (.fz (eI one)), some (.fz (eI other)), some (.own ((eL eI) ring_2)), none, none, none]) rfl (xb_as (yb_setF 5 pu_I (xe_P pu_I (z2pp (lo_ix (e := eI)) (xe_var (eL eI) ring_2 4 rfl) (xe_var eI one 2 rfl) rfl)) rfl fun first_3 =>
  (xb_at (N := [some (.fz ((eL (eL eI)) orders)), some (.fz (eI land)), some (.fz (eI one)), some (.fz (eI other)), some (.own ((eL eI) ring_2)), some (.fz (eI first_3)), none, none]) rfl (xb_as (yb_setF 6 pu_I (xe_P pu_I (z2pp (lo_ix (e := eI)) (xe_var (eL eI) ring_2 4 rfl) (xe_var eI other 3 rfl) rfl)) rfl fun second_4 =>
  (xb_at (N := [some (.fz ((eL (eL eI)) orders)), some (.fz (eI land)), some (.fz (eI one)), some (.fz (eI other)), some (.own ((eL eI) ring_2)), some (.fz (eI first_3)), some (.fz (eI second_4)), none]) rfl (xb_as (yb_if (zOrpi (xt_Bl (z2pp (lo_eq q_I) (xe_var eI first_3 5 rfl) (xe_var eI second_4 6 rfl) rfl)) (xt_Bl (z2pi (lo_in q_I) (xe_var eI second_4 6 rfl) (z2pp (lo_ix (e := (eL eI))) (xe_var (eL (eL eI)) orders 0 rfl) (xe_var eI first_3 5 rfl) rfl) rfl)) rfl) rfl
  xb_raise
  (xb_skip (xb_as (yb_setO 7 im_L (xe_call (zaP (xe_var (eL (eL eI)) orders 0 rfl) (xa_nil (Le.noX (le_copied orders))))) rfl fun found_7 =>
  (xb_at (N := [some (.fz ((eL (eL eI)) orders)), some (.fz (eI land)), some (.fz (eI one)), some (.fz (eI other)), some (.own ((eL eI) ring_2)), some (.fz (eI first_3)), some (.fz (eI second_4)), some (.own ((eL (eL eI)) found_7))]) rfl (xb_as (yb_doE (xf_callP (m := 0) (em := (eL eI)) (er := eN) 7 rfl (xl_PG 7 rfl (xe_var eI first_3 5 rfl)) (by repeat (first | exact nx_ok _ | exact nx_ixN | exact nx_ofO | refine nx_bind ?_ fun _ => ?_)) (fun l8 => (yg_cons (xe_P pu_I (z2pp (lo_ix (e := eI)) (xe_var (eL eI) ring_2 4 rfl) (z2pp lo_sub (xe_var eI one 2 rfl) (xe_C (e := eI) (a := (1 : Int)) rfl) rfl) rfl)) rfl fun a9 => (zgP (xe_P pu_I (xe_var eI second_4 6 rfl)) (xg_nil (LeG.noX (le_put_ahead l8 a9 second_4))))))) (by simp only [okB]) fun w12 =>
  (xb_at (N := [some (.fz ((eL (eL eI)) orders)), some (.fz (eI land)), some (.fz (eI one)), some (.fz (eI other)), some (.own ((eL eI) ring_2)), some (.fz (eI first_3)), some (.fz (eI second_4)), some (.own ((eL (eL eI)) w12.2))]) rfl (xb_as (yb_doE (xf_callP (m := 0) (em := (eL eI)) (er := eN) 7 rfl (xl_PG 7 rfl (xe_var eI second_4 6 rfl)) (by repeat (first | exact nx_ok _ | exact nx_ixN | exact nx_ofO | refine nx_bind ?_ fun _ => ?_)) (fun l13 => (yg_cons (xe_P pu_I (z2pp (lo_ix (e := eI)) (xe_var (eL eI) ring_2 4 rfl) (z2pp lo_sub (xe_var eI other 3 rfl) (xe_C (e := eI) (a := (1 : Int)) rfl) rfl) rfl)) rfl fun a14 => (zgP (xe_P pu_I (xe_var eI first_3 5 rfl)) (xg_nil (LeG.noX (le_put_ahead l13 a14 first_3))))))) (by simp only [okB]) fun w17 =>
  (xb_at (N := [some (.fz ((eL (eL eI)) orders)), some (.fz (eI land)), some (.fz (eI one)), some (.fz (eI other)), some (.own ((eL eI) ring_2)), some (.fz (eI first_3)), some (.fz (eI second_4)), some (.own ((eL (eL eI)) w17.2))]) rfl (xb_retO 7 rfl fun S _ => .inl ⟨S, rfl⟩))))))))))))))))))))))))

@[irreducible] noncomputable def pX_tied (orders : (List (List Int))) (land : Int) (one : Int) (other : Int) : Res (List (List Int)) :=
  (((noX (p_lands orders)) >>= fun a1 => (pAt a1 land)) >>= fun ring_2 =>
  ((pAt ring_2 one) >>= fun first_3 =>
  ((pAt ring_2 other) >>= fun second_4 =>
  ((if (decide (first_3 = second_4)) = true then .ok true else ((pAt orders first_3) >>= fun a5 => .ok (decide (second_4 ∈ a5)))) >>= fun b18 => if b18 = true then
  (.exc ⟨3, []⟩)
 else
  ((noX (p_copied orders)) >>= fun found_7 =>
  (((pIxN found_7.length first_3) >>= fun a11 => (ofO (found_7)[a11]? >>= fun l8 => ((pAt ring_2 (one - (1 : Int))) >>= fun a9 => (noX (p_put_ahead l8 a9 second_4))) >>= fun w10 => .ok (w10.1, (found_7).set a11 w10.2))) >>= fun w12 =>
  (((pIxN w12.2.length second_4) >>= fun a16 => (ofO (w12.2)[a16]? >>= fun l13 => ((pAt ring_2 (other - (1 : Int))) >>= fun a14 => (noX (p_put_ahead l13 a14 first_3))) >>= fun w15 => .ok (w15.1, (w12.2).set a16 w15.2))) >>= fun w17 =>
  (.ok w17.2))))))))
theorem leX_tied (orders : (List (List Int))) (land : Int) (one : Int) (other : Int) : Le (eL (eL eI)) (pX_tied orders land one other) (semX_tied [(eL (eL eI)) orders, eI land, eI one, eI other]) := by
  unfold pX_tied semX_tied
  exact run_le (m := 4) (ds := [(eL (eL eI)) orders, eI land, eI one, eI other]) (show XB [some (.fz ((eL (eL eI)) orders)), some (.fz (eI land)), some (.fz (eI one)), some (.fz (eI other)), none, none, none, none] _ _ _ from
  (xb_last (xb_as (yb_setO 4 im_L (z2ip (lo_ix (e := (eL eI))) (xe_call (zaP (xe_var (eL (eL eI)) orders 0 rfl) (xa_nil (Le.noX (le_lands orders))))) (xe_var eI land 1 rfl) rfl) rfl fun ring_2 =>
  (xb_at (N := [some (.fz ((eL (eL eI)) orders)), some (.fz (eI land)), some (.fz (eI one)), some (.fz (eI other)), some (.own ((eL eI) ring_2)), none, none, none]) rfl (xb_as (yb_setF 5 pu_I (xe_P pu_I (z2pp (lo_ix (e := eI)) (xe_var (eL eI) ring_2 4 rfl) (xe_var eI one 2 rfl) rfl)) rfl fun first_3 =>
  (xb_at (N := [some (.fz ((eL (eL eI)) orders)), some (.fz (eI land)), some (.fz (eI one)), some (.fz (eI other)), some (.own ((eL eI) ring_2)), some (.fz (eI first_3)), none, none]) rfl (xb_as (yb_setF 6 pu_I (xe_P pu_I (z2pp (lo_ix (e := eI)) (xe_var (eL eI) ring_2 4 rfl) (xe_var eI other 3 rfl) rfl)) rfl fun second_4 =>
  (xb_at (N := [some (.fz ((eL (eL eI)) orders)), some (.fz (eI land)), some (.fz (eI one)), some (.fz (eI other)), some (.own ((eL eI) ring_2)), some (.fz (eI first_3)), some (.fz (eI second_4)), none]) rfl (xb_as (yb_if (zOrpi (xt_Bl (z2pp (lo_eq q_I) (xe_var eI first_3 5 rfl) (xe_var eI second_4 6 rfl) rfl)) (xt_Bl (z2pi (lo_in q_I) (xe_var eI second_4 6 rfl) (z2pp (lo_ix (e := (eL eI))) (xe_var (eL (eL eI)) orders 0 rfl) (xe_var eI first_3 5 rfl) rfl) rfl)) rfl) rfl
  xb_raise
  (xb_skip (xb_as (yb_setO 7 im_L (xe_call (zaP (xe_var (eL (eL eI)) orders 0 rfl) (xa_nil (Le.noX (le_copied orders))))) rfl fun found_7 =>
  (xb_at (N := [some (.fz ((eL (eL eI)) orders)), some (.fz (eI land)), some (.fz (eI one)), some (.fz (eI other)), some (.own ((eL eI) ring_2)), some (.fz (eI first_3)), some (.fz (eI second_4)), some (.own ((eL (eL eI)) found_7))]) rfl (xb_as (yb_doE (xf_callP (m := 0) (em := (eL eI)) (er := eN) 7 rfl (xl_PG 7 rfl (xe_var eI first_3 5 rfl)) (by repeat (first | exact nx_ok _ | exact nx_ixN | exact nx_ofO | refine nx_bind ?_ fun _ => ?_)) (fun l8 => (yg_cons (xe_P pu_I (z2pp (lo_ix (e := eI)) (xe_var (eL eI) ring_2 4 rfl) (z2pp lo_sub (xe_var eI one 2 rfl) (xe_C (e := eI) (a := (1 : Int)) rfl) rfl) rfl)) rfl fun a9 => (zgP (xe_P pu_I (xe_var eI second_4 6 rfl)) (xg_nil (LeG.noX (le_put_ahead l8 a9 second_4))))))) (by simp only [okB]) fun w12 =>
  (xb_at (N := [some (.fz ((eL (eL eI)) orders)), some (.fz (eI land)), some (.fz (eI one)), some (.fz (eI other)), some (.own ((eL eI) ring_2)), some (.fz (eI first_3)), some (.fz (eI second_4)), some (.own ((eL (eL eI)) w12.2))]) rfl (xb_as (yb_doE (xf_callP (m := 0) (em := (eL eI)) (er := eN) 7 rfl (xl_PG 7 rfl (xe_var eI second_4 6 rfl)) (by repeat (first | exact nx_ok _ | exact nx_ixN | exact nx_ofO | refine nx_bind ?_ fun _ => ?_)) (fun l13 => (yg_cons (xe_P pu_I (z2pp (lo_ix (e := eI)) (xe_var (eL eI) ring_2 4 rfl) (z2pp lo_sub (xe_var eI other 3 rfl) (xe_C (e := eI) (a := (1 : Int)) rfl) rfl) rfl)) rfl fun a14 => (zgP (xe_P pu_I (xe_var eI first_3 5 rfl)) (xg_nil (LeG.noX (le_put_ahead l13 a14 first_3))))))) (by simp only [okB]) fun w17 =>
  (xb_at (N := [some (.fz ((eL (eL eI)) orders)), some (.fz (eI land)), some (.fz (eI one)), some (.fz (eI other)), some (.own ((eL eI) ring_2)), some (.fz (eI first_3)), some (.fz (eI second_4)), some (.own ((eL (eL eI)) w17.2))]) rfl (xb_retO 7 rfl fun S _ => .inl ⟨S, rfl⟩))))))))))))))))))))))))

@[irreducible] noncomputable def p__law_put_tie (orders : (List (List Int))) (ring : (List Int)) (one : Int) (other : Int) : Res (Unit × (List (List Int))) :=
  ((pAt ring one) >>= fun first_1 =>
  ((pAt ring other) >>= fun second_2 =>
  ((if (decide (first_1 ≠ second_2)) = true then ((pAt orders first_1) >>= fun a3 => .ok (decide (second_2 ∉ a3))) else .ok false) >>= fun b17 => if b17 = true then
  (((pIxN orders.length first_1) >>= fun a10 => (pUpdN orders a10 fun l5 => (((pAt orders first_1) >>= fun a6 => ((pAt ring (one - (1 : Int))) >>= fun a7 => (pIndex a6 a7))) >>= fun a8 => (pIns l5 a8 second_2)))) >>= fun orders_9 =>
  (((pIxN orders_9.length second_2) >>= fun a16 => (pUpdN orders_9 a16 fun l11 => (((pAt orders_9 second_2) >>= fun a12 => ((pAt ring (other - (1 : Int))) >>= fun a13 => (pIndex a12 a13))) >>= fun a14 => (pIns l11 a14 first_1)))) >>= fun orders_15 =>
  (.ok ((), orders_15))))
 else
  (.ok ((), orders)))))
theorem le__law_put_tie (orders : (List (List Int))) (ring : (List Int)) (one : Int) (other : Int) : LeG (fun w r => r = (eN w.1, (eL (eL eI)) w.2)) (p__law_put_tie orders ring one other) (sem__law_put_tie [(eL (eL eI)) orders, (eL eI) ring, eI one, eI other]) := by
  unfold p__law_put_tie sem__law_put_tie
  exact run_leM (k := 2) (m := 0) (ds := [(eL (eL eI)) orders, (eL eI) ring, eI one, eI other]) (a := orders) pu_N rfl (show XB [some (.own ((eL (eL eI)) orders)), some (.fz ((eL eI) ring)), some (.fz (eI one)), some (.fz (eI other)), none, none] _ _ _ from
  (xb_last (xb_as (yb_setF 4 pu_I (xe_P pu_I (z2pp (lo_ix (e := eI)) (xe_var (eL eI) ring 1 rfl) (xe_var eI one 2 rfl) rfl)) rfl fun first_1 =>
  (xb_at (N := [some (.own ((eL (eL eI)) orders)), some (.fz ((eL eI) ring)), some (.fz (eI one)), some (.fz (eI other)), some (.fz (eI first_1)), none]) rfl (xb_as (yb_setF 5 pu_I (xe_P pu_I (z2pp (lo_ix (e := eI)) (xe_var (eL eI) ring 1 rfl) (xe_var eI other 3 rfl) rfl)) rfl fun second_2 =>
  (xb_at (N := [some (.own ((eL (eL eI)) orders)), some (.fz ((eL eI) ring)), some (.fz (eI one)), some (.fz (eI other)), some (.fz (eI first_1)), some (.fz (eI second_2))]) rfl (yb_if (zAnpi (xt_Bl (z2pp (lo_ne q_I) (xe_var eI first_1 4 rfl) (xe_var eI second_2 5 rfl) rfl)) (xt_Bl (z2pi (lo_nin q_I) (xe_var eI second_2 5 rfl) (z2pp (lo_ix (e := (eL eI))) (xe_var (eL (eL eI)) orders 0 rfl) (xe_var eI first_1 4 rfl) rfl) rfl)) rfl) rfl
  (xb_as (yb_methI (e := eI) 0 rfl (xl_P 0 rfl (xe_var eI first_1 4 rfl)) (fun l5 => (yg_cons (z2ii (lo_index q_I) (xe_L (fun _ => rfl) (z2pp (lo_ix (e := (eL eI))) (xe_var (eL (eL eI)) orders 0 rfl) (xe_var eI first_1 4 rfl) rfl)) (z2pp (lo_ix (e := eI)) (xe_var (eL eI) ring 1 rfl) (z2pp lo_sub (xe_var eI one 2 rfl) (xe_C (e := eI) (a := (1 : Int)) rfl) rfl) rfl) rfl) rfl fun a8 => (zgP (xe_P pu_I (xe_var eI second_2 5 rfl)) (xg_nil (LeG.fst (lm_ins l5 a8 second_2)))))) (by simp only [okB]) fun orders_9 =>
  (xb_at (N := [some (.own ((eL (eL eI)) orders_9)), some (.fz ((eL eI) ring)), some (.fz (eI one)), some (.fz (eI other)), some (.fz (eI first_1)), some (.fz (eI second_2))]) rfl (yb_methI (e := eI) 0 rfl (xl_P 0 rfl (xe_var eI second_2 5 rfl)) (fun l11 => (yg_cons (z2ii (lo_index q_I) (xe_L (fun _ => rfl) (z2pp (lo_ix (e := (eL eI))) (xe_var (eL (eL eI)) orders_9 0 rfl) (xe_var eI second_2 5 rfl) rfl)) (z2pp (lo_ix (e := eI)) (xe_var (eL eI) ring 1 rfl) (z2pp lo_sub (xe_var eI other 3 rfl) (xe_C (e := eI) (a := (1 : Int)) rfl) rfl) rfl) rfl) rfl fun a14 => (zgP (xe_P pu_I (xe_var eI first_1 4 rfl)) (xg_nil (LeG.fst (lm_ins l11 a14 first_1)))))) (by simp only [okB]) fun orders_15 =>
  (xb_bN fun S hS => .inr ⟨rfl, S, rfl, own_at hS 0 rfl⟩)))))
  (xb_skip (xb_bN fun S hS => .inr ⟨rfl, S, rfl, own_at hS 0 rfl⟩)))))))))))

@[irreducible] noncomputable def p__law_put_place (orders : (List (List Int))) (ring : (List Int)) (corners : (List Int)) : Res (Unit × (List (List Int))) :=
  ((.ok (orders.length : Int)) >>= fun many_1 =>
  ((.ok corners) >>= fun w2 => pFor (fun (s18 : (List (List Int))) (x3 : Int) =>
  (((pAt ring x3) >>= fun a20 => (pIxN s18.length a20)) >>= fun j19 =>
  ((pUpdN s18 j19 fun l21 => (((ofO (s18)[j19]?) >>= fun a22 => ((pAt ring (x3 - (1 : Int))) >>= fun a23 => (pIndex a22 a23))) >>= fun a24 => (pIns l21 a24 many_1))) >>= fun orders_25 =>
  (.ok orders_25)))) w2 orders >>= fun s18 =>
  ((((pLc corners (fun x26 => (.ok true)) (fun x26 => (pAt ring x26))) >>= fun a27 => (pApp s18 a27))) >>= fun orders_28 =>
  (.ok ((), orders_28)))))
theorem le__law_put_place (orders : (List (List Int))) (ring : (List Int)) (corners : (List Int)) : LeG (fun w r => r = (eN w.1, (eL (eL eI)) w.2)) (p__law_put_place orders ring corners) (sem__law_put_place [(eL (eL eI)) orders, (eL eI) ring, (eL eI) corners]) := by
  unfold p__law_put_place sem__law_put_place
  exact run_leM (k := 3) (m := 0) (ds := [(eL (eL eI)) orders, (eL eI) ring, (eL eI) corners]) (a := orders) pu_N rfl (show XB [some (.own ((eL (eL eI)) orders)), some (.fz ((eL eI) ring)), some (.fz ((eL eI) corners)), none, none, none] _ _ _ from
  (xb_last (xb_as (yb_setF 3 pu_I (z1p (lo_len (e := (eL eI))) (xe_var (eL (eL eI)) orders 0 rfl) rfl) rfl fun many_1 =>
  (xb_at (N := [some (.own ((eL (eL eI)) orders)), some (.fz ((eL eI) ring)), some (.fz ((eL eI) corners)), some (.fz (eI many_1)), none, none]) rfl (xb_as (yb_for (N := (fun s18 : (List (List Int)) => ([some (.own ((eL (eL eI)) s18)), some (.fz ((eL eI) ring)), some (.fz ((eL eI) corners)), some (.fz (eI many_1)), none, none] : PP))) (s0 := (fun w2 : (List Int) => orders)) (xs_VF (e := eI) 2 rfl) (by simp only [okB]) (fun w2 => (wk_s (wk_s (wk_s (wk_s (wk_n (wk_n wk_nil))))))) (fun s18 x3 =>
  (xb_last (xb_at (N := [some (.own ((eL (eL eI)) s18)), some (.fz ((eL eI) ring)), some (.fz ((eL eI) corners)), some (.fz (eI many_1)), some (.fz (eI x3)), none]) rfl (xb_as (yb_alPO 5 0 (by decide) im_L rfl (z2pp (lo_ix (e := eI)) (xe_var (eL eI) ring 1 rfl) (xe_var eI x3 4 rfl) rfl) (by simp only [okB]) fun j19 =>
  (xb_at (N := [some (.own ((eL (eL eI)) s18)), some (.fz ((eL eI) ring)), some (.fz ((eL eI) corners)), some (.fz (eI many_1)), some (.fz (eI x3)), some (.ali 0 j19)]) rfl (yb_methI (e := eI) 0 rfl (xl_A 5 0 j19 rfl) (fun l21 => (yg_cons (z2ii (lo_index q_I) (xe_L (fun _ => rfl) (xe_ali (eL eI) s18 j19 5 rfl)) (z2pp (lo_ix (e := eI)) (xe_var (eL eI) ring 1 rfl) (z2pp lo_sub (xe_var eI x3 4 rfl) (xe_C (e := eI) (a := (1 : Int)) rfl) rfl) rfl) rfl) rfl fun a24 => (zgP (xe_P pu_I (xe_var eI many_1 3 rfl)) (xg_nil (LeG.fst (lm_ins l21 a24 many_1)))))) (by simp only [okB]) fun orders_25 =>
  (xb_ends (wk_s (wk_s (wk_s (wk_s (wk_n (wk_n wk_nil)))))))))))))) fun s18 =>
  (yb_methT (e := (eL eI)) 0 true rfl (yg_cons (zlcp (xi_L (xe_var (eL eI) corners 2 rfl)) (fun x26 => xt_Ys) (fun x26 => (xe_P pu_I (z2pp (lo_ix (e := eI)) (xe_var (eL eI) ring 1 rfl) (xe_var eI x26 4 rfl) rfl))) rfl) rfl fun a27 => (xg_nil (lm_app s18 a27))) rfl fun orders_28 =>
  (xb_bN fun S hS => .inr ⟨rfl, S, rfl, own_at hS 0 rfl⟩)))))))))

@[irreducible] noncomputable def p__law_grown (script : (List Int)) (start : Int) (steps : Int) : Res (List (List Int)) :=
  ((.ok ([([(1 : Int)] : List Int), ([(0 : Int)] : List Int)] : List (List Int))) >>= fun orders_1 =>
  ((pR1 steps) >>= fun w2 => pFor (fun (s150 : (List (List Int))) (x3 : Int) =>
  ((noX (p__law_mixed script (start + x3))) >>= fun number_151 =>
  ((noX (p__law_rings s150)) >>= fun rings_here_152 =>
  (((pMod number_151 (rings_here_152.length : Int)) >>= fun a154 => (pIxN rings_here_152.length a154)) >>= fun j153 =>
  ((((pDiv number_151 (64 : Int)) >>= fun a155 => (pMod a155 (2 : Int))) >>= fun a156 => .ok (decide (a156 = (0 : Int)))) >>= fun b223 => if b223 = true then
  (((ofO (rings_here_152)[j153]?) >>= fun a157 => (((pDiv number_151 (128 : Int)) >>= fun a159 => (((ofO (rings_here_152)[j153]?) >>= fun a158 => .ok (a158.length : Int)) >>= fun a160 => (pMod a159 a160))) >>= fun a161 => (((pDiv number_151 (4096 : Int)) >>= fun a163 => (((ofO (rings_here_152)[j153]?) >>= fun a162 => .ok (a162.length : Int)) >>= fun a164 => (pMod a163 a164))) >>= fun a165 => (noX (p__law_put_tie s150 a157 a161 a165))))) >>= fun w166 =>
  (.ok w166.2))
 else
  ((.ok ([] : List Int)) >>= fun corners_167 =>
  ((((ofO (rings_here_152)[j153]?) >>= fun a168 => .ok (a168.length : Int)) >>= fun a169 => (pR1 a169)) >>= fun w170 => pFor (fun (s196 : (List Int)) (x171 : Int) =>
  (((((ofO (rings_here_152)[j153]?) >>= fun a198 => (pAt a198 x171)) >>= fun a199 => (((ofO (rings_here_152)[j153]?) >>= fun a197 => .ok (cutG a197 none (some x171))) >>= fun a200 => .ok (decide (a199 ∉ a200)))) >>= fun b206 => if b206 = true then ((((pDiv number_151 (128 : Int)) >>= fun a202 => (((pDiv number_151 (8192 : Int)) >>= fun a201 => (pMul x171 a201)) >>= fun a203 => .ok (a202 + a203))) >>= fun a204 => (pMod a204 (3 : Int))) >>= fun a205 => .ok (decide (a205 ≠ (0 : Int)))) else .ok false) >>= fun b208 => if b208 = true then
  (((pApp s196 x171)) >>= fun corners_207 =>
  (.ok corners_207))
 else
  (.ok s196))) w170 corners_167 >>= fun s196 =>
  ((((.ok (decide (s196 = ([] : List Int)))) >>= fun b222 => if b222 = true then
  ((((pDiv number_151 (128 : Int)) >>= fun a216 => (((ofO (rings_here_152)[j153]?) >>= fun a215 => .ok (a215.length : Int)) >>= fun a217 => (pMod a216 a217))) >>= fun a218 => .ok ([a218] : List Int)) >>= fun corners_219 =>
  (.ok corners_219))
 else
  (.ok s196)) : Res ((List Int))) >>= fun s214 =>
  (((ofO (rings_here_152)[j153]?) >>= fun a220 => (noX (p__law_put_place s150 a220 s214))) >>= fun w221 =>
  (.ok w221.2)))))))))) w2 orders_1 >>= fun s150 =>
  (.ok s150)))
theorem le__law_grown (script : (List Int)) (start : Int) (steps : Int) : Le (eL (eL eI)) (p__law_grown script start steps) (sem__law_grown [eC script, eI start, eI steps]) := by
  unfold p__law_grown sem__law_grown
  exact run_le (m := 7) (ds := [eC script, eI start, eI steps]) (show XB [some (.fz (eC script)), some (.fz (eI start)), some (.fz (eI steps)), none, none, none, none, none, none, none] _ _ _ from
  (xb_last (xb_as (yb_setO 3 im_L (xe_lst (zaP (xe_lst (zaP (xe_C (e := eI) (a := (1 : Int)) rfl) (xa_nil (ld_L (e := eI) [(1 : Int)] _ rfl rfl)))) (zaP (xe_lst (zaP (xe_C (e := eI) (a := (0 : Int)) rfl) (xa_nil (ld_L (e := eI) [(0 : Int)] _ rfl rfl)))) (xa_nil (ld_L (e := (eL eI)) [([(1 : Int)] : List Int), ([(0 : Int)] : List Int)] _ rfl rfl))))) rfl fun orders_1 =>
  (xb_at (N := [some (.fz (eC script)), some (.fz (eI start)), some (.fz (eI steps)), some (.own ((eL (eL eI)) orders_1)), none, none, none, none, none, none]) rfl (xb_as (yb_for (N := (fun s150 : (List (List Int)) => ([some (.fz (eC script)), some (.fz (eI start)), some (.fz (eI steps)), some (.own ((eL (eL eI)) s150)), none, none, none, none, none, none] : PP))) (s0 := (fun w2 : (List Int) => orders_1)) (xs_K (zR1p (xe_var eI steps 2 rfl) rfl)) (by simp only [okB]) (fun w2 => (wk_s (wk_s (wk_s (wk_s (wk_n (wk_n (wk_n (wk_n (wk_n (wk_n wk_nil))))))))))) (fun s150 x3 =>
  (xb_last (xb_at (N := [some (.fz (eC script)), some (.fz (eI start)), some (.fz (eI steps)), some (.own ((eL (eL eI)) s150)), some (.fz (eI x3)), none, none, none, none, none]) rfl (xb_as (yb_setF 5 pu_I (xe_call (zaP (xe_var eC script 0 rfl) (zaP (z2pp lo_add (xe_var eI start 1 rfl) (xe_var eI x3 4 rfl) rfl) (xa_nil (Le.noX (le__law_mixed script (start + x3))))))) rfl fun number_151 =>
  (xb_at (N := [some (.fz (eC script)), some (.fz (eI start)), some (.fz (eI steps)), some (.own ((eL (eL eI)) s150)), some (.fz (eI x3)), some (.fz (eI number_151)), none, none, none, none]) rfl (xb_as (yb_setO 6 im_L (xe_call (zaP (xe_var (eL (eL eI)) s150 3 rfl) (xa_nil (Le.noX (le__law_rings s150))))) rfl fun rings_here_152 =>
  (xb_at (N := [some (.fz (eC script)), some (.fz (eI start)), some (.fz (eI steps)), some (.own ((eL (eL eI)) s150)), some (.fz (eI x3)), some (.fz (eI number_151)), some (.own ((eL (eL eI)) rings_here_152)), none, none, none]) rfl (xb_as (yb_alPO 7 6 (by decide) im_L rfl (z2pp lo_mod (xe_var eI number_151 5 rfl) (z1p (lo_len (e := (eL eI))) (xe_var (eL (eL eI)) rings_here_152 6 rfl) rfl) rfl) (by simp only [okB]) fun j153 =>
  (xb_at (N := [some (.fz (eC script)), some (.fz (eI start)), some (.fz (eI steps)), some (.own ((eL (eL eI)) s150)), some (.fz (eI x3)), some (.fz (eI number_151)), some (.own ((eL (eL eI)) rings_here_152)), some (.ali 6 j153), none, none]) rfl (yb_if (xt_Bl (z2ip (lo_eq q_I) (z2ip lo_mod (z2pp lo_div (xe_var eI number_151 5 rfl) (xe_C (e := eI) (a := (64 : Int)) rfl) rfl) (xe_C (e := eI) (a := (2 : Int)) rfl) rfl) (xe_C (e := eI) (a := (0 : Int)) rfl) rfl)) rfl
  (yb_doE (xf_callT (m := 0) (em := (eL (eL eI))) (er := eN) 3 rfl (yg_cons (xe_ali (eL eI) rings_here_152 j153 7 rfl) rfl fun a157 => (yg_cons (xe_P pu_I (z2ii lo_mod (z2pp lo_div (xe_var eI number_151 5 rfl) (xe_C (e := eI) (a := (128 : Int)) rfl) rfl) (z1i (lo_len (e := eI)) (xe_ali (eL eI) rings_here_152 j153 7 rfl) rfl) rfl)) rfl fun a161 => (yg_cons (xe_P pu_I (z2ii lo_mod (z2pp lo_div (xe_var eI number_151 5 rfl) (xe_C (e := eI) (a := (4096 : Int)) rfl) rfl) (z1i (lo_len (e := eI)) (xe_ali (eL eI) rings_here_152 j153 7 rfl) rfl) rfl)) rfl fun a165 => (xg_nil (LeG.noX (le__law_put_tie s150 a157 a161 a165))))))) (by simp only [okB]) fun w166 =>
  (xb_ends (wk_s (wk_s (wk_s (wk_s (wk_n (wk_n (wk_n (wk_n (wk_n (wk_n wk_nil))))))))))))
  (xb_as (yb_setO 8 im_L (xe_lst (xa_nil (ld_L (e := eI) [] _ rfl rfl))) rfl fun corners_167 =>
  (xb_at (N := [some (.fz (eC script)), some (.fz (eI start)), some (.fz (eI steps)), some (.own ((eL (eL eI)) s150)), some (.fz (eI x3)), some (.fz (eI number_151)), some (.own ((eL (eL eI)) rings_here_152)), some (.ali 6 j153), some (.own ((eL eI) corners_167)), none]) rfl (xb_as (yb_for (N := (fun s196 : (List Int) => ([some (.fz (eC script)), some (.fz (eI start)), some (.fz (eI steps)), some (.own ((eL (eL eI)) s150)), some (.fz (eI x3)), some (.fz (eI number_151)), some (.own ((eL (eL eI)) rings_here_152)), some (.ali 6 j153), some (.own ((eL eI) s196)), none] : PP))) (s0 := (fun w170 : (List Int) => corners_167)) (xs_K (zR1i (z1i (lo_len (e := eI)) (xe_ali (eL eI) rings_here_152 j153 7 rfl) rfl) rfl)) (by simp only [okB]) (fun w170 => (wk_s (wk_s (wk_s (wk_s (wk_s (wk_s (wk_s (wk_s (wk_s (wk_n wk_nil))))))))))) (fun s196 x171 =>
  (xb_last (xb_at (N := [some (.fz (eC script)), some (.fz (eI start)), some (.fz (eI steps)), some (.own ((eL (eL eI)) s150)), some (.fz (eI x3)), some (.fz (eI number_151)), some (.own ((eL (eL eI)) rings_here_152)), some (.ali 6 j153), some (.own ((eL eI) s196)), some (.fz (eI x171))]) rfl (yb_if (zAnii (xt_Bl (z2ii (lo_nin q_I) (z2ip (lo_ix (e := eI)) (xe_ali (eL eI) rings_here_152 j153 7 rfl) (xe_var eI x171 9 rfl) rfl) (zsl (ts := ((ofO (rings_here_152)[j153]?) >>= fun a197 => .ok (cutG a197 none (some x171)))) pu_I (xe_ali (eL eI) rings_here_152 j153 7 rfl) xo_N (zSp (xe_var eI x171 9 rfl) rfl) (by simp only [okB])) rfl)) (xt_Bl (z2ip (lo_ne q_I) (z2ip lo_mod (z2ii lo_add (z2pp lo_div (xe_var eI number_151 5 rfl) (xe_C (e := eI) (a := (128 : Int)) rfl) rfl) (z2pi lo_mul (xe_var eI x171 9 rfl) (z2pp lo_div (xe_var eI number_151 5 rfl) (xe_C (e := eI) (a := (8192 : Int)) rfl) rfl) rfl) rfl) (xe_C (e := eI) (a := (3 : Int)) rfl) rfl) (xe_C (e := eI) (a := (0 : Int)) rfl) rfl)) rfl) rfl
  (yb_methT (e := eI) 8 true rfl (zgP (xe_P pu_I (xe_var eI x171 9 rfl)) (xg_nil (lm_app s196 x171))) rfl fun corners_207 =>
  (xb_ends (wk_s (wk_s (wk_s (wk_s (wk_s (wk_s (wk_s (wk_s (wk_s (wk_n wk_nil))))))))))))
  (xb_skip (xb_ends (wk_s (wk_s (wk_s (wk_s (wk_s (wk_s (wk_s (wk_s (wk_s (wk_n wk_nil)))))))))))))))) fun s196 =>
  (xb_as (xb_join (N := fun s214 : (List Int) => ([some (.fz (eC script)), some (.fz (eI start)), some (.fz (eI steps)), some (.own ((eL (eL eI)) s150)), some (.fz (eI x3)), some (.fz (eI number_151)), some (.own ((eL (eL eI)) rings_here_152)), some (.ali 6 j153), some (.own ((eL eI) s214)), none] : PP)) (xb_last (yb_if (xt_Bl (z2pp (lo_eq (q_L q_I)) (xe_var (eL eI) s196 8 rfl) (xe_lst (xa_nil (ld_L (e := eI) [] _ rfl rfl))) rfl)) rfl
  (yb_setO 8 im_L (xe_lst (ya_cons (z2ii lo_mod (z2pp lo_div (xe_var eI number_151 5 rfl) (xe_C (e := eI) (a := (128 : Int)) rfl) rfl) (z1i (lo_len (e := eI)) (xe_ali (eL eI) rings_here_152 j153 7 rfl) rfl) rfl) rfl fun a218 => (xa_nil (ld_L (e := eI) [a218] _ rfl rfl)))) rfl fun corners_219 =>
  (xb_end (wk_s (wk_s (wk_s (wk_s (wk_s (wk_s (wk_s (wk_s (wk_s (wk_n wk_nil))))))))))))
  (xb_skip (xb_end (wk_s (wk_s (wk_s (wk_s (wk_s (wk_s (wk_s (wk_s (wk_s (wk_n wk_nil)))))))))))))) fun s214 =>
  (yb_doE (xf_callT (m := 0) (em := (eL (eL eI))) (er := eN) 3 rfl (yg_cons (xe_ali (eL eI) rings_here_152 j153 7 rfl) rfl fun a220 => (zgP (xe_var (eL eI) s214 8 rfl) (xg_nil (LeG.noX (le__law_put_place s150 a220 s214)))))) (by simp only [okB]) fun w221 =>
  (xb_ends (wk_s (wk_s (wk_s (wk_s (wk_n (wk_n (wk_n (wk_n (wk_n (wk_n wk_nil)))))))))))))))))))))))))))))))) fun s150 =>
  (xb_retO 3 rfl fun S _ => .inl ⟨S, rfl⟩))))))))

@[irreducible] noncomputable def p__law_map (script : (List Int)) : Res (List (List Int)) :=
  ((((noX (p__law_mixed script (0 : Int))) >>= fun a1 => (pMod a1 (3 : Int))) >>= fun a2 => .ok (decide (a2 = (1 : Int)))) >>= fun b8 => if b8 = true then
  ((((noX (p__law_mixed script (1 : Int))) >>= fun a3 => (pMod a3 (6 : Int))) >>= fun a4 => .ok ((2 : Int) + a4)) >>= fun a5 => (noX (p__law_any script (3 : Int) a5)))
 else
  (((noX (p__law_mixed script (1 : Int))) >>= fun a6 => (pMod a6 (12 : Int))) >>= fun a7 => (noX (p__law_grown script (3 : Int) a7))))
theorem le__law_map (script : (List Int)) : Le (eL (eL eI)) (p__law_map script) (sem__law_map [eC script]) := by
  unfold p__law_map sem__law_map
  exact run_le (m := 0) (ds := [eC script]) (show XB [some (.fz (eC script))] _ _ _ from
  (xb_last (xb_as (yb_if (xt_Bl (z2ip (lo_eq q_I) (z2ip lo_mod (xe_call (zaP (xe_var eC script 0 rfl) (zaP (xe_C (e := eI) (a := (0 : Int)) rfl) (xa_nil (Le.noX (le__law_mixed script (0 : Int))))))) (xe_C (e := eI) (a := (3 : Int)) rfl) rfl) (xe_C (e := eI) (a := (1 : Int)) rfl) rfl)) rfl
  (yb_retF (xe_call (zaP (xe_var eC script 0 rfl) (zaP (xe_C (e := eI) (a := (3 : Int)) rfl) (ya_cons (z2pi lo_add (xe_C (e := eI) (a := (2 : Int)) rfl) (z2ip lo_mod (xe_call (zaP (xe_var eC script 0 rfl) (zaP (xe_C (e := eI) (a := (1 : Int)) rfl) (xa_nil (Le.noX (le__law_mixed script (1 : Int))))))) (xe_C (e := eI) (a := (6 : Int)) rfl) rfl) rfl) rfl fun a5 => (xa_nil (Le.noX (le__law_any script (3 : Int) a5))))))) rfl)
  (xb_skip (yb_retF (xe_call (zaP (xe_var eC script 0 rfl) (zaP (xe_C (e := eI) (a := (3 : Int)) rfl) (ya_cons (z2ip lo_mod (xe_call (zaP (xe_var eC script 0 rfl) (zaP (xe_C (e := eI) (a := (1 : Int)) rfl) (xa_nil (Le.noX (le__law_mixed script (1 : Int))))))) (xe_C (e := eI) (a := (12 : Int)) rfl) rfl) rfl fun a7 => (xa_nil (Le.noX (le__law_grown script (3 : Int) a7))))))) rfl))))))

@[irreducible] noncomputable def p__law_lands (orders : (List (List Int))) : Res (List (List Int)) :=
  ((.ok ([] : List (List Int))) >>= fun found_1 =>
  ((noX (p__law_rings orders)) >>= fun w2 => pFor (fun (s14 : (List (List Int))) (x3 : (List Int)) =>
  ((((((pR1 (x3.length : Int)) >>= fun a16 => (pLc a16 (fun x15 => (.ok true)) (fun x15 => (pCat (cutG x3 (some x15) none) (cutG x3 none (some x15)))))) >>= fun a17 => (pMinLL a17)) >>= fun a18 => (pApp s14 a18))) >>= fun found_19 =>
  (.ok found_19))) w2 found_1 >>= fun s14 =>
  (.ok (sortLL s14))))
theorem le__law_lands (orders : (List (List Int))) : Le (eL (eL eI)) (p__law_lands orders) (sem__law_lands [(eL (eL eI)) orders]) := by
  unfold p__law_lands sem__law_lands
  exact run_le (m := 3) (ds := [(eL (eL eI)) orders]) (show XB [some (.fz ((eL (eL eI)) orders)), none, none, none] _ _ _ from
  (xb_last (xb_as (yb_setO 1 im_L (xe_lst (xa_nil (ld_L (e := (eL eI)) [] _ rfl rfl))) rfl fun found_1 =>
  (xb_at (N := [some (.fz ((eL (eL eI)) orders)), some (.own ((eL (eL eI)) found_1)), none, none]) rfl (xb_as (yb_for (N := (fun s14 : (List (List Int)) => ([some (.fz ((eL (eL eI)) orders)), some (.own ((eL (eL eI)) s14)), none, none] : PP))) (s0 := (fun w2 : (List (List Int)) => found_1)) (xs_K (xi_L (xe_call (zaP (xe_var (eL (eL eI)) orders 0 rfl) (xa_nil (Le.noX (le__law_rings orders))))))) (by simp only [okB]) (fun w2 => (wk_s (wk_s (wk_n (wk_n wk_nil))))) (fun s14 x3 =>
  (xb_last (xb_at (N := [some (.fz ((eL (eL eI)) orders)), some (.own ((eL (eL eI)) s14)), some (.fz ((eL eI) x3)), none]) rfl (yb_methT (e := (eL eI)) 1 true rfl (yg_cons (z1i lo_minLL (zlci (zR1p (z1p (lo_len (e := eI)) (xe_var (eL eI) x3 2 rfl) rfl) rfl) (fun x15 => xt_Ys) (fun x15 => (z2pp (lo_cat pu_I) (zsl (ts := (.ok (cutG x3 (some x15) none))) pu_I (xe_var (eL eI) x3 2 rfl) (zSp (xe_var eI x15 3 rfl) rfl) xo_N (by simp only [okB])) (zsl (ts := (.ok (cutG x3 none (some x15)))) pu_I (xe_var (eL eI) x3 2 rfl) xo_N (zSp (xe_var eI x15 3 rfl) rfl) (by simp only [okB])) rfl)) rfl) rfl) rfl fun a18 => (xg_nil (lm_app s14 a18))) rfl fun found_19 =>
  (xb_ends (wk_s (wk_s (wk_n (wk_n wk_nil))))))))) fun s14 =>
  (xb_retSort 1 rfl fun S => .inl ⟨S, rfl⟩))))))))

@[irreducible] noncomputable def p__law_is_map (found : (List (List Int))) : Res Bool :=
  ((.ok (!true)) >>= fun b15 => if b15 = true then
  (.ok false)
 else
  ((.ok found) >>= fun w1 => pForC (ρ := Bool) (fun (s8 : Unit) (x2 : (List Int)) =>
  ((if (!true) = true then .ok true else ((pLc x2 (fun x9 => ((noX (p__law_whole_I x9)) >>= fun a10 => .ok (!a10))) (fun x9 => (.ok x9))) >>= fun a11 => .ok (decide (a11 ≠ ([] : List Int))))) >>= fun b14 => if b14 = true then
  ((.ok false) >>= fun a13 => .ok (.rt a13))
 else
  (.ok (.nx ())))) w1 () >>= fun c => ctk c (fun s8 =>
  (.ok true)) (fun r => .ok r)))
theorem le__law_is_map (found : (List (List Int))) : Le eB (p__law_is_map found) (sem__law_is_map [(eL (eL eI)) found]) := by
  unfold p__law_is_map sem__law_is_map
  exact run_le (m := 2) (ds := [(eL (eL eI)) found]) (show XB [some (.fz ((eL (eL eI)) found)), none, none] _ _ _ from
  (xb_last (xb_as (yb_if (zNop (xt_Bl (z1p (li_L (rfl)) (xe_var (eL (eL eI)) found 0 rfl) rfl)) rfl) rfl
  (yb_retF (xe_C (e := eB) (a := false) rfl) rfl)
  (xb_skip (xb_as (yb_forC (N := (fun s8 : Unit => ([some (.fz ((eL (eL eI)) found)), none, none] : PP))) (RR := (RRF eB)) (s0 := (fun w1 : (List (List Int)) => ())) (xs_VF (e := (eL eI)) 0 rfl) (by simp only [okB]) (fun w1 => (wk_s (wk_n (wk_n wk_nil)))) (fun s8 x2 =>
  (xb_last (xb_at (N := [some (.fz ((eL (eL eI)) found)), some (.fz ((eL eI) x2)), none]) rfl (yb_if (zOrpi (zNop (xt_Bl (z1p (li_L (rfl)) (xe_var (eL eI) x2 1 rfl) rfl)) rfl) (xt_Bl (z2ip (lo_ne (q_L q_I)) (zlcp (xi_L (xe_var (eL eI) x2 1 rfl)) (fun x9 => (zNoi (xt_Bl (xe_call (zaP (xe_var eI x9 2 rfl) (xa_nil (Le.noX (le__law_whole_I x9)))))) rfl)) (fun x9 => (xe_P pu_I (xe_var eI x9 2 rfl))) rfl) (xe_lst (xa_nil (ld_L (e := eI) [] _ rfl rfl))) rfl)) rfl) rfl
  (yb_ret (w := fun a13 => Ct.rt a13) (xe_C (e := eB) (a := false) rfl) rfl fun _ S hS => ⟨_, S, rfl, rfl⟩)
  (xb_skip (xb_endc (wk_s (wk_n (wk_n wk_nil))))))))) (fun _ _ _ h => rr_f h) fun s8 =>
  (yb_retF (xe_C (e := eB) (a := true) rfl) rfl))))))))

@[irreducible] noncomputable def p__law_same (one : (List (List Int))) (other : (List (List Int))) : Res Bool :=
  ((.ok (one.zip other)) >>= fun w1 => pForC (ρ := Bool) (fun (s16 : Unit) (x2 : ((List Int) × (List Int))) =>
  ((.ok (decide ((x2.1.length : Int) ≠ (x2.2.length : Int)))) >>= fun b32 => if b32 = true then
  ((.ok false) >>= fun a17 => .ok (.rt a17))
 else
  ((if (decide (x2.1 ≠ ([] : List Int))) = true then ((pAt x2.1 (0 : Int)) >>= fun a18 => .ok (decide (a18 ∉ x2.2))) else .ok false) >>= fun b31 => if b31 = true then
  ((.ok false) >>= fun a20 => .ok (.rt a20))
 else
  ((.ok (0 : Int)) >>= fun at__21 =>
  ((((.ok (decide (x2.1 ≠ ([] : List Int)))) >>= fun b30 => if b30 = true then
  (((pAt x2.1 (0 : Int)) >>= fun a25 => (pIndex x2.2 a25)) >>= fun at__26 =>
  (.ok at__26))
 else
  (.ok at__21)) : Res (Int)) >>= fun s24 =>
  (((pCat (cutG x2.2 (some s24) none) (cutG x2.2 none (some s24))) >>= fun a27 => .ok (decide (a27 ≠ x2.1))) >>= fun b29 => if b29 = true then
  ((.ok false) >>= fun a28 => .ok (.rt a28))
 else
  (.ok (.nx ())))))))) w1 () >>= fun c => ctk c (fun s16 =>
  (.ok (decide ((one.length : Int) = (other.length : Int))))) (fun r => .ok r))
theorem le__law_same (one : (List (List Int))) (other : (List (List Int))) : Le eB (p__law_same one other) (sem__law_same [(eL (eL eI)) one, (eL (eL eI)) other]) := by
  unfold p__law_same sem__law_same
  exact run_le (m := 3) (ds := [(eL (eL eI)) one, (eL (eL eI)) other]) (show XB [some (.fz ((eL (eL eI)) one)), some (.fz ((eL (eL eI)) other)), none, none, none] _ _ _ from
  (xb_last (xb_as (yb_forC (N := (fun s16 : Unit => ([some (.fz ((eL (eL eI)) one)), some (.fz ((eL (eL eI)) other)), none, none, none] : PP))) (RR := (RRF eB)) (s0 := (fun w1 : (List ((List Int) × (List Int))) => ())) (xs_ZFF 0 1 rfl rfl) (by simp only [okB]) (fun w1 => (wk_s (wk_s (wk_n (wk_n (wk_n wk_nil)))))) (fun s16 x2 =>
  (xb_last (xb_at (N := [some (.fz ((eL (eL eI)) one)), some (.fz ((eL (eL eI)) other)), some (.fz ((eL eI) x2.1)), some (.fz ((eL eI) x2.2)), none]) rfl (xb_as (yb_if (xt_Bl (z2pp (lo_ne q_I) (z1p (lo_len (e := eI)) (xe_var (eL eI) x2.1 2 rfl) rfl) (z1p (lo_len (e := eI)) (xe_var (eL eI) x2.2 3 rfl) rfl) rfl)) rfl
  (yb_ret (w := fun a17 => Ct.rt a17) (xe_C (e := eB) (a := false) rfl) rfl fun _ S hS => ⟨_, S, rfl, rfl⟩)
  (xb_skip (xb_as (yb_if (zAnpi (xt_Bl (z2pp (lo_ne (q_L q_I)) (xe_var (eL eI) x2.1 2 rfl) (xe_lst (xa_nil (ld_L (e := eI) [] _ rfl rfl))) rfl)) (xt_Bl (z2ip (lo_nin q_I) (z2pp (lo_ix (e := eI)) (xe_var (eL eI) x2.1 2 rfl) (xe_C (e := eI) (a := (0 : Int)) rfl) rfl) (xe_var (eL eI) x2.2 3 rfl) rfl)) rfl) rfl
  (yb_ret (w := fun a20 => Ct.rt a20) (xe_C (e := eB) (a := false) rfl) rfl fun _ S hS => ⟨_, S, rfl, rfl⟩)
  (xb_skip (xb_as (yb_setF 4 pu_I (xe_C (e := eI) (a := (0 : Int)) rfl) rfl fun at__21 =>
  (xb_at (N := [some (.fz ((eL (eL eI)) one)), some (.fz ((eL (eL eI)) other)), some (.fz ((eL eI) x2.1)), some (.fz ((eL eI) x2.2)), some (.fz (eI at__21))]) rfl (xb_as (xb_join (N := fun s24 : Int => ([some (.fz ((eL (eL eI)) one)), some (.fz ((eL (eL eI)) other)), some (.fz ((eL eI) x2.1)), some (.fz ((eL eI) x2.2)), some (.fz (eI s24))] : PP)) (xb_last (yb_if (xt_Bl (z2pp (lo_ne (q_L q_I)) (xe_var (eL eI) x2.1 2 rfl) (xe_lst (xa_nil (ld_L (e := eI) [] _ rfl rfl))) rfl)) rfl
  (yb_setF 4 pu_I (z2pi (lo_index q_I) (xe_L (fun _ => rfl) (xe_var (eL eI) x2.2 3 rfl)) (z2pp (lo_ix (e := eI)) (xe_var (eL eI) x2.1 2 rfl) (xe_C (e := eI) (a := (0 : Int)) rfl) rfl) rfl) rfl fun at__26 =>
  (xb_end (wk_s (wk_s (wk_s (wk_s (wk_s wk_nil)))))))
  (xb_skip (xb_end (wk_s (wk_s (wk_s (wk_s (wk_s wk_nil))))))))) fun s24 =>
  (yb_if (xt_Bl (z2ip (lo_ne (q_L q_I)) (z2pp (lo_cat pu_I) (zsl (ts := (.ok (cutG x2.2 (some s24) none))) pu_I (xe_var (eL eI) x2.2 3 rfl) (zSp (xe_var eI s24 4 rfl) rfl) xo_N (by simp only [okB])) (zsl (ts := (.ok (cutG x2.2 none (some s24)))) pu_I (xe_var (eL eI) x2.2 3 rfl) xo_N (zSp (xe_var eI s24 4 rfl) rfl) (by simp only [okB])) rfl) (xe_var (eL eI) x2.1 2 rfl) rfl)) rfl
  (yb_ret (w := fun a28 => Ct.rt a28) (xe_C (e := eB) (a := false) rfl) rfl fun _ S hS => ⟨_, S, rfl, rfl⟩)
  (xb_skip (xb_endc (wk_s (wk_s (wk_n (wk_n (wk_n wk_nil)))))))))))))))))))))) (fun _ _ _ h => rr_f h) fun s16 =>
  (yb_retF (z2pp (lo_eq q_I) (z1p (lo_len (e := (eL eI))) (xe_var (eL (eL eI)) one 0 rfl) rfl) (z1p (lo_len (e := (eL eI))) (xe_var (eL (eL eI)) other 1 rfl) rfl) rfl) rfl)))))

@[irreducible] noncomputable def p__law_whole_LI (found : (List Int)) : Res Bool :=
  (.ok (false && (!false)))
theorem le__law_whole_LI (found : (List Int)) : Le eB (p__law_whole_LI found) (sem__law_whole [(eL eI) found]) := by
  unfold p__law_whole_LI sem__law_whole
  exact run_le (m := 0) (ds := [(eL eI) found]) (show XB [some (.fz ((eL eI) found))] _ _ _ from
  (xb_last (yb_retF (xe_P pu_B (zxAnpp (z1p (li_L (rfl)) (xe_var (eL eI) found 0 rfl) rfl) (zxNop (z1p (li_L (rfl)) (xe_var (eL eI) found 0 rfl) rfl) rfl) rfl)) rfl)))

end Ow.Lib
end
section
set_option linter.all false
set_option exponentiation.threshold 100000
set_option maxHeartbeats 1000000
/-! M0: what the typed operations come to. -/
namespace Ow.M
open PySem L2 Ow Ow.P
variable {α β γ τ ρ ω : Type}
theorem bnd {t : Res α} {a : α} {k : α → Res β} (h : t = .ok a) : (t >>= k) = k a := by rw [h]; rfl
theorem szOk_of {n : Nat} (h : n ≤ 1000000) : szOk n = true := decide_eq_true (Nat.le_trans h (by decide))
theorem rgOk_of {n : Int} (h1 : -1000000 ≤ n) (h2 : n ≤ 1000000) : rgOk n = true := by
  unfold rgOk
  simp
  omega
theorem ixN_nat {n k : Nat} (h : k < n) : ixN n (k : Int) = some k := by
  unfold ixN
  rw [if_pos (by omega), if_pos (by omega)]
  simp
theorem ixN_pos {n : Nat} {i : Int} (h0 : 0 ≤ i) (h : i < n) : ixN n i = some i.toNat := by
  unfold ixN
  rw [if_pos h0, if_pos h]
theorem ixN_neg {n : Nat} {i : Int} (h0 : i < 0) (h : -(n : Int) ≤ i) : ixN n i = some (i + n).toNat := by
  unfold ixN
  rw [if_neg (by omega), if_pos h]
theorem pIxN_nat {n k : Nat} (h : k < n) : pIxN n (k : Int) = .ok k := by unfold pIxN; rw [ixN_nat h]; rfl
theorem pIxN_pos {n : Nat} {i : Int} (h0 : 0 ≤ i) (h : i < n) : pIxN n i = .ok i.toNat := by unfold pIxN; rw [ixN_pos h0 h]; rfl
theorem pAt_get {l : List α} {i : Int} {j : Nat} {a : α} (h : ixN l.length i = some j) (ha : l[j]? = some a) : pAt l i = .ok a := by
  unfold pAt atI
  rw [h]
  show ofO l[j]? = _
  rw [ha]
  rfl
theorem pAt_nat {l : List α} {k : Nat} (h : k < l.length) : pAt l (k : Int) = .ok l[k] := pAt_get (ixN_nat h) (List.getElem?_eq_getElem h)
theorem pAt_pos {l : List α} {i : Int} (h0 : 0 ≤ i) (h : i.toNat < l.length) : pAt l i = .ok l[i.toNat] := pAt_get (ixN_pos h0 (by omega)) (List.getElem?_eq_getElem h)
theorem pAt_some {l : List α} {k : Nat} {a : α} (h : l[k]? = some a) : pAt l (k : Int) = .ok a := pAt_get (ixN_nat (List.getElem?_eq_some_iff.mp h).1) h
/-- the item ahead, round -/
theorem pAt_ahead {l : List α} {k : Nat} (h : k < l.length) : pAt l ((k : Int) - 1) = .ok (l[if k = 0 then l.length - 1 else k - 1]'(by split <;> omega)) := by
  by_cases z : k = 0
  · subst z
    refine pAt_get (j := l.length - 1) ?_ ?_
    · rw [ixN_neg (by omega) (by omega)]
      congr 1
      omega
    · rw [List.getElem?_eq_getElem (by omega)]
      simp
  · refine pAt_get (j := k - 1) ?_ ?_
    · rw [show (k : Int) - 1 = ((k - 1 : Nat) : Int) by omega, ixN_nat (by omega)]
    · rw [List.getElem?_eq_getElem (by omega)]
      simp [z]
theorem up_zero (n : Nat) : up 0 n = (List.range n).map fun k : Nat => (k : Int) := by unfold up; simp
@[simp] theorem up_len (lo : Int) (n : Nat) : (up lo n).length = n := by simp [up]
theorem up_get {lo : Int} {n k : Nat} {a : Int} (h : (up lo n)[k]? = some a) : a = lo + (k : Nat) ∧ k < n := by
  have hk : k < n := by
    have := (List.getElem?_eq_some_iff.mp h).1
    simpa using this
  refine ⟨?_, hk⟩
  unfold up at h
  rw [List.getElem?_map, List.getElem?_range hk] at h
  exact (Option.some.inj h).symm
theorem pR1_nat {n : Nat} (h : n ≤ 1000000) : pR1 (n : Int) = .ok (up 0 n) := by
  unfold pR1
  rw [if_pos (rgOk_of (by omega) (by omega))]
  simp
theorem pR1_of {i : Int} {n : Nat} (e : i = n) (h : n ≤ 1000000) : pR1 i = .ok (up 0 n) := by rw [e, pR1_nat h]
theorem pR2_nat {a b : Nat} (h : a ≤ 1000000) (h2 : b ≤ 1000000) : pR2 (a : Int) (b : Int) = .ok (up a (b - a)) := by
  unfold pR2
  rw [if_pos (by rw [rgOk_of (by omega) (by omega), rgOk_of (by omega) (by omega)]; rfl)]
  congr 2
  omega
theorem pR2_of {i j : Int} {a b : Nat} (e : i = a) (e2 : j = b) (h : a ≤ 1000000) (h2 : b ≤ 1000000) : pR2 i j = .ok (up a (b - a)) := by rw [e, e2, pR2_nat h h2]
theorem pR1_len {l : List α} (h : l.length ≤ 1000000) : pR1 (l.length : Int) = .ok (up 0 l.length) := pR1_nat h
theorem pMod_pos {a b : Int} (h : 0 < b) : pMod a b = .ok (a % b) := by
  unfold pMod pI cMod
  rw [if_pos (by simp; omega), Int.fmod_eq_emod_of_nonneg a (by omega)]
theorem pDiv_pos {a b : Int} (h : 0 < b) (h2 : b.natAbs.log2 < 9000) : pDiv a b = .ok (a / b) := by
  unfold pDiv pI cDiv
  rw [if_pos (by simp; exact ⟨by omega, h2⟩), Int.fdiv_eq_ediv_of_nonneg a (by omega)]
/-- so many binary figures at most -/
def Sz (n : Nat) (a : Int) : Prop := a.natAbs < 2 ^ n
theorem log2_lt {n k : Nat} (h : n < 2 ^ k) (hk : 0 < k) : n.log2 < k := by
  by_cases z : n = 0
  · subst z; simpa using hk
  · exact (Nat.log2_lt z).mpr h
theorem Sz.log {n : Nat} {a : Int} (h : Sz n a) (hn : 0 < n) : a.natAbs.log2 < n := log2_lt h hn
theorem pDiv_sz {a b : Int} {n : Nat} (h : 0 < b) (hb : Sz n b) (hn : n ≤ 9000) : pDiv a b = .ok (a / b) := by
  refine pDiv_pos h ?_
  by_cases z : n = 0
  · subst z
    have : b.natAbs < 1 := hb
    omega
  · have := hb.log (by omega)
    omega
theorem pMul_sz {a b : Int} {n m : Nat} (ha : Sz n a) (hb : Sz m b) (h : n + m ≤ 999000) : pMul a b = .ok (a * b) := by
  unfold pMul pI cMul
  refine if_pos (decide_eq_true ?_)
  have h1 := ha.log (n := n)
  have h2 := hb.log (n := m)
  by_cases z : n = 0
  · have : a.natAbs < 1 := by subst z; exact ha
    have e : a.natAbs = 0 := by omega
    rw [e, show Nat.log2 0 = 0 by decide]
    by_cases z2 : m = 0
    · have : b.natAbs < 1 := by subst z2; exact hb
      have e : b.natAbs = 0 := by omega
      rw [e, show Nat.log2 0 = 0 by decide]
      decide
    · have := h2 (by omega)
      omega
  · have := h1 (by omega)
    by_cases z2 : m = 0
    · have : b.natAbs < 1 := by subst z2; exact hb
      have e : b.natAbs = 0 := by omega
      rw [e, show Nat.log2 0 = 0 by decide]
      omega
    · have := h2 (by omega)
      omega
theorem Sz.mono {n m : Nat} {a : Int} (h : Sz n a) (hm : n ≤ m) : Sz m a := Nat.lt_of_lt_of_le h (Nat.pow_le_pow_right (by decide) hm)
/-- small numbers -/
theorem pMul_small {a b : Int} (ha : a.natAbs < 2 ^ 400) (hb : b.natAbs < 2 ^ 400) : pMul a b = .ok (a * b) := pMul_sz (n := 400) (m := 400) ha hb (by decide)
theorem pPow_lit {a b : Int} {c : Int} (h : pPow a b = .ok c) : pPow a b = .ok c := h
theorem pApp_ok {l : List α} {a : α} (h : l.length < 1000000) : pApp l a = .ok (l ++ [a]) := by
  unfold pApp
  rw [if_pos (szOk_of (by omega))]
theorem pCat_ok {a b : List α} (h : a.length + b.length ≤ 1000000) : pCat a b = .ok (a ++ b) := by
  unfold pCat
  rw [if_pos (szOk_of h)]
/-- put in at a place -/
def ins (o : List α) (p : Nat) (x : α) : List α := o.take p ++ [x] ++ o.drop p
theorem pIns_ok {l : List α} {i : Int} {a : α} (h : l.length < 1000000) (h0 : 0 ≤ i) (h1 : i < 1000000) : pIns l i a = .ok (ins l i.toNat a) := by
  unfold pIns
  rw [if_pos (by rw [szOk_of (by omega)]; simp; omega)]
  rfl
theorem pIndex_ok [DecidableEq α] {l : List α} {x : α} (h : x ∈ l) : pIndex l x = .ok ((l.idxOf x : Nat) : Int) := by
  unfold pIndex
  rw [if_pos h]
theorem pUpdN_ok {xss : List α} {j : Nat} {u : α → Res α} {l l' : α} (h : xss[j]? = some l) (hu : u l = .ok l') : pUpdN xss j u = .ok (xss.set j l') := by
  unfold pUpdN
  rw [h]
  show (u l >>= _) = _
  rw [hu]
  rfl
theorem pPop_ok {l : List α} {a : α} : pPop (l ++ [a]) = .ok (a, l) := by
  unfold pPop
  simp
theorem pPut_ok {κ : Type} [DecidableEq κ] {l : List (κ × α)} {k : κ} {a : α} (h : l.length < 1000000) : pPut l k a = .ok (pPutK l k a) := by
  unfold pPut
  rw [if_pos (szOk_of (by omega))]
theorem pLcR_all {tc : α → Res Bool} {tf : α → Res γ} {c : α → Bool} {f : α → γ} : ∀ {l : List α}, (∀ a ∈ l, tc a = .ok (c a)) → (∀ a ∈ l, c a = true → tf a = .ok (f a)) → pLcR tc tf l = .ok ((l.filter c).map f)
  | [], _, _ => rfl
  | a :: l, h1, h2 => by
    have ih := pLcR_all (l := l) (fun b hb => h1 b (List.mem_cons_of_mem _ hb)) (fun b hb => h2 b (List.mem_cons_of_mem _ hb))
    unfold pLcR
    rw [h1 a List.mem_cons_self, ok_bind]
    cases q : c a with
    | false => rw [if_neg Bool.false_ne_true, ih, List.filter_cons_of_neg (by simp [q])]
    | true => rw [if_pos rfl, h2 a List.mem_cons_self q, ok_bind, ih, ok_bind, List.filter_cons_of_pos q]; rfl
theorem pLc_all {tc : α → Res Bool} {tf : α → Res γ} {c : α → Bool} {f : α → γ} {l : List α} (hz : l.length ≤ 1000000) (h1 : ∀ a ∈ l, tc a = .ok (c a)) (h2 : ∀ a ∈ l, c a = true → tf a = .ok (f a)) : pLc l tc tf = .ok ((l.filter c).map f) := by
  unfold pLc
  rw [if_pos (szOk_of hz), pLcR_all h1 h2]
  rfl
theorem pLc_map {tf : α → Res γ} {f : α → γ} {l : List α} (hz : l.length ≤ 1000000) (h2 : ∀ a ∈ l, tf a = .ok (f a)) : pLc l (fun _ => .ok true) tf = .ok (l.map f) := by
  rw [pLc_all (c := fun _ => true) hz (fun _ _ => rfl) (fun a ha _ => h2 a ha), List.filter_eq_self.mpr fun _ _ => rfl]
theorem pLc_copy {l : List α} (hz : l.length ≤ 1000000) : pLc l (fun _ => .ok true) (fun a => .ok a) = .ok l := by
  rw [pLc_map (f := fun a => a) hz (fun _ _ => rfl)]
  simp
theorem pLc_pure {c : α → Bool} {f : α → γ} {l : List α} (hz : l.length ≤ 1000000) : pLc l (fun a => .ok (c a)) (fun a => .ok (f a)) = .ok ((l.filter c).map f) := pLc_all hz (fun _ _ => rfl) (fun _ _ _ => rfl)
/-- loops over 0, 1, .. -/
theorem pFor_up {b : τ → Int → Res τ} (I : Nat → τ → Prop) {n : Nat} {s : τ} (h0 : I 0 s) (h : ∀ k s, k < n → I k s → ∃ s', b s (k : Int) = .ok s' ∧ I (k + 1) s') : ∃ s', pFor b (up 0 n) s = .ok s' ∧ I n s' := by
  obtain ⟨s', e, i⟩ := pFor_inv (b := b) I (up 0 n) s h0 fun k a s hk hi => by
    obtain ⟨rfl, hlt⟩ := up_get hk
    simpa using h k s hlt hi
  rw [up_len] at i
  exact ⟨s', e, i⟩
theorem pFor_from {b : τ → Int → Res τ} (I : Nat → τ → Prop) {lo n : Nat} {s : τ} (h0 : I lo s) (h : ∀ k s, lo ≤ k → k < lo + n → I k s → ∃ s', b s (k : Int) = .ok s' ∧ I (k + 1) s') : ∃ s', pFor b (up lo n) s = .ok s' ∧ I (lo + n) s' := by
  obtain ⟨s', e, i⟩ := pFor_inv (b := b) (fun k => I (lo + k)) (up lo n) s h0 fun k a s hk hi => by
    obtain ⟨rfl, hlt⟩ := up_get hk
    have := h (lo + k) s (by omega) (by omega) hi
    rw [show lo + k + 1 = lo + (k + 1) by omega] at this
    simpa using this
  rw [up_len] at i
  exact ⟨s', e, i⟩
theorem pForC_up {b : τ → Int → Res (Ct τ ρ)} (I : Nat → τ → Prop) (Q : Ct τ ρ → Prop) {n : Nat} {s : τ} (h0 : I 0 s) (h : ∀ k s, k < n → I k s → ∃ r, b s (k : Int) = .ok r ∧ CtP (I (k + 1)) Q r) (hq : ∀ s, I n s → Q (.nx s)) : ∃ r, pForC b (up 0 n) s = .ok r ∧ Q r :=
  pForC_inv (b := b) I Q (up 0 n) s h0 (fun k a s hk hi => by
    obtain ⟨rfl, hlt⟩ := up_get hk
    have := h k s hlt hi
    rw [Int.zero_add]
    exact this) fun s hi => hq s (by rw [up_len] at hi; exact hi)
/-- what a loop does step by step -/
theorem pFor_list {b : τ → α → Res τ} {f : τ → α → τ} (I : τ → Prop) : ∀ {l : List α} {s : τ}, I s → (∀ s a, a ∈ l → I s → b s a = .ok (f s a) ∧ I (f s a)) → pFor b l s = .ok (l.foldl f s) ∧ I (l.foldl f s)
  | [], s, h0, _ => ⟨rfl, h0⟩
  | a :: l, s, h0, h => by
    obtain ⟨e, i⟩ := h s a List.mem_cons_self h0
    have ih := pFor_list (l := l) (s := f s a) I i fun s b hb => h s b (List.mem_cons_of_mem _ hb)
    refine ⟨?_, ih.2⟩
    unfold pFor
    rw [e]
    exact ih.1
/-- a loop that tells nothing ahead of its end -/
theorem pForC_none {b : Unit → α → Res (Ct Unit ρ)} : ∀ {l : List α}, (∀ a ∈ l, b () a = .ok (.nx ())) → pForC b l () = .ok (.nx ())
  | [], _ => rfl
  | a :: l, h => by
    unfold pForC
    rw [h a List.mem_cons_self]
    exact pForC_none fun b hb => h b (List.mem_cons_of_mem _ hb)
theorem pForC_none' {b : Unit → α → Res (Ct Unit ρ)} {l : List α} (h : ∀ a ∈ l, b () a = .ok (.nx ())) {s : Unit} : pForC b l s = .ok (.nx ()) := pForC_none h
theorem pForC_first {b : Unit → α → Res (Ct Unit ρ)} {r : ρ} : ∀ {l : List α} {k : Nat} {a : α}, l[k]? = some a → (∀ i x, i < k → l[i]? = some x → b () x = .ok (.nx ())) → b () a = .ok (.rt r) → pForC b l () = .ok (.rt r)
  | x :: l, 0, a, h, _, hb => by
    cases h
    unfold pForC
    rw [hb]
    rfl
  | x :: l, k + 1, a, h, hi, hb => by
    unfold pForC
    rw [hi 0 x (by omega) rfl]
    exact pForC_first (l := l) (k := k) h (fun i y hik hy => hi (i + 1) y (by omega) hy) hb
/-- dicts -/
theorem pHas_iff {κ : Type} [DecidableEq κ] {l : List (κ × α)} {k : κ} : pHas l k = true ↔ k ∈ l.map (·.1) := by
  unfold pHas pGetK
  rw [Option.isSome_map, List.find?_isSome]
  constructor
  · rintro ⟨p, hp, h⟩
    exact List.mem_map.mpr ⟨p, hp, of_decide_eq_true h⟩
  · intro h
    obtain ⟨p, hp, rfl⟩ := List.mem_map.mp h
    exact ⟨p, hp, decide_eq_true rfl⟩
theorem pPutK_new {κ : Type} [DecidableEq κ] {l : List (κ × α)} {k : κ} {a : α} (h : k ∉ l.map (·.1)) : pPutK l k a = l ++ [(k, a)] := by
  unfold pPutK
  rw [if_neg]
  intro z
  obtain ⟨p, hp, e⟩ := List.any_eq_true.mp z
  exact h (List.mem_map.mpr ⟨p, hp, of_decide_eq_true e⟩)
theorem pPutK_keys_old {κ : Type} [DecidableEq κ] {l : List (κ × α)} {k : κ} {a : α} (h : k ∈ l.map (·.1)) : (pPutK l k a).map (·.1) = l.map (·.1) := by
  unfold pPutK
  rw [if_pos, List.map_map]
  · refine List.map_congr_left fun p hp => ?_
    show (if p.1 = k then (p.1, a) else p).1 = p.1
    split <;> rfl
  · obtain ⟨p, hp, rfl⟩ := List.mem_map.mp h
    exact List.any_eq_true.mpr ⟨p, hp, decide_eq_true rfl⟩
end Ow.M
end
section
set_option linter.all false
set_option exponentiation.threshold 100000
set_option maxHeartbeats 2000000
/-! MMap: orders of places, ways, rounds: no program in sight. -/
namespace Ow.M
open PySem L2 Ow Ow.P
section Sec
theorem mem_ins {o : List Int} {p : Nat} {x y : Int} : y ∈ ins o p x ↔ y = x ∨ y ∈ o := by
  unfold ins
  have : y ∈ o ↔ y ∈ o.take p ∨ y ∈ o.drop p := by
    rw [← List.mem_append, List.take_append_drop]
  simp only [List.mem_append, List.mem_singleton, this]
  constructor
  · rintro ((h | h) | h)
    · exact .inr (.inl h)
    · exact .inl h
    · exact .inr (.inr h)
  · rintro (h | h | h)
    · exact .inl (.inr h)
    · exact .inl (.inl h)
    · exact .inr h
theorem nodup_ins {o : List Int} {p : Nat} {x : Int} (h : o.Nodup) (hx : x ∉ o) : (ins o p x).Nodup := by
  have e : (ins o p x).Perm (x :: o) := by
    unfold ins
    have h1 : (o.take p ++ [x] ++ o.drop p).Perm ([x] ++ o.take p ++ o.drop p) := List.Perm.append_right _ List.perm_append_comm
    have h2 : [x] ++ o.take p ++ o.drop p = x :: o := by rw [List.append_assoc, List.take_append_drop]; rfl
    rw [h2] at h1
    exact h1
  exact e.nodup_iff.mpr (List.nodup_cons.mpr ⟨hx, h⟩)
@[simp] theorem len_ins (o : List Int) (p : Nat) (x : Int) : (ins o p x).length = o.length + 1 := by
  unfold ins
  simp
  omega
def nb (O : List (List Int)) (v : Nat) : List Int := O.getD v []
theorem nb_set {O : List (List Int)} {a v : Nat} {o : List Int} (h : a < O.length) : nb (O.set a o) v = if v = a then o else nb O v := by
  unfold nb
  by_cases e : v = a
  · subst e
    rw [if_pos rfl, List.getD_eq_getElem?_getD, List.getElem?_set_self h]
    rfl
  · rw [if_neg e, List.getD_eq_getElem?_getD, List.getElem?_set_ne (Ne.symm e), List.getD_eq_getElem?_getD]
theorem nb_get {O : List (List Int)} {v : Nat} (h : v < O.length) : O[v]? = some (nb O v) := by
  unfold nb
  rw [List.getD_eq_getElem?_getD, List.getElem?_eq_getElem h]
  rfl
theorem nb_out {O : List (List Int)} {v : Nat} (h : O.length ≤ v) : nb O v = [] := by
  unfold nb
  rw [List.getD_eq_getElem?_getD, List.getElem?_eq_none h]
  rfl
structure MapOk (O : List (List Int)) : Prop where
  rng : ∀ v u, u ∈ nb O v → 0 ≤ u ∧ u < (O.length : Int) ∧ u ≠ (v : Int)
  nd : ∀ v, (nb O v).Nodup
  sym : ∀ v u : Nat, (u : Int) ∈ nb O v → (v : Int) ∈ nb O u
theorem MapOk.put {O : List (List Int)} (h : MapOk O) {a b p q : Nat} (hab : a ≠ b) (ha : a < O.length) (hb : b < O.length) (n1 : (b : Int) ∉ nb O a) (n2 : (a : Int) ∉ nb O b) :
    MapOk ((O.set a (ins (nb O a) p b)).set b (ins (nb O b) q a)) := by
  have hb' : b < (O.set a (ins (nb O a) p b)).length := by simpa using hb
  have key : ∀ v, nb ((O.set a (ins (nb O a) p b)).set b (ins (nb O b) q a)) v = if v = b then ins (nb O b) q a else if v = a then ins (nb O a) p b else nb O v := fun v => by
    rw [nb_set hb', nb_set ha]
  refine ⟨fun v u hu => ?_, fun v => ?_, fun v u hu => ?_⟩
  · rw [key] at hu
    simp only [List.length_set]
    split at hu
    · rename_i e
      subst e
      rcases mem_ins.mp hu with rfl | hu
      · omega
      · exact h.rng _ _ hu
    · split at hu
      · rename_i e
        subst e
        rcases mem_ins.mp hu with rfl | hu
        · omega
        · exact h.rng _ _ hu
      · exact h.rng _ _ hu
  · rw [key]
    split
    · exact nodup_ins (h.nd b) n2
    · split
      · exact nodup_ins (h.nd a) n1
      · exact h.nd v
  · rw [key] at hu ⊢
    by_cases v1 : v = b
    · rw [if_pos v1] at hu
      rcases mem_ins.mp hu with e | hu
      · have eu : u = a := by omega
        rw [if_neg (by omega), if_pos eu]
        exact mem_ins.mpr (.inl (by omega))
      · have := h.sym b u hu
        by_cases u1 : u = b
        · have := (h.rng b u hu).2.2
          omega
        · rw [if_neg u1]
          by_cases u2 : u = a
          · rw [if_pos u2]; exact mem_ins.mpr (.inl (by omega))
          · rw [if_neg u2, v1]; exact this
    · rw [if_neg v1] at hu
      by_cases v2 : v = a
      · rw [if_pos v2] at hu
        rcases mem_ins.mp hu with e | hu
        · have eu : u = b := by omega
          rw [if_pos eu]
          exact mem_ins.mpr (.inl (by omega))
        · have := h.sym a u hu
          by_cases u1 : u = b
          · rw [if_pos u1]; exact mem_ins.mpr (.inl (by omega))
          · rw [if_neg u1]
            by_cases u2 : u = a
            · have := (h.rng a u hu).2.2
              omega
            · rw [if_neg u2, v2]; exact this
      · rw [if_neg v2] at hu
        have := h.sym v u hu
        by_cases u1 : u = b
        · rw [if_pos u1]; subst u1; exact mem_ins.mpr (.inr this)
        · rw [if_neg u1]
          by_cases u2 : u = a
          · rw [if_pos u2]; subst u2; exact mem_ins.mpr (.inr this)
          · rw [if_neg u2]; exact this
/-! ### a change at an item -/
structure AnyInv (O : List (List Int)) (many one other t : Nat) : Prop where
  len : O.length = many
  ok : MapOk O
  prs : ∀ v u : Nat, (u : Int) ∈ nb O v → max u v < one ∨ (max u v = one ∧ min u v < other)
  sz : ∀ v, (nb O v).length ≤ t
theorem AnyInv.next {O : List (List Int)} {many one other t : Nat} (h : AnyInv O many one other t) : AnyInv O many one (other + 1) (t + 1) :=
  ⟨h.len, h.ok, fun v u hu => (h.prs v u hu).imp id fun z => ⟨z.1, by omega⟩, fun v => Nat.le_succ_of_le (h.sz v)⟩
theorem AnyInv.row {O : List (List Int)} {many one t t' : Nat} (h : AnyInv O many one one t) (ht : t ≤ t') : AnyInv O many (one + 1) 0 t' :=
  ⟨h.len, h.ok, fun v u hu => by
    have h1 := h.prs v u hu
    have h2 := (h.ok.rng v u hu).2.2
    left
    omega, fun v => Nat.le_trans (h.sz v) ht⟩
theorem AnyInv.put {O : List (List Int)} {many one other t p q : Nat} (h : AnyInv O many one other t) (h1 : other < one) (h2 : one < many) :
    AnyInv ((O.set one (ins (nb O one) p other)).set other (ins (nb O other) q one)) many one (other + 1) (t + 1) := by
  have ha : one < O.length := by rw [h.len]; exact h2
  have hb : other < O.length := by rw [h.len]; omega
  have n1 : (other : Int) ∉ nb O one := fun z => by have := h.prs one other z; omega
  have n2 : (one : Int) ∉ nb O other := fun z => by have := h.prs other one z; omega
  have hb' : other < (O.set one (ins (nb O one) p other)).length := by simpa using hb
  have key : ∀ v, nb ((O.set one (ins (nb O one) p other)).set other (ins (nb O other) q one)) v = if v = other then ins (nb O other) q one else if v = one then ins (nb O one) p other else nb O v := fun v => by
    rw [nb_set hb', nb_set ha]
  refine ⟨by simp [h.len], h.ok.put (by omega) ha hb n1 n2, fun v u hu => ?_, fun v => ?_⟩
  · rw [key] at hu
    split at hu
    · rename_i e
      rcases mem_ins.mp hu with z | z
      · omega
      · have := h.prs other u z
        omega
    · split at hu
      · rename_i e
        rcases mem_ins.mp hu with z | z
        · omega
        · have := h.prs one u z
          omega
      · have := h.prs v u hu
        omega
  · rw [key]
    split
    · rw [len_ins]; have := h.sz other; omega
    · split
      · rw [len_ins]; have := h.sz one; omega
      · have := h.sz v; omega
theorem nb_rep (many v : Nat) : nb (List.replicate many []) v = [] := by
  unfold nb
  rw [List.getD_eq_getElem?_getD, List.getElem?_replicate]
  split <;> rfl
theorem AnyInv.start (many : Nat) : AnyInv (List.replicate many []) many 0 0 (8 * 0) :=
  have no : ∀ (v : Nat) (u : Int), u ∉ nb (List.replicate many []) v := fun v u hu => by
    rw [nb_rep] at hu
    cases hu
  ⟨List.length_replicate, ⟨fun v u hu => absurd hu (no v u), fun v => (nb_rep many v).symm ▸ List.Pairwise.nil, fun v u hu => absurd hu (no v u)⟩, fun v u hu => absurd hu (no v u), fun v => by rw [nb_rep]; exact Nat.le_refl _⟩
theorem rising_ext : ∀ {a b : List Int}, a.Pairwise (· < ·) → b.Pairwise (· < ·) → (∀ x, x ∈ a ↔ x ∈ b) → a = b
  | [], [], _, _, _ => rfl
  | [], y :: b, _, _, h => by have := (h y).mpr List.mem_cons_self; cases this
  | x :: a, [], _, _, h => by have := (h x).mp List.mem_cons_self; cases this
  | x :: a, y :: b, ha, hb, h => by
    have ha' := List.pairwise_cons.mp ha
    have hb' := List.pairwise_cons.mp hb
    have e : x = y := by
      rcases List.mem_cons.mp ((h x).mp List.mem_cons_self) with e | e
      · exact e
      · rcases List.mem_cons.mp ((h y).mpr List.mem_cons_self) with e2 | e2
        · exact e2.symm
        · have := hb'.1 x e
          have := ha'.1 y e2
          omega
    subst e
    rw [rising_ext ha'.2 hb'.2 fun z => ?_]
    constructor
    · intro hz
      rcases List.mem_cons.mp ((h z).mp (List.mem_cons_of_mem _ hz)) with e | e
      · have := ha'.1 z hz; omega
      · exact e
    · intro hz
      rcases List.mem_cons.mp ((h z).mpr (List.mem_cons_of_mem _ hz)) with e | e
      · have := hb'.1 z hz; omega
      · exact e
theorem srt_perm (o : List Int) : (srt o).Perm o := List.mergeSort_perm _ _
theorem srt_le (o : List Int) : (srt o).Pairwise (· ≤ ·) := by
  have := List.pairwise_mergeSort (le := fun a b : Int => decide (a ≤ b)) (fun a b c h1 h2 => by simp at *; omega) (fun a b => by simp; omega) o
  exact this.imp (by simp)
theorem srt_lt {o : List Int} (h : o.Nodup) : (srt o).Pairwise (· < ·) := by
  have h1 : (srt o).Nodup := (srt_perm o).nodup_iff.mpr h
  have h2 := (srt_le o).and h1
  exact h2.imp fun ⟨a, b⟩ => by omega
theorem mem_srt {o : List Int} {x : Int} : x ∈ srt o ↔ x ∈ o := (srt_perm o).mem_iff
def ties1 (O : List (List Int)) (v : Nat) : List (Int × Int) := ((srt (nb O v)).filter fun u => decide ((v : Int) < u)).map fun u => ((v : Int), u)
def tiesP (O : List (List Int)) (k : Nat) : List (Int × Int) := (List.range k).flatMap (ties1 O)
theorem tiesP_succ (O : List (List Int)) (k : Nat) : tiesP O (k + 1) = tiesP O k ++ ties1 O k := by
  unfold tiesP
  rw [List.range_succ, List.flatMap_append]
  simp
theorem ties1_len (O : List (List Int)) (v : Nat) (h : (nb O v).length ≤ 64) : (ties1 O v).length ≤ 64 := by
  unfold ties1
  rw [List.length_map]
  have h1 := List.length_filter_le (fun u => decide ((v : Int) < u)) (srt (nb O v))
  have h2 := (srt_perm (nb O v)).length_eq
  omega
theorem tiesP_len (O : List (List Int)) (h : ∀ v, (nb O v).length ≤ 64) : ∀ k, (tiesP O k).length ≤ 64 * k
  | 0 => Nat.le_refl _
  | k + 1 => by
    rw [tiesP_succ, List.length_append]
    have := tiesP_len O h k
    have := ties1_len O k (h k)
    omega
inductive Rch (O : List (List Int)) (start : Int) (gone : List Int) : Int → Prop
  | zero : Rch O start gone start
  | step {v : Nat} {u : Int} : Rch O start gone v → u ∈ nb O v → u ∉ gone → Rch O start gone u
theorem room_of {ks : List Int} {n : Nat} (nd : ks.Nodup) (h : ∀ x ∈ ks, 0 ≤ x ∧ x < (n : Int)) : ks.length ≤ n := by
  have := List.Nodup.length_le_of_subset nd (l₂ := (List.range n).map fun k : Nat => (k : Int)) fun x hx => by
    have := h x hx
    exact List.mem_map.mpr ⟨x.toNat, List.mem_range.mpr (by omega), by omega⟩
  simpa using this
structure CtInv (O : List (List Int)) (start : Int) (gone ks row : List Int) : Prop where
  nd : ks.Nodup
  rng : ∀ x ∈ ks, 0 ≤ x ∧ x < (O.length : Int)
  st : start ∈ ks
  rc : ∀ x ∈ ks, Rch O start gone x
  rowk : ∀ x ∈ row, x ∈ ks
  rnd : row.Nodup
  cl : ∀ v : Nat, (v : Int) ∈ ks → (v : Int) ∉ row → ∀ u ∈ nb O v, u ∉ gone → u ∈ ks
theorem CtInv.mem {O : List (List Int)} {start : Int} {gone ks : List Int} (h : CtInv O start gone ks []) (hO : MapOk O) (hs : 0 ≤ start) (x : Int) : x ∈ ks ↔ Rch O start gone x := by
  refine ⟨h.rc x, fun r => ?_⟩
  induction r with
  | zero => exact h.st
  | step _ hu hg ih => exact h.cl _ ih List.not_mem_nil _ hu hg

variable {O : List (List Int)} {start : Int} {gone F : List Int}
def stepC (O : List (List Int)) (gone F : List Int) (p : Nat) : List Int := if (p : Int) ∉ F ∧ (p : Int) ∉ gone ∧ (nb O p).filter (fun u => decide (u ∈ F)) ≠ [] then F ++ [(p : Int)] else F
structure FInv (O : List (List Int)) (start : Int) (gone F : List Int) : Prop where
  nd : F.Nodup
  rng : ∀ x ∈ F, 0 ≤ x ∧ x < (O.length : Int)
  st : start ∈ F
  rc : ∀ x ∈ F, Rch O start gone x
theorem FInv.step (h : FInv O start gone F) (hO : MapOk O) {p : Nat} (hp : p < O.length) : FInv O start gone (stepC O gone F p) := by
  unfold stepC
  split
  · rename_i hc
    obtain ⟨u, hu⟩ := List.exists_mem_of_ne_nil _ hc.2.2
    have hu' := List.mem_filter.mp hu
    have hF : u ∈ F := by simpa using hu'.2
    have hr := h.rng u hF
    obtain ⟨w, rfl⟩ : ∃ w : Nat, u = (w : Int) := ⟨u.toNat, by omega⟩
    refine ⟨List.nodup_append.mpr ⟨h.nd, List.nodup_cons.mpr ⟨List.not_mem_nil, .nil⟩, fun a ha b hb e => ?_⟩, fun x hx => ?_, List.mem_append_left _ h.st, fun x hx => ?_⟩
    · cases List.mem_singleton.mp hb
      exact hc.1 (e ▸ ha)
    · rcases List.mem_append.mp hx with hx | hx
      · exact h.rng x hx
      · cases List.mem_singleton.mp hx
        omega
    · rcases List.mem_append.mp hx with hx | hx
      · exact h.rc x hx
      · cases List.mem_singleton.mp hx
        exact .step (h.rc w hF) (hO.sym p w hu'.1) hc.2.1
  · exact h
theorem FInv.fold (hO : MapOk O) : ∀ {l : List Nat} {F : List Int}, FInv O start gone F → (∀ p ∈ l, p < O.length) → FInv O start gone (l.foldl (stepC O gone) F)
  | [], F, h, _ => h
  | p :: l, F, h, hl => FInv.fold hO (l := l) (F := stepC O gone F p) (h.step hO (hl p List.mem_cons_self)) fun q hq => hl q (List.mem_cons_of_mem _ hq)
theorem stepC_sub {p : Nat} {x : Int} (h : x ∈ F) : x ∈ stepC O gone F p := by
  unfold stepC
  split
  · exact List.mem_append_left _ h
  · exact h
theorem fold_sub {x : Int} : ∀ {l : List Nat} {F : List Int}, x ∈ F → x ∈ l.foldl (stepC O gone) F
  | [], _, h => h
  | p :: l, _, h => fold_sub (l := l) (stepC_sub h)
theorem fold_new {p : Nat} {u : Int} (hu : u ∈ nb O p) (hg : (p : Int) ∉ gone) : ∀ {l : List Nat} {F : List Int}, p ∈ l → u ∈ F → (p : Int) ∈ l.foldl (stepC O gone) F
  | q :: l, F, hp, hF => by
    rcases List.mem_cons.mp hp with rfl | hp
    · refine fold_sub (l := l) ?_
      unfold stepC
      by_cases h : (p : Int) ∈ F
      · rw [if_neg fun z => z.1 h]; exact h
      · rw [if_pos ⟨h, hg, fun z => by
          have : u ∈ (nb O p).filter fun u => decide (u ∈ F) := List.mem_filter.mpr ⟨hu, by simpa using hF⟩
          rw [z] at this
          cases this⟩]
        exact List.mem_append_right _ (List.mem_singleton.mpr rfl)
    · exact fold_new hu hg (l := l) hp (stepC_sub hF)
def Closed (O : List (List Int)) (gone F : List Int) : Prop := ∀ v : Nat, (v : Int) ∈ F → ∀ u ∈ nb O v, u ∉ gone → u ∈ F
theorem closed_step (hO : MapOk O) (hc : Closed O gone F) (hr : ∀ x ∈ F, 0 ≤ x) (p : Nat) : stepC O gone F p = F := by
  unfold stepC
  rw [if_neg]
  rintro ⟨h1, h2, h3⟩
  obtain ⟨u, hu⟩ := List.exists_mem_of_ne_nil _ h3
  have hu' := List.mem_filter.mp hu
  have hF : u ∈ F := by simpa using hu'.2
  have h0 := hr u hF
  obtain ⟨w, rfl⟩ : ∃ w : Nat, u = (w : Int) := ⟨u.toNat, by omega⟩
  exact h1 (hc w hF p (hO.sym p w hu'.1) h2)
theorem closed_fold (hO : MapOk O) (hc : Closed O gone F) (hr : ∀ x ∈ F, 0 ≤ x) : ∀ l : List Nat, l.foldl (stepC O gone) F = F
  | [] => rfl
  | p :: l => by
    rw [List.foldl_cons, closed_step hO hc hr]
    exact closed_fold hO hc hr l
def rounds (O : List (List Int)) (gone : List Int) : Nat → List Int → List Int
  | 0, F => F
  | k + 1, F => (List.range O.length).foldl (stepC O gone) (rounds O gone k F)
theorem FInv.rounds (hO : MapOk O) (h : FInv O start gone F) : ∀ k, FInv O start gone (rounds O gone k F)
  | 0 => h
  | k + 1 => FInv.fold hO (FInv.rounds hO h k) fun p hp => List.mem_range.mp hp
theorem rounds_grow (hO : MapOk O) (h : FInv O start gone F) : ∀ k, Closed O gone (rounds O gone k F) ∨ k + 1 ≤ (rounds O gone k F).length
  | 0 => .inr (List.length_pos_of_mem h.st)
  | k + 1 => by
    have hk := FInv.rounds hO h k
    have hk1 := FInv.rounds hO h (k + 1)
    by_cases hc : Closed O gone (rounds O gone k F)
    · left
      show Closed O gone ((List.range O.length).foldl (stepC O gone) (rounds O gone k F))
      rw [closed_fold hO hc (fun x hx => (hk.rng x hx).1)]
      exact hc
    · right
      rcases rounds_grow hO h k with hc2 | hl
      · exact absurd hc2 hc
      · have : ∃ (v : Nat) (u : Int), (v : Int) ∈ rounds O gone k F ∧ u ∈ nb O v ∧ u ∉ gone ∧ u ∉ rounds O gone k F := by
          refine Classical.byContradiction fun z => hc fun v hv u hu hg => Classical.byContradiction fun y => z ⟨v, u, hv, hu, hg, y⟩
        obtain ⟨v, u, h1, h2, h3, h4⟩ := this
        have hru := hO.rng v u h2
        obtain ⟨w, rfl⟩ : ∃ w : Nat, u = (w : Int) := ⟨u.toNat, by omega⟩
        have hin : (w : Int) ∈ rounds O gone (k + 1) F := fold_new (hO.sym v w h2) h3 (List.mem_range.mpr (by omega)) h1
        have hlen : ((w : Int) :: rounds O gone k F).length ≤ (rounds O gone (k + 1) F).length := List.Nodup.length_le_of_subset (List.nodup_cons.mpr ⟨h4, hk.nd⟩) fun x hx => by
          rcases List.mem_cons.mp hx with rfl | hx
          · exact hin
          · exact fold_sub hx
        simp at hlen
        omega
theorem rounds_mem (hO : MapOk O) (h : FInv O start gone F) (hs : 0 ≤ start) (x : Int) : x ∈ rounds O gone O.length F ↔ Rch O start gone x := by
  have hn := FInv.rounds hO h O.length
  have hc : Closed O gone (rounds O gone O.length F) := by
    rcases rounds_grow hO h O.length with hc | hl
    · exact hc
    · have := room_of hn.nd hn.rng
      omega
  refine ⟨hn.rc x, fun r => ?_⟩
  induction r with
  | zero => exact hn.st
  | step _ hu hg ih => exact hc _ ih _ hu hg
theorem FInv.one {start : Nat} (hs : start < O.length) : FInv O start gone [(start : Int)] := ⟨List.nodup_cons.mpr ⟨List.not_mem_nil, .nil⟩, fun x hx => by cases List.mem_singleton.mp hx; omega, List.mem_singleton.mpr rfl, fun x hx => by cases List.mem_singleton.mp hx; exact .zero⟩
theorem same_len {start : Nat} (hO : MapOk O) (hs : start < O.length) {ks : List Int} (hk : CtInv O start gone ks []) : (rounds O gone O.length [(start : Int)]).length = ks.length := by
  have hI : FInv O start gone [(start : Int)] := .one hs
  exact ((List.perm_ext_iff_of_nodup (FInv.rounds hO hI O.length).nd hk.nd).mpr fun x => by rw [rounds_mem hO hI (by omega), hk.mem hO (by omega)]).length_eq

end Sec
section
def pred (n i : Nat) : Nat := if i = 0 then n - 1 else i - 1
def nx (O : List (List Int)) (one : Int) (other : Nat) : Int := (nb O other).getD (pred (nb O other).length ((nb O other).idxOf one)) 0
theorem pred_lt {n i : Nat} (h : i < n) : pred n i < n := by unfold pred; split <;> omega
theorem pred_inj {n i j : Nat} (hi : i < n) (hj : j < n) (h : pred n i = pred n j) : i = j := by
  unfold pred at h
  split at h <;> split at h <;> omega
theorem nx_mem {O : List (List Int)} {one : Int} {other : Nat} (h : one ∈ nb O other) : nx O one other ∈ nb O other := by
  have hi : (nb O other).idxOf one < (nb O other).length := List.idxOf_lt_length_of_mem h
  have hp := pred_lt hi
  unfold nx
  rw [List.getD_eq_getElem?_getD, List.getElem?_eq_getElem hp]
  exact List.getElem_mem hp
theorem nx_inj {O : List (List Int)} {a b : Int} {other : Nat} (nd : (nb O other).Nodup) (ha : a ∈ nb O other) (hb : b ∈ nb O other) (h : nx O a other = nx O b other) : a = b := by
  have hi : (nb O other).idxOf a < (nb O other).length := List.idxOf_lt_length_of_mem ha
  have hj : (nb O other).idxOf b < (nb O other).length := List.idxOf_lt_length_of_mem hb
  have hp := pred_lt hi
  have hq := pred_lt hj
  unfold nx at h
  rw [List.getD_eq_getElem?_getD, List.getElem?_eq_getElem hp, List.getD_eq_getElem?_getD, List.getElem?_eq_getElem hq] at h
  have e : pred (nb O other).length ((nb O other).idxOf a) = pred (nb O other).length ((nb O other).idxOf b) := (List.getElem_inj nd).mp h
  have e2 := pred_inj hi hj e
  have h1 : (nb O other)[(nb O other).idxOf a] = a := List.getElem_idxOf hi
  have h2 : (nb O other)[(nb O other).idxOf b] = b := List.getElem_idxOf hj
  rw [← h1, ← h2]
  congr 1
def phi (O : List (List Int)) (w : Nat × Nat) : Nat × Nat := (w.2, (nx O w.1 w.2).toNat)
def Way (O : List (List Int)) (w : Nat × Nat) : Prop := (w.1 : Int) ∈ nb O w.2
theorem Way.lt {O : List (List Int)} (hO : MapOk O) {w : Nat × Nat} (h : Way O w) : w.1 < O.length ∧ w.2 < O.length := by
  have h1 := hO.rng w.2 w.1 h
  have h2 := hO.rng w.1 w.2 (hO.sym w.2 w.1 h)
  omega
theorem Way.phi {O : List (List Int)} (hO : MapOk O) {w : Nat × Nat} (h : Way O w) : Way O (phi O w) := by
  have hm := nx_mem h
  have hr := hO.rng w.2 _ hm
  show ((w.2 : Nat) : Int) ∈ nb O (nx O w.1 w.2).toNat
  refine hO.sym w.2 (nx O w.1 w.2).toNat ?_
  rw [Int.toNat_of_nonneg hr.1]
  exact hm
theorem phi_inj {O : List (List Int)} (hO : MapOk O) {w u : Nat × Nat} (hw : Way O w) (hu : Way O u) (h : phi O w = phi O u) : w = u := by
  obtain ⟨a, b⟩ := w
  obtain ⟨c, d⟩ := u
  have h1 : b = d := congrArg Prod.fst h
  subst h1
  have h2 : (nx O a b).toNat = (nx O c b).toNat := congrArg Prod.snd h
  have hw' : (a : Int) ∈ nb O b := hw
  have hu' : (c : Int) ∈ nb O b := hu
  have r1 := hO.rng b _ (nx_mem hw')
  have r2 := hO.rng b _ (nx_mem hu')
  have := nx_inj (hO.nd b) hw' hu' (by omega)
  rw [show a = c by omega]
def itW (O : List (List Int)) (w : Nat × Nat) : Nat → Nat × Nat
  | 0 => w
  | k + 1 => phi O (itW O w k)
theorem itW_way {O : List (List Int)} (hO : MapOk O) {w : Nat × Nat} (h : Way O w) : ∀ k, Way O (itW O w k)
  | 0 => h
  | k + 1 => (itW_way hO h k).phi hO
theorem itW_back {O : List (List Int)} (hO : MapOk O) {w : Nat × Nat} (h : Way O w) (d : Nat) : ∀ i, itW O w (i + d) = itW O w i → itW O w d = w
  | 0, e => by rw [Nat.zero_add] at e; exact e
  | i + 1, e => by
    refine itW_back hO h d i (phi_inj hO (itW_way hO h _) (itW_way hO h _) ?_)
    rw [Nat.add_right_comm] at e
    exact e
def allW (n : Nat) : List (Nat × Nat) := (List.range n).flatMap fun a => (List.range n).map fun b => (a, b)
theorem allW_len (n : Nat) : (allW n).length = n * n := by
  unfold allW
  rw [List.length_flatMap]
  have : ∀ l : List Nat, (l.map fun a => ((List.range n).map fun b => (a, b)).length).sum = l.length * n := by
    intro l
    induction l with
    | nil => simp
    | cons a l ih => rw [List.map_cons, List.sum_cons, ih, List.length_map, List.length_range, List.length_cons, Nat.succ_mul, Nat.add_comm]
  rw [this, List.length_range]
theorem mem_allW {n a b : Nat} (ha : a < n) (hb : b < n) : (a, b) ∈ allW n := by
  unfold allW
  simp [ha, hb]
theorem round {O : List (List Int)} (hO : MapOk O) {w : Nat × Nat} (h : Way O w) : ∃ m, 0 < m ∧ m ≤ O.length * O.length ∧ itW O w m = w := by
  by_cases hd : ((List.range (O.length * O.length + 1)).map (itW O w)).Nodup
  · have := List.Nodup.length_le_of_subset hd (l₂ := allW O.length) fun x hx => by
      obtain ⟨k, _, rfl⟩ := List.mem_map.mp hx
      have := (itW_way hO h k).lt hO
      exact mem_allW this.1 this.2
    rw [allW_len] at this
    simp at this
    omega
  · have : ∃ i j, i < j ∧ j ≤ O.length * O.length ∧ itW O w i = itW O w j := by
      refine Classical.byContradiction fun z => hd ?_
      rw [List.nodup_iff_pairwise_ne, List.pairwise_map]
      refine List.Pairwise.imp_of_mem ?_ (List.pairwise_lt_range (n := O.length * O.length + 1))
      intro i j hi hj hij e
      exact z ⟨i, j, hij, by have := List.mem_range.mp hj; omega, e⟩
    obtain ⟨i, j, hij, hj, e⟩ := this
    refine ⟨j - i, by omega, by omega, itW_back hO h (j - i) i ?_⟩
    rw [show i + (j - i) = j by omega, e]
theorem least_of {p : Nat → Prop} : ∀ m, p m → ∃ k, p k ∧ (∀ i, i < k → ¬ p i) ∧ k ≤ m := by
  intro m
  induction m using Nat.strongRecOn with
  | ind m ih =>
    intro h
    by_cases hx : ∃ i, i < m ∧ p i
    · obtain ⟨i, hi, hp⟩ := hx
      obtain ⟨k, a, b, c⟩ := ih i hi hp
      exact ⟨k, a, b, by omega⟩
    · exact ⟨m, h, fun i hi hp => hx ⟨i, hi, hp⟩, Nat.le_refl _⟩
theorem period {O : List (List Int)} (hO : MapOk O) {w : Nat × Nat} (h : Way O w) : ∃ m, 0 < m ∧ m ≤ O.length * O.length ∧ itW O w m = w ∧ ∀ i, 0 < i → i < m → itW O w i ≠ w := by
  obtain ⟨m, h1, h2, h3⟩ := round hO h
  obtain ⟨k, ⟨a1, a2⟩, b, c⟩ := least_of (p := fun m => 0 < m ∧ itW O w m = w) m ⟨h1, h3⟩
  exact ⟨k, a1, by omega, a2, fun i hi hik e => b i hik ⟨hi, e⟩⟩
def rng (O : List (List Int)) (w : Nat × Nat) (m : Nat) : List Int := (List.range m).map fun i => ((itW O w i).1 : Int)
theorem rng_succ (O : List (List Int)) (w : Nat × Nat) (m : Nat) : rng O w (m + 1) = rng O w m ++ [((itW O w m).1 : Int)] := by
  unfold rng
  rw [List.range_succ, List.map_append]
  rfl
def rot (r : List Int) (k : Nat) : List Int := r.drop k ++ r.take k
structure Orb (O : List (List Int)) (w : Nat × Nat) (m : Nat) : Prop where
  way : Way O w
  pos : 0 < m
  le : m ≤ O.length * O.length
  back : itW O w m = w
  least : ∀ i, 0 < i → i < m → itW O w i ≠ w
theorem orb_of {O : List (List Int)} (hO : MapOk O) {w : Nat × Nat} (h : Way O w) : ∃ m, Orb O w m := by
  obtain ⟨m, h1, h2, h3, h4⟩ := period hO h
  exact ⟨m, h, h1, h2, h3, h4⟩
theorem itW_add (O : List (List Int)) (w : Nat × Nat) (i : Nat) : ∀ j, itW O w (i + j) = itW O (itW O w i) j
  | 0 => rfl
  | j + 1 => by
    show phi O (itW O w (i + j)) = phi O (itW O (itW O w i) j)
    rw [itW_add O w i j]
theorem Orb.inj {O : List (List Int)} {w : Nat × Nat} {m : Nat} (hO : MapOk O) (h : Orb O w m) {i j : Nat} (hi : i < m) (hj : j < m) (e : itW O w i = itW O w j) : i = j := by
  have key : ∀ i j, i < j → j < m → itW O w i ≠ itW O w j := fun i j hij hj e => by
    have : itW O w (i + (j - i)) = itW O w i := by rw [show i + (j - i) = j by omega, e]
    exact h.least (j - i) (by omega) (by omega) (itW_back hO h.way (j - i) i this)
  rcases Nat.lt_trichotomy i j with z | z | z
  · exact absurd e (key i j z hj)
  · exact z
  · exact absurd e.symm (key j i z hi)
def orb (O : List (List Int)) (w : Nat × Nat) (m : Nat) : List (Nat × Nat) := (List.range m).map (itW O w)
theorem Orb.nodup {O : List (List Int)} {w : Nat × Nat} {m : Nat} (hO : MapOk O) (h : Orb O w m) : (orb O w m).Nodup := by
  unfold orb
  rw [List.nodup_iff_pairwise_ne, List.pairwise_map]
  refine List.Pairwise.imp_of_mem ?_ (List.pairwise_lt_range (n := m))
  intro i j hi hj hij e
  have := h.inj hO (List.mem_range.mp hi) (List.mem_range.mp hj) e
  omega
theorem Orb.step {O : List (List Int)} {w u : Nat × Nat} {m : Nat} (h : Orb O w m) (hu : u ∈ orb O w m) : phi O u ∈ orb O w m := by
  obtain ⟨i, hi, rfl⟩ := List.mem_map.mp hu
  have hi := List.mem_range.mp hi
  by_cases e : i + 1 = m
  · have : phi O (itW O w i) = itW O w m := by rw [← e]; rfl
    rw [this, h.back]
    exact List.mem_map.mpr ⟨0, List.mem_range.mpr h.pos, rfl⟩
  · exact List.mem_map.mpr ⟨i + 1, List.mem_range.mpr (by omega), rfl⟩

theorem lx_irrefl : ∀ a : List Int, HT.lexLt a a = false
  | [] => rfl
  | x :: a => by rw [HT.lexLt_cons, if_pos rfl, lx_irrefl a]
theorem lx_total : ∀ a b : List Int, HT.lexLt a b = false → HT.lexLt b a = false → a = b
  | [], [], _, _ => rfl
  | [], y :: b, h, _ => by rw [HT.lexLt_nil_cons] at h; cases h
  | x :: a, [], _, h => by rw [HT.lexLt_nil_cons] at h; cases h
  | x :: a, y :: b, h, h2 => by
    rw [HT.lexLt_cons] at h h2
    by_cases e : x = y
    · subst e
      rw [if_pos rfl] at h h2
      rw [lx_total a b h h2]
    · rw [if_neg e] at h
      rw [if_neg fun z => e z.symm] at h2
      have h := of_decide_eq_false h
      have h2 := of_decide_eq_false h2
      omega
theorem lx_trans : ∀ a b c : List Int, HT.lexLt a b = true → HT.lexLt b c = true → HT.lexLt a c = true
  | _, [], [], _, h => by rw [HT.lexLt_nil_nil] at h; cases h
  | _, y :: b, [], _, h => by rw [HT.lexLt_cons_nil] at h; cases h
  | [], _, z :: c, _, _ => HT.lexLt_nil_cons z c
  | x :: a, [], z :: c, h, _ => by rw [HT.lexLt_cons_nil] at h; cases h
  | x :: a, y :: b, z :: c, h1, h2 => by
    rw [HT.lexLt_cons] at h1 h2 ⊢
    by_cases e1 : x = y
    · subst e1
      rw [if_pos rfl] at h1
      by_cases e2 : x = z
      · subst e2
        rw [if_pos rfl] at h2 ⊢
        exact lx_trans a b c h1 h2
      · rw [if_neg e2] at h2 ⊢
        exact h2
    · rw [if_neg e1] at h1
      have h1 := of_decide_eq_true h1
      by_cases e2 : y = z
      · subst e2
        rw [if_neg e1]
        exact decide_eq_true h1
      · rw [if_neg e2] at h2
        have h2 := of_decide_eq_true h2
        rw [if_neg (by omega)]
        exact decide_eq_true (by omega)
theorem lx_asym (a b : List Int) (h : HT.lexLt a b = true) : HT.lexLt b a = false := by
  cases q : HT.lexLt b a with
  | false => rfl
  | true =>
    have := lx_trans a b a h q
    rw [lx_irrefl] at this
    cases this
theorem lx_le_trans (a b c : List Int) (h1 : HT.lexLt b a = false) (h2 : HT.lexLt c b = false) : HT.lexLt c a = false := by
  cases q : HT.lexLt c a with
  | false => rfl
  | true =>
    cases q2 : HT.lexLt a b with
    | true =>
      have := lx_trans c a b q q2
      rw [h2] at this
      cases this
    | false =>
      have := lx_total a b q2 h1
      subst this
      rw [q] at h2
      cases h2
theorem minLL_is : ∀ (A : List (List Int)) (r : List Int), minLL r A ∈ r :: A ∧ ∀ x ∈ r :: A, HT.lexLt x (minLL r A) = false
  | [], r => ⟨List.mem_singleton.mpr rfl, fun x hx => by cases List.mem_singleton.mp hx; exact lx_irrefl _⟩
  | y :: A, r => by
    have e : minLL r (y :: A) = minLL (if HT.lexLt y r then y else r) A := rfl
    rw [e]
    cases q : HT.lexLt y r with
    | true =>
      rw [if_pos rfl]
      obtain ⟨h1, h2⟩ := minLL_is A y
      refine ⟨List.mem_cons_of_mem _ h1, fun x hx => ?_⟩
      rcases List.mem_cons.mp hx with rfl | hx
      · exact lx_le_trans _ y _ (h2 y List.mem_cons_self) (lx_asym y x q)
      · exact h2 x hx
    | false =>
      rw [if_neg (by simp)]
      obtain ⟨h1, h2⟩ := minLL_is A r
      refine ⟨?_, fun x hx => ?_⟩
      · rcases List.mem_cons.mp h1 with h | h
        · rw [h]; exact List.mem_cons_self
        · exact List.mem_cons_of_mem _ (List.mem_cons_of_mem _ h)
      · rcases List.mem_cons.mp hx with rfl | hx
        · exact h2 x List.mem_cons_self
        · rcases List.mem_cons.mp hx with rfl | hx
          · exact lx_le_trans _ r _ (h2 r List.mem_cons_self) q
          · exact h2 x (List.mem_cons_of_mem _ hx)
theorem sortLL_perm (A : List (List Int)) : (sortLL A).Perm A := List.mergeSort_perm _ _
theorem sortLL_le (A : List (List Int)) : (sortLL A).Pairwise fun a b => HT.lexLt b a = false := by
  have := List.pairwise_mergeSort (le := leI) (fun a b c h1 h2 => by
    unfold leI at *
    have h1 : HT.lexLt b a = false := by simpa using h1
    have h2 : HT.lexLt c b = false := by simpa using h2
    rw [lx_le_trans a b c h1 h2]
    rfl) (fun a b => by
    unfold leI
    cases q : HT.lexLt b a with
    | false => rfl
    | true => rw [lx_asym b a q]; rfl) A
  exact this.imp fun {a b} h => by
    unfold leI at h
    simpa using h
theorem sortLL_lt {A : List (List Int)} (h : A.Nodup) : (sortLL A).Pairwise fun a b => HT.lexLt a b = true := by
  have h1 : (sortLL A).Nodup := (sortLL_perm A).nodup_iff.mpr h
  exact ((sortLL_le A).and h1).imp fun {a b} ⟨x, y⟩ => by
    cases q : HT.lexLt a b with
    | true => rfl
    | false => exact absurd (lx_total a b q x) y
end
end Ow.M
end
section
set_option linter.all false
set_option exponentiation.threshold 100000
set_option maxHeartbeats 2000000
/-! MDraw: the laws' drawn numbers, and drawn maps. -/
namespace Ow.M
open PySem L2 Ow Ow.P Ow.Lib
theorem pow_is (a b c : Int) (h : pPow a b = .ok c) : pPow a b = .ok c := h
theorem p10_64 : pPow 10 64 = .ok 10000000000000000000000000000000000000000000000000000000000000000 := rfl
theorem p10_6 : pPow 10 6 = .ok 1000000 := rfl
theorem p10_18 : pPow 10 18 = .ok 1000000000000000000 := rfl
theorem dlit {c : Int} (h : 0 < c) (h2 : c.natAbs < 2 ^ 250) (x : Int) : pDiv x c = .ok (x / c) := pDiv_sz (n := 250) h h2 (by decide)
theorem mlit {c : Int} (h : 0 < c) (x : Int) : pMod x c = .ok (x % c) := pMod_pos h
theorem block_ok (ns : List Int) (k : Nat) : ∃ m : Int, p__law_block ns k = .ok m ∧ 0 ≤ m ∧ m < 2147483587 := by
  have loop : ∀ c : Int, ∃ c', pFor (fun (s : Int) (x : Int) => (pDiv s 2147483587 >>= fun c => .ok c)) (up 0 (k % 8)) c = .ok c' := fun c => by
    obtain ⟨s', e, _⟩ := pFor_up (b := fun (s : Int) (x : Int) => (pDiv s 2147483587 >>= fun c => .ok c)) (fun _ _ => True) (n := k % 8) (s := c) trivial fun j s hj _ => ⟨s / 2147483587, by rw [dlit (by decide) (by decide)]; rfl, trivial⟩
    exact ⟨s', e⟩
  have rest : ∀ c : Int, ∃ m : Int, (pR1 ((k : Int) % 8) >>= fun w19 => pFor (fun (s23 : Int) (x20 : Int) => (pDiv s23 2147483587 >>= fun cell_24 => .ok cell_24)) w19 c >>= fun s23 => pMod s23 2147483587) = .ok m ∧ 0 ≤ m ∧ m < 2147483587 := fun c => by
    obtain ⟨c', e⟩ := loop c
    refine ⟨c' % 2147483587, ?_, by omega, by omega⟩
    rw [pR1_of (n := k % 8) (by omega) (by omega), ok_bind, e, ok_bind, mlit (by decide)]
  unfold p__law_block
  simp only [okB, dlit (c := 8) (by decide) (by decide), mlit (c := 62) (by decide), mlit (c := 8) (by decide), p10_64, decide_eq_true_eq]
  by_cases h : 1 + (k : Int) / 8 % 62 < ns.length
  · rw [if_pos h, pAt_pos (by omega) (by omega), ok_bind, dlit (by decide) (by decide)]
    simp only [okB, noXB, decide_eq_true_eq, if_true, Bool.false_eq_true, if_false]
    exact rest _
  · rw [if_neg h]
    simp only [okB, noXB, decide_eq_true_eq, if_true, Bool.false_eq_true, if_false]
    exact rest 0
theorem mixed_ok (ns : List Int) (hl : ns.length ≤ 63) (k : Nat) (hk : k < 100000) : ∃ m : Int, p__law_mixed ns k = .ok m ∧ 0 ≤ m ∧ m < 2147483587 := by
  obtain ⟨bm, hb, b0, b1⟩ := block_ok ns k
  have tail : ∀ c : Int, ∃ m : Int, ((pPow 10 18 >>= fun a13 => pMod c a13) >>= fun a14 => (pMul 48271 ((k : Int) + 1)) >>= fun a15 => Res.ok (a14 + a15)) >>= (fun number_16 =>
      ((pMul number_16 number_16 >>= fun a17 => pMod a17 2147483629) >>= fun a18 => (pMul 69621 (k : Int)) >>= fun a19 => Res.ok (a18 + a19)) >>= fun number_20 =>
      (pMul number_20 number_20 >>= fun a21 => pMod a21 2147483587)) = .ok m ∧ 0 ≤ m ∧ m < 2147483587 := fun c => by
    rw [p10_18, ok_bind, mlit (by decide), ok_bind, pMul_small (by decide) (by omega), ok_bind, ok_bind, pMul_small (by omega) (by omega), ok_bind, mlit (by decide), ok_bind, pMul_small (by decide) (by omega), ok_bind, ok_bind]
    obtain ⟨u, hu⟩ : ∃ u, u = c % 1000000000000000000 + 48271 * ((k : Int) + 1) := ⟨_, rfl⟩
    rw [← hu]
    obtain ⟨v, hv⟩ : ∃ v, v = u * u % 2147483629 + 69621 * (k : Int) := ⟨_, rfl⟩
    rw [← hv, pMul_small (by omega) (by omega), ok_bind, mlit (by decide)]
    exact ⟨_, rfl, Int.emod_nonneg _ (by decide), Int.emod_lt_of_pos _ (by decide)⟩
  unfold p__law_mixed
  simp only [okB, p10_6, dlit (c := 1000000) (by decide) (by decide), mlit (c := 2) (by decide), decide_eq_true_eq]
  by_cases h0 : ns.length = 0
  · have hd : ¬ (ns.length : Int) > 0 := by omega
    simp only [if_neg hd, ok_bind]
    rw [if_neg (by decide)]
    exact tail 0
  · have hd : (ns.length : Int) > 0 := by omega
    simp only [if_pos hd]
    rw [pAt_pos (i := 0) (by omega) (by simp; omega), ok_bind, ok_bind]
    by_cases hc : ns[Int.toNat 0] / 1000000 % 2 = 1
    · rw [if_pos hc, hb]
      exact ⟨bm, rfl, b0, b1⟩
    · rw [if_neg hc]
      have hpm : 0 < pMin 63 (ns.length : Int) ∧ pMin 63 (ns.length : Int) ≤ ns.length := by
        unfold pMin
        split <;> omega
      have e1 := Int.emod_nonneg (k : Int) (show pMin 63 (ns.length : Int) ≠ 0 by omega)
      have e2 := Int.emod_lt_of_pos (k : Int) hpm.1
      rw [mlit hpm.1, ok_bind, pAt_pos e1 (by omega), ok_bind, ok_bind]
      exact tail _
theorem cell_ok (ns : List Int) (k : Nat) : p__law_cell_at ns k = .ok (ns.getD k 0) := by
  unfold p__law_cell_at
  simp only [okB, noXB, decide_eq_true_eq, if_true, Bool.false_eq_true, if_false]
  by_cases h : k < ns.length
  · rw [if_pos (by omega), pAt_nat h]
    simp [List.getD_eq_getElem?_getD, h]
  · rw [if_neg (by omega)]
    simp [List.getD_eq_getElem?_getD, h]
theorem nbGet {O : List (List Int)} {k : Nat} (h : k < O.length) : O[k]? = some (nb O k) := nb_get h
theorem pAt_nb {O : List (List Int)} {k : Nat} (h : k < O.length) : pAt O (k : Int) = .ok (nb O k) := pAt_some (nb_get h)
theorem any_ok (ns : List Int) (hl : ns.length ≤ 63) (start many : Nat) (hs : start < 1000) (hm : many ≤ 8) : ∃ O : List (List Int), p__law_any ns start many = .ok O ∧ MapOk O ∧ O.length = many ∧ ∀ v, (nb O v).length ≤ 64 := by
  obtain ⟨m0, e0, m1, m2⟩ := mixed_ok ns hl start (by omega)
  obtain ⟨th, hth, t2, t3⟩ : ∃ th : Int, th = 2 + m0 % 3 ∧ 2 ≤ th ∧ th ≤ 4 := ⟨_, rfl, by omega, by omega⟩
  unfold p__law_any
  rw [pR1_nat (by omega), ok_bind, pLc_map (f := fun _ => []) (by simp; omega) (fun _ _ => rfl), ok_bind, e0, noX_ok, ok_bind, mlit (by decide), ok_bind, ok_bind, ← hth]
  have e3 : (up 0 many).map (fun _ => ([] : List Int)) = List.replicate many [] := by
    rw [List.map_const', up_len]
  rw [e3, ok_bind]
  obtain ⟨s', e, hI⟩ := pFor_up (b := fun (s147 : (List (List Int))) (x8 : Int) =>
  ((pR1 x8) >>= fun w148 => pFor (fun (s194 : (List (List Int))) (x149 : Int) =>
  (((((pMul (8 : Int) x8) >>= fun a195 => .ok (((start : Int) + (1 : Int)) + a195)) >>= fun a196 => .ok (a196 + x149)) >>= fun a197 => (noX (p__law_mixed ns a197))) >>= fun number_198 =>
  (((pMod number_198 th) >>= fun a199 => .ok (decide (a199 ≠ (0 : Int)))) >>= fun b216 => if b216 = true then
  (((pIxN s194.length x8) >>= fun a207 => (pUpdN s194 a207 fun l200 => (((pDiv number_198 (12 : Int)) >>= fun a203 => ((((pAt s194 x8) >>= fun a201 => .ok (a201.length : Int)) >>= fun a202 => .ok (a202 + (1 : Int))) >>= fun a204 => (pMod a203 a204))) >>= fun a205 => (pIns l200 a205 x149)))) >>= fun orders_206 =>
  (((pIxN orders_206.length x149) >>= fun a215 => (pUpdN orders_206 a215 fun l208 => (((pDiv number_198 (128 : Int)) >>= fun a211 => ((((pAt orders_206 x149) >>= fun a209 => .ok (a209.length : Int)) >>= fun a210 => .ok (a210 + (1 : Int))) >>= fun a212 => (pMod a211 a212))) >>= fun a213 => (pIns l208 a213 x8)))) >>= fun orders_214 =>
  (.ok orders_214)))
 else
  (.ok s194)))) w148 s147 >>= fun s194 =>
  (.ok s194))) (fun k O => AnyInv O many k 0 (8 * k)) (n := many) (s := List.replicate many []) (AnyInv.start many) (by
    intro one O h1 hI
    rw [pR1_nat (by omega), ok_bind]
    obtain ⟨O', e, hI'⟩ := pFor_up (b := (fun (s194 : (List (List Int))) (x149 : Int) =>
  (((((pMul (8 : Int) (one : Int)) >>= fun a195 => .ok (((start : Int) + (1 : Int)) + a195)) >>= fun a196 => .ok (a196 + x149)) >>= fun a197 => (noX (p__law_mixed ns a197))) >>= fun number_198 =>
  (((pMod number_198 th) >>= fun a199 => .ok (decide (a199 ≠ (0 : Int)))) >>= fun b216 => if b216 = true then
  (((pIxN s194.length (one : Int)) >>= fun a207 => (pUpdN s194 a207 fun l200 => (((pDiv number_198 (12 : Int)) >>= fun a203 => ((((pAt s194 (one : Int)) >>= fun a201 => .ok (a201.length : Int)) >>= fun a202 => .ok (a202 + (1 : Int))) >>= fun a204 => (pMod a203 a204))) >>= fun a205 => (pIns l200 a205 x149)))) >>= fun orders_206 =>
  (((pIxN orders_206.length x149) >>= fun a215 => (pUpdN orders_206 a215 fun l208 => (((pDiv number_198 (128 : Int)) >>= fun a211 => ((((pAt orders_206 x149) >>= fun a209 => .ok (a209.length : Int)) >>= fun a210 => .ok (a210 + (1 : Int))) >>= fun a212 => (pMod a211 a212))) >>= fun a213 => (pIns l208 a213 (one : Int))))) >>= fun orders_214 =>
  (.ok orders_214)))
 else
  (.ok s194))))) (fun j O => AnyInv O many one j (8 * one + j)) (n := one) (s := O) hI (by
      intro j O hj hI
      obtain ⟨m, em, mm1, mm2⟩ := mixed_ok ns hl (start + 1 + 8 * one + j) (by omega)
      have hone : one < O.length := by rw [hI.len]; exact h1
      have hjl : j < O.length := by omega
      rw [pMul_small (by decide) (by omega), ok_bind, ok_bind, ok_bind, show (start : Int) + 1 + 8 * (one : Int) + (j : Int) = ((start + 1 + 8 * one + j : Nat) : Int) by omega, em, noX_ok, ok_bind, pMod_pos (by omega), ok_bind, ok_bind]
      simp only [decide_eq_true_eq]
      by_cases hc : m % th ≠ 0
      · rw [if_pos hc]
        have sz1 := hI.sz one
        have sz2 := hI.sz j
        have e1 : pUpdN O one (fun l200 => (((pDiv m (12 : Int)) >>= fun a203 => ((((pAt O (one : Int)) >>= fun a201 => .ok (a201.length : Int)) >>= fun a202 => .ok (a202 + (1 : Int))) >>= fun a204 => (pMod a203 a204))) >>= fun a205 => (pIns l200 a205 (j : Int)))) = .ok (O.set one (ins (nb O one) (m / 12 % ((nb O one).length + 1)).toNat j)) := by
          refine pUpdN_ok (nb_get hone) ?_
          rw [dlit (by decide) (by decide), ok_bind, pAt_nb hone, ok_bind, ok_bind, ok_bind, pMod_pos (by omega), ok_bind]
          have := Int.emod_nonneg (m / 12) (show ((nb O one).length : Int) + 1 ≠ 0 by omega)
          have := Int.emod_lt_of_pos (m / 12) (show 0 < ((nb O one).length : Int) + 1 by omega)
          exact pIns_ok (by omega) (by omega) (by omega)
        rw [pIxN_nat hone, ok_bind, e1, ok_bind, List.length_set, pIxN_nat hjl, ok_bind]
        obtain ⟨p, hp⟩ : ∃ p, p = (m / 12 % ((nb O one).length + 1)).toNat := ⟨_, rfl⟩
        rw [← hp]
        have hjl' : j < (O.set one (ins (nb O one) p j)).length := by simpa using hjl
        have nbj : nb (O.set one (ins (nb O one) p j)) j = nb O j := by
          rw [nb_set hone, if_neg (by omega)]
        have e2 : pUpdN (O.set one (ins (nb O one) p j)) j (fun l208 => (((pDiv m (128 : Int)) >>= fun a211 => ((((pAt (O.set one (ins (nb O one) p j)) (j : Int)) >>= fun a209 => .ok (a209.length : Int)) >>= fun a210 => .ok (a210 + (1 : Int))) >>= fun a212 => (pMod a211 a212))) >>= fun a213 => (pIns l208 a213 (one : Int)))) = .ok ((O.set one (ins (nb O one) p j)).set j (ins (nb O j) (m / 128 % ((nb O j).length + 1)).toNat one)) := by
          refine pUpdN_ok (nb_get hjl') ?_
          rw [dlit (by decide) (by decide), ok_bind, pAt_nb hjl', ok_bind, ok_bind, ok_bind, nbj, pMod_pos (by omega), ok_bind]
          have := Int.emod_nonneg (m / 128) (show ((nb O j).length : Int) + 1 ≠ 0 by omega)
          have := Int.emod_lt_of_pos (m / 128) (show 0 < ((nb O j).length : Int) + 1 by omega)
          exact pIns_ok (by omega) (by omega) (by omega)
        rw [e2, ok_bind]
        exact ⟨_, rfl, hI.put hj h1⟩
      · rw [if_neg hc]
        exact ⟨_, rfl, hI.next⟩)
    rw [e, ok_bind]
    exact ⟨_, rfl, hI'.row (by omega)⟩)
  rw [e, ok_bind]
  refine ⟨s', rfl, hI.ok, hI.len, fun v => ?_⟩
  have := hI.sz v
  omega
end Ow.M
end
section
set_option linter.all false
set_option maxHeartbeats 1000000
/-! MRing: rings of orbits, the lands of a map. -/
namespace Ow.M
open PySem L2 Ow Ow.P
variable {O : List (List Int)}
theorem itW_mod {w : Nat × Nat} {m : Nat} (h : Orb O w m) (i : Nat) : itW O w i = itW O w (i % m) := by
  have key : ∀ q r, itW O w (m * q + r) = itW O w r := by
    intro q
    induction q with
    | zero => intro r; simp
    | succ q ih =>
      intro r
      rw [show m * (q + 1) + r = m + (m * q + r) by rw [Nat.mul_succ]; omega, itW_add, h.back, ih]
  have := key (i / m) (i % m)
  rw [Nat.div_add_mod] at this
  exact this
theorem Orb.shift (hO : MapOk O) {w : Nat × Nat} {m : Nat} (h : Orb O w m) (k : Nat) : Orb O (itW O w k) m := by
  refine ⟨itW_way hO h.way k, h.pos, h.le, ?_, fun i h0 hi e => ?_⟩
  · rw [← itW_add, Nat.add_comm, itW_add, h.back]
  · rw [← itW_add] at e
    exact h.least i h0 hi (itW_back hO h.way i k e)
theorem Orb.unique {w : Nat × Nat} {m m' : Nat} (h : Orb O w m) (h' : Orb O w m') : m = m' := by
  rcases Nat.lt_trichotomy m m' with z | z | z
  · exact absurd h.back (h'.least m h.pos z)
  · exact z
  · exact absurd h'.back (h.least m' h'.pos z)
theorem mem_orb {w u : Nat × Nat} {m : Nat} : u ∈ orb O w m ↔ ∃ i, i < m ∧ itW O w i = u := by
  unfold orb
  simp
theorem Orb.mem_it {w : Nat × Nat} {m : Nat} (h : Orb O w m) (i : Nat) : itW O w i ∈ orb O w m := by
  rw [itW_mod h]
  exact mem_orb.mpr ⟨i % m, Nat.mod_lt _ h.pos, rfl⟩
theorem Orb.same {w u : Nat × Nat} {m : Nat} (hO : MapOk O) (h : Orb O w m) (hu : u ∈ orb O w m) (x : Nat × Nat) : x ∈ orb O u m ↔ x ∈ orb O w m := by
  obtain ⟨i, hi, rfl⟩ := mem_orb.mp hu
  constructor
  · intro hx
    obtain ⟨j, hj, rfl⟩ := mem_orb.mp hx
    rw [← itW_add]
    exact h.mem_it _
  · intro hx
    obtain ⟨j, hj, rfl⟩ := mem_orb.mp hx
    have : itW O w j = itW O (itW O w i) (m - i + j) := by
      rw [← itW_add, show i + (m - i + j) = m + j by omega, itW_add, h.back]
    rw [this]
    exact (h.shift hO i).mem_it _
@[simp] theorem rng_len (O : List (List Int)) (w : Nat × Nat) (m : Nat) : (rng O w m).length = m := by simp [rng]
theorem rng_get {w : Nat × Nat} {m i : Nat} (h : i < m) : (rng O w m)[i]? = some ((itW O w i).1 : Int) := by
  unfold rng
  rw [List.getElem?_map, List.getElem?_range h]
  rfl
theorem rng_getE {w : Nat × Nat} {m i : Nat} (h : i < (rng O w m).length) : (rng O w m)[i] = ((itW O w i).1 : Int) := by
  have := rng_get (O := O) (w := w) (m := m) (i := i) (by simpa using h)
  rw [List.getElem?_eq_getElem h] at this
  exact Option.some.inj this
theorem itW_snd (O : List (List Int)) (w : Nat × Nat) (i : Nat) : (itW O w (i + 1)).1 = (itW O w i).2 := rfl
theorem rng_inj {w u : Nat × Nat} {m m' : Nat} (h : Orb O w m) (h' : Orb O u m') (e : rng O w m = rng O u m') : w = u ∧ m = m' := by
  have em : m = m' := by
    have := congrArg List.length e
    simpa using this
  subst em
  refine ⟨?_, rfl⟩
  have key : ∀ i, (itW O w i).1 = (itW O u i).1 := fun i => by
    rw [itW_mod h, itW_mod h']
    have hi : i % m < m := Nat.mod_lt _ h.pos
    have := rng_get (O := O) (w := w) hi
    rw [e, rng_get hi] at this
    have := Option.some.inj this
    omega
  have k0 := key 0
  have k1 := key 1
  have e1 : (itW O w 1).1 = w.2 := rfl
  have e2 : (itW O u 1).1 = u.2 := rfl
  rw [e1, e2] at k1
  exact Prod.ext k0 k1
theorem rot_rng {w : Nat × Nat} {m k : Nat} (h : Orb O w m) (hk : k < m) : rot (rng O w m) k = rng O (itW O w k) m := by
  refine List.ext_getElem? fun i => ?_
  unfold rot
  by_cases hi : i < m
  · rw [rng_get hi, ← itW_add]
    by_cases h2 : i < m - k
    · rw [List.getElem?_append_left (by simp; omega), List.getElem?_drop, rng_get (by omega)]
    · rw [List.getElem?_append_right (by simp; omega), List.getElem?_take]
      rw [if_pos (by simp; omega), rng_get (by simp; omega)]
      have : k + i = m + (i - (m - k)) := by omega
      rw [this, itW_add, h.back]
      simp
  · rw [List.getElem?_eq_none (by simp; omega), List.getElem?_eq_none (by simp; omega)]
theorem rot_zero (r : List Int) : rot r 0 = r := by simp [rot]
def leastRot (r : List Int) : List Int := match (List.range r.length).map (rot r) with
  | [] => []
  | a :: A => minLL a A
theorem rots_cons {r : List Int} (h : 0 < r.length) : ∃ A, (List.range r.length).map (rot r) = r :: A := by
  obtain ⟨n, hn⟩ : ∃ n, r.length = n + 1 := ⟨r.length - 1, by omega⟩
  refine ⟨(List.range n).map fun k => rot r (k + 1), ?_⟩
  rw [hn, List.range_succ_eq_map, List.map_cons, rot_zero, List.map_map]
  rfl
theorem leastRot_is {r : List Int} (h : 0 < r.length) : (∃ k, k < r.length ∧ leastRot r = rot r k) ∧ ∀ k, k < r.length → HT.lexLt (rot r k) (leastRot r) = false := by
  obtain ⟨A, hA⟩ := rots_cons h
  have e : leastRot r = minLL r A := by unfold leastRot; rw [hA]
  have q := minLL_is A r
  rw [← hA, ← e] at q
  refine ⟨?_, fun k hk => q.2 _ (List.mem_map.mpr ⟨k, List.mem_range.mpr hk, rfl⟩)⟩
  obtain ⟨k, hk, hk2⟩ := List.mem_map.mp q.1
  exact ⟨k, List.mem_range.mp hk, hk2.symm⟩
def IsRing (O : List (List Int)) (r : List Int) : Prop := ∃ w m, Orb O w m ∧ r = rng O w m ∧ ∀ k, k < m → HT.lexLt (rot r k) r = false
structure LandsOk (O : List (List Int)) (L : List (List Int)) : Prop where
  srt : L.Pairwise fun a b => HT.lexLt a b = true
  mem : ∀ r, r ∈ L ↔ IsRing O r
theorem leastRot_ring (hO : MapOk O) {w : Nat × Nat} {m : Nat} (h : Orb O w m) : ∃ k, k < m ∧ leastRot (rng O w m) = rng O (itW O w k) m ∧ IsRing O (leastRot (rng O w m)) := by
  obtain ⟨⟨k, hk, e⟩, hl⟩ := leastRot_is (r := rng O w m) (by simpa using h.pos)
  rw [rng_len] at hk hl
  rw [rot_rng h hk] at e
  refine ⟨k, hk, e, itW O w k, m, h.shift hO k, e, fun j hj => ?_⟩
  have : rot (leastRot (rng O w m)) j = rot (rng O w m) ((k + j) % m) := by
    rw [e, rot_rng (h.shift hO k) hj, ← itW_add, itW_mod h, rot_rng h (Nat.mod_lt _ h.pos)]
  rw [this]
  exact hl _ (Nat.mod_lt _ h.pos)
theorem ring_one (hO : MapOk O) {r : List Int} {w u : Nat × Nat} {m m' : Nat} (h : Orb O w m) (hr : r = rng O w m) (hl : ∀ k, k < m → HT.lexLt (rot r k) r = false) (h' : Orb O u m') (hu : u ∈ orb O w m) : leastRot (rng O u m') = r := by
  have em : m' = m := by
    obtain ⟨i, _, rfl⟩ := mem_orb.mp hu
    exact h'.unique (h.shift hO i)
  subst em
  obtain ⟨k, hk, e, w2, m2, o2, e2, l2⟩ := leastRot_ring hO h'
  obtain ⟨i, hi, rfl⟩ := mem_orb.mp hu
  rw [← itW_add] at e
  have a1 : leastRot (rng O (itW O w i) m') = rot r ((i + k) % m') := by
    rw [e, hr, itW_mod h, rot_rng h (Nat.mod_lt _ h.pos)]
  have b1 := hl _ (Nat.mod_lt (i + k) h.pos)
  rw [← a1] at b1
  have e0 : m2 = m' := by
    have := congrArg List.length e2
    rw [e, rng_len, rng_len] at this
    exact this.symm
  subst e0
  have a2 : ∃ j, j < m2 ∧ rot (leastRot (rng O (itW O w i) m2)) j = r := by
    refine ⟨(m2 - (i + k) % m2) % m2, Nat.mod_lt _ h.pos, ?_⟩
    rw [e, rot_rng (h.shift hO _) (Nat.mod_lt _ h.pos), hr, ← itW_add]
    congr 1
    rw [itW_mod h]
    have h1 : (i + k) % m2 < m2 := Nat.mod_lt _ h.pos
    have : (i + k + (m2 - (i + k) % m2) % m2) % m2 = 0 := by
      rw [Nat.add_mod, Nat.mod_mod]
      by_cases z : (i + k) % m2 = 0
      · rw [z]; simp
      · rw [Nat.mod_eq_of_lt (show m2 - (i + k) % m2 < m2 by omega), show (i + k) % m2 + (m2 - (i + k) % m2) = m2 by omega, Nat.mod_self]
    rw [this]
    rfl
  obtain ⟨j, hj, ej⟩ := a2
  have b2 := l2 j hj
  rw [ej] at b2
  exact lx_total _ _ b1 b2
theorem lex_ext : ∀ {a b : List (List Int)}, (a.Pairwise fun x y => HT.lexLt x y = true) → (b.Pairwise fun x y => HT.lexLt x y = true) → (∀ x, x ∈ a ↔ x ∈ b) → a = b
  | [], [], _, _, _ => rfl
  | [], y :: b, _, _, h => by have := (h y).mpr List.mem_cons_self; cases this
  | x :: a, [], _, _, h => by have := (h x).mp List.mem_cons_self; cases this
  | x :: a, y :: b, ha, hb, h => by
    have ha' := List.pairwise_cons.mp ha
    have hb' := List.pairwise_cons.mp hb
    have e : x = y := by
      rcases List.mem_cons.mp ((h x).mp List.mem_cons_self) with e | e
      · exact e
      · rcases List.mem_cons.mp ((h y).mpr List.mem_cons_self) with e2 | e2
        · exact e2.symm
        · have h1 := hb'.1 x e
          have h2 := ha'.1 y e2
          rw [lx_asym _ _ h1] at h2
          cases h2
    subst e
    rw [lex_ext ha'.2 hb'.2 fun z => ?_]
    constructor
    · intro hz
      rcases List.mem_cons.mp ((h z).mp (List.mem_cons_of_mem _ hz)) with e | e
      · subst e
        have := ha'.1 z hz
        rw [lx_irrefl] at this
        cases this
      · exact e
    · intro hz
      rcases List.mem_cons.mp ((h z).mpr (List.mem_cons_of_mem _ hz)) with e | e
      · subst e
        have := hb'.1 z hz
        rw [lx_irrefl] at this
        cases this
      · exact e
theorem LandsOk.unique {L L' : List (List Int)} (h : LandsOk O L) (h' : LandsOk O L') : L = L' := lex_ext h.srt h'.srt fun r => (h.mem r).trans (h'.mem r).symm
structure LInv (O : List (List Int)) (ws : List ((Nat × Nat) × Nat)) (G : List (Nat × Nat)) : Prop where
  isOrb : ∀ p ∈ ws, Orb O p.1 p.2
  mem : ∀ w, w ∈ G ↔ ∃ p ∈ ws, w ∈ orb O p.1 p.2
  nd : G.Nodup
  dis : ws.Pairwise fun p q => ∀ w, w ∈ orb O p.1 p.2 → w ∉ orb O q.1 q.2
theorem LInv.nil (O : List (List Int)) : LInv O [] [] := ⟨fun p h => (List.not_mem_nil h).elim, fun w => ⟨fun h => (List.not_mem_nil h).elim, fun ⟨p, h, _⟩ => (List.not_mem_nil h).elim⟩, List.Pairwise.nil, List.Pairwise.nil⟩
theorem LInv.way {ws : List ((Nat × Nat) × Nat)} {G : List (Nat × Nat)} (hO : MapOk O) (h : LInv O ws G) {w : Nat × Nat} (hw : w ∈ G) : Way O w := by
  obtain ⟨p, hp, hm⟩ := (h.mem w).mp hw
  obtain ⟨i, _, rfl⟩ := mem_orb.mp hm
  exact itW_way hO (h.isOrb p hp).way i
theorem LInv.add (hO : MapOk O) {ws : List ((Nat × Nat) × Nat)} {G G' : List (Nat × Nat)} {w : Nat × Nat} {m : Nat} (h : LInv O ws G) (ho : Orb O w m) (hn : w ∉ G) (hp : G'.Perm (orb O w m)) : LInv O (ws ++ [(w, m)]) (G ++ G') := by
  have dj : ∀ p ∈ ws, ∀ x, x ∈ orb O p.1 p.2 → x ∉ orb O w m := fun p hp x hx hx2 => by
    refine hn ((h.mem w).mpr ⟨p, hp, ?_⟩)
    obtain ⟨i, hi, rfl⟩ := mem_orb.mp hx2
    have h1 := h.isOrb p hp
    have h2 : Orb O (itW O w i) m := ho.shift hO i
    have e : p.2 = m := by
      obtain ⟨j, _, ej⟩ := mem_orb.mp hx
      have := h1.shift hO j
      rw [ej] at this
      exact this.unique h2
    rw [e] at hx h1 ⊢
    have q := (h1.same hO hx w).mp
    refine q ?_
    have this : w = itW O (itW O w i) (m - i) := by rw [← itW_add, show i + (m - i) = m by omega, ho.back]
    have q2 := h2.mem_it (m - i)
    rw [← this] at q2
    exact q2
  refine ⟨fun p hp => ?_, fun x => ?_, ?_, ?_⟩
  · rcases List.mem_append.mp hp with hp | hp
    · exact h.isOrb p hp
    · cases List.mem_singleton.mp hp
      exact ho
  · rw [List.mem_append, h.mem, hp.mem_iff]
    constructor
    · rintro (⟨p, a, b⟩ | hx)
      · exact ⟨p, List.mem_append_left _ a, b⟩
      · exact ⟨(w, m), by simp, hx⟩
    · rintro ⟨p, a, b⟩
      rcases List.mem_append.mp a with a | a
      · exact .inl ⟨p, a, b⟩
      · cases List.mem_singleton.mp a
        exact .inr b
  · refine List.nodup_append.mpr ⟨h.nd, hp.nodup_iff.mpr (ho.nodup hO), fun a ha b hb e => ?_⟩
    subst e
    obtain ⟨p, h1, h2⟩ := (h.mem a).mp ha
    exact dj p h1 a h2 (hp.mem_iff.mp hb)
  · refine List.pairwise_append.mpr ⟨h.dis, List.pairwise_singleton _ _, fun p hp q hq => ?_⟩
    cases List.mem_singleton.mp hq
    exact dj p hp
theorem LInv.lands (hO : MapOk O) {ws : List ((Nat × Nat) × Nat)} {G : List (Nat × Nat)} (h : LInv O ws G) (hall : ∀ w, Way O w → w ∈ G) : LandsOk O (sortLL (ws.map fun p => leastRot (rng O p.1 p.2))) := by
  have key : ∀ p ∈ ws, ∀ q ∈ ws, leastRot (rng O p.1 p.2) = leastRot (rng O q.1 q.2) → ∃ w, w ∈ orb O p.1 p.2 ∧ w ∈ orb O q.1 q.2 := fun p hp q hq e => by
    obtain ⟨k, hk, e1, _⟩ := leastRot_ring hO (h.isOrb p hp)
    obtain ⟨j, hj, e2, _⟩ := leastRot_ring hO (h.isOrb q hq)
    rw [e1, e2] at e
    obtain ⟨e3, e4⟩ := rng_inj ((h.isOrb p hp).shift hO k) ((h.isOrb q hq).shift hO j) e
    exact ⟨itW O p.1 k, (h.isOrb p hp).mem_it k, by rw [e3]; exact (h.isOrb q hq).mem_it j⟩
  have nd : (ws.map fun p => leastRot (rng O p.1 p.2)).Nodup := by
    rw [List.nodup_iff_pairwise_ne, List.pairwise_map]
    exact h.dis.imp_of_mem fun {p q} hp hq d e => by
      obtain ⟨w, a, b⟩ := key p hp q hq e
      exact d w a b
  refine ⟨sortLL_lt nd, fun r => ?_⟩
  rw [(sortLL_perm _).mem_iff, List.mem_map]
  constructor
  · rintro ⟨p, hp, rfl⟩
    obtain ⟨_, _, _, i⟩ := leastRot_ring hO (h.isOrb p hp)
    exact i
  · rintro ⟨w, m, ho, hr, hl⟩
    obtain ⟨p, hp, hm⟩ := (h.mem w).mp (hall w ho.way)
    have hpo := h.isOrb p hp
    have e : p.2 = m := by
      obtain ⟨j, _, ej⟩ := mem_orb.mp hm
      have := hpo.shift hO j
      rw [ej] at this
      exact this.unique ho
    refine ⟨p, hp, ring_one hO ho hr hl hpo ?_⟩
    rw [← e]
    obtain ⟨i, hi, ei⟩ := mem_orb.mp hm
    have o2 : Orb O w p.2 := by rw [← ei]; exact hpo.shift hO i
    have : p.1 = itW O w (p.2 - i) := by rw [← ei, ← itW_add, show i + (p.2 - i) = p.2 by omega, hpo.back]
    rw [this]
    exact o2.mem_it _
def waysOf (O : List (List Int)) : List (Nat × Nat) := (List.range O.length).flatMap fun b => (nb O b).map fun a => (a.toNat, b)
theorem mem_waysOf (hO : MapOk O) {w : Nat × Nat} : w ∈ waysOf O ↔ Way O w := by
  unfold waysOf
  rw [List.mem_flatMap]
  constructor
  · rintro ⟨b, hb, h⟩
    obtain ⟨a, ha, rfl⟩ := List.mem_map.mp h
    show ((a.toNat : Nat) : Int) ∈ nb O b
    rw [Int.toNat_of_nonneg (hO.rng b a ha).1]
    exact ha
  · intro h
    exact ⟨w.2, List.mem_range.mpr (h.lt hO).2, List.mem_map.mpr ⟨w.1, h, by simp⟩⟩
theorem nodup_waysOf (hO : MapOk O) : (waysOf O).Nodup := by
  unfold waysOf
  rw [List.nodup_iff_pairwise_ne, List.pairwise_flatMap]
  refine ⟨fun b hb => ?_, (List.pairwise_lt_range (n := O.length)).imp fun {b c} hbc x hx y hy e => ?_⟩
  · rw [List.pairwise_map]
    have := hO.nd b
    rw [List.nodup_iff_pairwise_ne] at this
    exact this.imp_of_mem fun {a a'} ha ha' hne e => by
      have := hO.rng b a ha
      have := hO.rng b a' ha'
      have e1 := congrArg Prod.fst e
      simp at e1
      omega
  · obtain ⟨a, ha, rfl⟩ := List.mem_map.mp hx
    obtain ⟨a', ha', rfl⟩ := List.mem_map.mp hy
    have := congrArg Prod.snd e
    simp at this
    omega
theorem len_waysOf (O : List (List Int)) : (waysOf O).length = (O.map List.length).sum := by
  unfold waysOf
  rw [List.length_flatMap]
  congr 1
  refine List.ext_getElem? fun i => ?_
  rw [List.getElem?_map, List.getElem?_map]
  by_cases h : i < O.length
  · rw [List.getElem?_range h, nb_get h]
    simp
  · rw [List.getElem?_eq_none (by simpa using h), List.getElem?_eq_none (by simpa using h)]
    rfl
theorem LInv.perm (hO : MapOk O) {ws : List ((Nat × Nat) × Nat)} {G : List (Nat × Nat)} (h : LInv O ws G) (hall : ∀ w, Way O w → w ∈ G) : G.Perm (waysOf O) :=
  (List.perm_ext_iff_of_nodup h.nd (nodup_waysOf hO)).mpr fun w => ⟨fun hw => (mem_waysOf hO).mpr (h.way hO hw), fun hw => hall w ((mem_waysOf hO).mp hw)⟩
end Ow.M
end
section
set_option linter.all false
set_option maxHeartbeats 1000000
/-! MLands: what the program and the laws tell of lands. -/
namespace Ow.M
open PySem L2 Ow Ow.P Ow.Lib
variable {O : List (List Int)}
theorem idx_get {o : List Int} {x : Int} (h : x ∈ o) : o.idxOf x < o.length := List.idxOf_lt_length_of_mem h
theorem pAt_idx_ahead {o : List Int} {x : Int} (h : x ∈ o) : pAt o (((o.idxOf x : Nat) : Int) - 1) = .ok (o.getD (pred o.length (o.idxOf x)) 0) := by
  have hi := idx_get h
  rw [pAt_ahead hi]
  congr 1
  unfold pred
  rw [List.getD_eq_getElem?_getD, List.getElem?_eq_getElem]
  rfl
theorem next_in_ok {one : Int} {other : Nat} (ho : other < O.length) (h : one ∈ nb O other) : p_next_in O one other = .ok (nx O one other) := by
  unfold p_next_in
  rw [pAt_nb ho, ok_bind, pIndex_ok h, ok_bind, ok_bind, pAt_idx_ahead h]
  rfl
theorem nx_way (hO : MapOk O) {w : Nat × Nat} (h : Way O w) : nx O w.1 w.2 = ((phi O w).2 : Int) := by
  show nx O w.1 w.2 = (((nx O w.1 w.2).toNat : Nat) : Int)
  rw [Int.toNat_of_nonneg (hO.rng w.2 _ (nx_mem h)).1]
theorem sq_le {n : Nat} (hn : n ≤ 100) : n * n ≤ 10000 := Nat.mul_le_mul hn hn
theorem ring_from_ok (hO : MapOk O) (hn : O.length ≤ 100) {w : Nat × Nat} {m : Nat} (h : Orb O w m) : p_ring_from O w.1 w.2 = .ok (rng O w m) := by
  have hm : m ≤ 10000 := Nat.le_trans h.le (sq_le hn)
  unfold p_ring_from
  rw [ok_bind, ok_bind, ok_bind]
  obtain ⟨r, e, hr⟩ := pWhile_inv (c := fun (_ : (List Int) × Int × Int) => Res.ok true) (b := fun (s14 : (List Int) × Int × Int) =>
    (Res.ok s14.2.2 >>= fun here_15 => (noX (p_next_in O s14.2.1 s14.2.2)) >>= fun there_16 =>
    ((Res.ok ((decide (here_15 = (w.1 : Int))) && (decide (there_16 = (w.2 : Int))))) >>= fun b18 => if b18 = true then
      (Res.ok (Ct.rt s14.1))
    else
      (((pApp s14.1 here_15)) >>= fun found_17 =>
      (Res.ok (Ct.nx (found_17, here_15, there_16)))))))
    (fun s => ∃ i, i < m ∧ s = (rng O w (i + 1), ((itW O w i).1 : Int), ((itW O w i).2 : Int))) (fun c => c = .rt (rng O w m)) (fun s => m - s.1.length) (s := ([(w.1 : Int)], (w.1 : Int), (w.2 : Int)))
    ⟨0, h.pos, rfl⟩ (by
      rintro s ⟨i, hi, rfl⟩
      refine ⟨true, rfl, (fun z => by cases z), fun _ => ?_⟩
      have hw := itW_way hO h.way i
      have hlt := hw.lt hO
      simp only [okB, noXB, decide_eq_true_eq, if_true, Bool.false_eq_true, if_false]
      rw [next_in_ok hlt.2 hw, noX_ok, ok_bind, nx_way hO hw]
      have es : phi O (itW O w i) = itW O w (i + 1) := rfl
      have e1 : (itW O w i).2 = (itW O w (i + 1)).1 := rfl
      rw [es, e1]
      by_cases z : i + 1 = m
      · rw [z, h.back]
        simp only [decide_true, Bool.and_self, if_true]
        exact ⟨_, rfl, rfl⟩
      · have hne := h.least (i + 1) (by omega) (by omega)
        have hc : ¬ ((decide ((((itW O w (i + 1)).1 : Nat) : Int) = (w.1 : Int)) && decide ((((itW O w (i + 1)).2 : Nat) : Int) = (w.2 : Int))) = true) := by
          intro q
          simp at q
          exact hne (Prod.ext (by omega) (by omega))
        rw [if_neg hc, pApp_ok (by simp; omega), ok_bind]
        refine ⟨_, rfl, ⟨i + 1, by omega, ?_⟩, ?_⟩
        · rw [rng_succ O w (i + 1)]
        · simp
          omega)
  rw [e, ok_bind, hr]
  rfl
theorem cut_from {l : List Int} {k : Nat} : cutG l (some (k : Int)) none = l.drop k := by
  unfold cutG
  rw [HT.sIx_none, HT.sIx_nat]
  rw [List.take_of_length_le]
  · by_cases h : k ≤ l.length
    · rw [Nat.min_eq_left h]
    · rw [Nat.min_eq_right (by omega), List.drop_length, List.drop_of_length_le (by omega)]
  · simp
theorem cut_to {l : List Int} {k : Nat} : cutG l none (some (k : Int)) = l.take k := by
  unfold cutG
  rw [HT.sIx_none, HT.sIx_nat]
  rw [List.drop_zero, Nat.sub_zero]
  by_cases h : k ≤ l.length
  · rw [Nat.min_eq_left h]
  · rw [Nat.min_eq_right (by omega), List.take_length, List.take_of_length_le (by omega)]
theorem rot_ok {r : List Int} (hn : r.length ≤ 100000) {k : Nat} : pCat (cutG r (some (k : Int)) none) (cutG r none (some (k : Int))) = .ok (rot r k) := by
  rw [cut_from, cut_to, pCat_ok (by simp; omega)]
  rfl
theorem rots_ok {r : List Int} (hn : r.length ≤ 100000) : (pR1 (r.length : Int) >>= fun a => pLc a (fun _ => .ok true) (fun x => pCat (cutG r (some x) none) (cutG r none (some x)))) = .ok ((List.range r.length).map (rot r)) := by
  rw [pR1_len (by omega), ok_bind, pLc_map (f := fun x : Int => rot r x.toNat) (by simp; omega) (fun x hx => ?_)]
  · rw [up_zero, List.map_map]
    rfl
  · rw [up_zero] at hx
    obtain ⟨k, _, rfl⟩ := List.mem_map.mp hx
    exact rot_ok hn
theorem begun_ok {r : List Int} (h0 : 0 < r.length) (hn : r.length ≤ 100000) : p_begun_least r = .ok (leastRot r) := by
  unfold p_begun_least
  rw [rots_ok hn, ok_bind]
  unfold leastRot
  obtain ⟨A, hA⟩ := rots_cons h0
  rw [hA]
  rfl
def wk (w : Nat × Nat) : List Int := [(w.1 : Int), (w.2 : Int)]
theorem wk_inj {w u : Nat × Nat} (h : wk w = wk u) : w = u := by
  unfold wk at h
  simp at h
  exact Prod.ext (by omega) (by omega)
def kt (G : List (Nat × Nat)) : List (List Int × Bool) := G.map fun w => (wk w, true)
@[simp] theorem kt_len (G : List (Nat × Nat)) : (kt G).length = G.length := by simp [kt]
theorem kt_keys (G : List (Nat × Nat)) : (kt G).map (·.1) = G.map wk := by unfold kt; rw [List.map_map]; rfl
theorem kt_has {G : List (Nat × Nat)} {w : Nat × Nat} : pHas (kt G) (wk w) = true ↔ w ∈ G := by
  rw [pHas_iff, kt_keys]
  constructor
  · intro h
    obtain ⟨u, hu, e⟩ := List.mem_map.mp h
    rw [← wk_inj e]
    exact hu
  · exact fun h => List.mem_map.mpr ⟨w, h, rfl⟩
theorem kt_put {G : List (Nat × Nat)} {w : Nat × Nat} (h : w ∉ G) (hz : G.length < 1000000) : pPut (kt G) (wk w) true = .ok (kt (G ++ [w])) := by
  rw [pPut_ok (by simpa using hz), pPutK_new]
  · unfold kt
    rw [List.map_append]
    rfl
  · rw [kt_keys]
    intro z
    obtain ⟨u, hu, e⟩ := List.mem_map.mp z
    rw [wk_inj e] at hu
    exact h hu
def gw (O : List (List Int)) (w : Nat × Nat) (m k : Nat) : List (Nat × Nat) := (List.range k).map fun x => itW O w (pred m x)
theorem gw_succ (O : List (List Int)) (w : Nat × Nat) (m k : Nat) : gw O w m (k + 1) = gw O w m k ++ [itW O w (pred m k)] := by
  unfold gw
  rw [List.range_succ, List.map_append]
  rfl
theorem gw_perm (hO : MapOk O) {w : Nat × Nat} {m : Nat} (h : Orb O w m) : (gw O w m m).Perm (orb O w m) := by
  have e : gw O w m m = ((List.range m).map (pred m)).map (itW O w) := by unfold gw; rw [List.map_map]; rfl
  rw [e]
  refine List.Perm.map _ ((List.perm_ext_iff_of_nodup ?_ List.nodup_range).mpr fun y => ?_)
  · rw [List.nodup_iff_pairwise_ne, List.pairwise_map]
    refine List.Pairwise.imp_of_mem ?_ (List.pairwise_lt_range (n := m))
    intro a b ha hb hab e
    have := pred_inj (List.mem_range.mp ha) (List.mem_range.mp hb) e
    omega
  · constructor
    · intro hy
      obtain ⟨x, hx, rfl⟩ := List.mem_map.mp hy
      exact List.mem_range.mpr (pred_lt (List.mem_range.mp hx))
    · intro hy
      have hy := List.mem_range.mp hy
      by_cases z : y = m - 1
      · exact List.mem_map.mpr ⟨0, List.mem_range.mpr (by omega), by unfold pred; simp; omega⟩
      · exact List.mem_map.mpr ⟨y + 1, List.mem_range.mpr (by omega), by unfold pred; simp⟩
theorem gw_nodup (hO : MapOk O) {w : Nat × Nat} {m : Nat} (h : Orb O w m) : (gw O w m m).Nodup := (gw_perm hO h).nodup_iff.mpr (h.nodup hO)
theorem gw_mem (hO : MapOk O) {w : Nat × Nat} {m k : Nat} (h : Orb O w m) (hk : k ≤ m) {u : Nat × Nat} (hu : u ∈ gw O w m k) : u ∈ orb O w m := by
  obtain ⟨x, hx, rfl⟩ := List.mem_map.mp hu
  exact h.mem_it _
theorem gw_new (hO : MapOk O) {w : Nat × Nat} {m k : Nat} (h : Orb O w m) (hk : k < m) : itW O w (pred m k) ∉ gw O w m k := fun hu => by
  obtain ⟨x, hx, e⟩ := List.mem_map.mp hu
  have hx := List.mem_range.mp hx
  have := h.inj hO (pred_lt (show x < m by omega)) (pred_lt hk) e
  have := pred_inj (show x < m by omega) hk this
  omega
theorem ring_pair (hO : MapOk O) {w : Nat × Nat} {m : Nat} (h : Orb O w m) {k : Nat} (hk : k < m) : pAt (rng O w m) ((k : Int) - 1) = .ok ((itW O w (pred m k)).1 : Int) ∧ pAt (rng O w m) (k : Int) = .ok ((itW O w (pred m k)).2 : Int) := by
  constructor
  · rw [pAt_ahead (by simpa using hk)]
    congr 1
    rw [rng_getE]
    unfold pred
    simp
  · rw [pAt_nat (by simpa using hk)]
    congr 1
    rw [rng_getE]
    unfold pred
    by_cases z : k = 0
    · subst z
      rw [if_pos rfl, ← itW_snd, show m - 1 + 1 = m by have := h.pos; omega, h.back]
      rfl
    · rw [if_neg z, ← itW_snd, show k - 1 + 1 = k by omega]
theorem LInv.len (hO : MapOk O) {ws : List ((Nat × Nat) × Nat)} {G : List (Nat × Nat)} (h : LInv O ws G) : G.length ≤ O.length * O.length := by
  have := List.Nodup.length_le_of_subset h.nd (l₂ := allW O.length) fun x hx => by
    have := (h.way hO hx).lt hO
    exact mem_allW this.1 this.2
  rwa [allW_len] at this
theorem LInv.wlen (hO : MapOk O) {ws : List ((Nat × Nat) × Nat)} {G : List (Nat × Nat)} (h : LInv O ws G) : ws.length ≤ O.length * O.length := by
  have nd : (ws.map (·.1)).Nodup := by
    rw [List.nodup_iff_pairwise_ne, List.pairwise_map]
    exact h.dis.imp_of_mem fun {p q} hp hq d e => by
      have h1 := (h.isOrb p hp).mem_it 0
      have h2 := (h.isOrb q hq).mem_it 0
      rw [show itW O q.1 0 = itW O p.1 0 by rw [e]] at h2
      exact d _ h1 h2
  have := List.Nodup.length_le_of_subset nd (l₂ := G) fun x hx => by
    obtain ⟨p, hp, rfl⟩ := List.mem_map.mp hx
    exact (h.mem _).mpr ⟨p, hp, (h.isOrb p hp).mem_it 0⟩
  have := h.len hO
  simp at *
  omega
theorem put_ring (hO : MapOk O) (hn : O.length ≤ 100) {ws : List ((Nat × Nat) × Nat)} {G : List (Nat × Nat)} (h : LInv O ws G) {w : Nat × Nat} {m : Nat} (ho : Orb O w m) (hw : w ∉ G) :
    pFor (fun (s230 : (List ((List Int) × Bool))) (x217 : Int) => ((((pAt (rng O w m) (x217 - (1 : Int))) >>= fun a231 => ((pAt (rng O w m) x217) >>= fun a232 => .ok [a231, a232])) >>= fun a236 => (pPut s230 a236 true)) >>= fun gone_233 => (.ok gone_233))) (up 0 m) (kt G) = .ok (kt (G ++ gw O w m m)) := by
  have hadd := h.add hO ho hw (gw_perm hO ho)
  obtain ⟨s', e, rfl⟩ := pFor_up (b := (fun (s230 : (List ((List Int) × Bool))) (x217 : Int) => ((((pAt (rng O w m) (x217 - (1 : Int))) >>= fun a231 => ((pAt (rng O w m) x217) >>= fun a232 => .ok [a231, a232])) >>= fun a236 => (pPut s230 a236 true)) >>= fun gone_233 => (.ok gone_233)))) (fun k s => s = kt (G ++ gw O w m k)) (n := m) (s := kt G) (by simp [gw]) (by
    rintro k s hk rfl
    obtain ⟨e1, e2⟩ := ring_pair hO ho hk
    have hl := hadd.len hO
    have hs := sq_le hn
    rw [e1, ok_bind, e2, ok_bind, ok_bind, show [((itW O w (pred m k)).1 : Int), ((itW O w (pred m k)).2 : Int)] = wk (itW O w (pred m k)) from rfl, kt_put, ok_bind]
    · exact ⟨_, rfl, by rw [gw_succ, List.append_assoc]⟩
    · intro z
      rcases List.mem_append.mp z with z | z
      · have nd := List.nodup_append.mp hadd.nd
        have : itW O w (pred m k) ∈ gw O w m m := (gw_perm hO ho).mem_iff.mpr (ho.mem_it _)
        exact nd.2.2 _ z _ this rfl
      · exact gw_new hO ho hk z
    · have : (gw O w m k).length ≤ (gw O w m m).length := by simp [gw]; omega
      rw [List.length_append] at *
      omega)
  exact e
structure Seen (O : List (List Int)) (ws : List ((Nat × Nat) × Nat)) (G : List (Nat × Nat)) (k : Nat) : Prop where
  inv : LInv O ws G
  all : ∀ a, a < k → ∀ b : Nat, (b : Int) ∈ nb O a → (a, b) ∈ G
theorem Seen.end_ (hO : MapOk O) {ws : List ((Nat × Nat) × Nat)} {G : List (Nat × Nat)} (h : Seen O ws G O.length) (w : Nat × Nat) (hw : Way O w) : w ∈ G := by
  have := hw.lt hO
  exact h.all w.1 this.1 w.2 (hO.sym w.2 w.1 hw)
theorem walk_all {γ : Type} (hO : MapOk O) (tell : List ((Nat × Nat) × Nat) → γ) {st : List (List Int × Bool) × γ → Int → Int → Res (List (List Int × Bool) × γ)}
    (hstep : ∀ ws G (w : Nat × Nat), LInv O ws G → Way O w → w ∉ G → ∃ m G', Orb O w m ∧ G'.Perm (orb O w m) ∧ st (kt G, tell ws) w.1 w.2 = .ok (kt (G ++ G'), tell (ws ++ [(w, m)])))
    (hold : ∀ ws G (w : Nat × Nat), LInv O ws G → Way O w → w ∈ G → st (kt G, tell ws) w.1 w.2 = .ok (kt G, tell ws)) (hn : O.length ≤ 1000000) :
    ∃ ws G, Seen O ws G O.length ∧ pFor (fun s x => pAt O x >>= fun l => pFor (fun s y => st s x y) l s) (up 0 O.length) ([], tell []) = .ok (kt G, tell ws) := by
  obtain ⟨s', e, ws, G, rfl, hs⟩ := pFor_up (b := fun s x => pAt O x >>= fun l => pFor (fun s y => st s x y) l s) (fun k s => ∃ ws G, s = (kt G, tell ws) ∧ Seen O ws G k) (n := O.length) (s := ([], tell [])) ⟨[], [], rfl, LInv.nil O, fun a ha => absurd ha (Nat.not_lt_zero _)⟩ (by
    rintro k s hk ⟨ws, G, rfl, hs⟩
    rw [pAt_nb hk, ok_bind]
    obtain ⟨s', e, ws', G', rfl, hs', hj⟩ := pFor_inv (b := fun s y => st s (k : Int) y) (fun j s => ∃ ws G, s = (kt G, tell ws) ∧ Seen O ws G k ∧ ∀ i b, i < j → (nb O k)[i]? = some b → (k, b.toNat) ∈ G) (nb O k) (kt G, tell ws) ⟨ws, G, rfl, hs, fun i b hi => absurd hi (Nat.not_lt_zero _)⟩ (by
      rintro j b s hb ⟨ws, G, rfl, hs, hj⟩
      have hbm : b ∈ nb O k := List.mem_of_getElem? hb
      have hr := hO.rng k b hbm
      obtain ⟨c, rfl⟩ : ∃ c : Nat, b = (c : Int) := ⟨b.toNat, by omega⟩
      have hway : Way O (k, c) := hO.sym k c hbm
      by_cases hG : (k, c) ∈ G
      · refine ⟨_, hold ws G (k, c) hs.inv hway hG, ws, G, rfl, hs, fun i b hi hib => ?_⟩
        by_cases z : i = j
        · subst z
          rw [hb] at hib
          cases hib
          exact hG
        · exact hj i b (by omega) hib
      · obtain ⟨m, G', ho, hp, e⟩ := hstep ws G (k, c) hs.inv hway hG
        refine ⟨_, e, ws ++ [((k, c), m)], G ++ G', rfl, ⟨hs.inv.add hO ho hG hp, fun a ha b hb => List.mem_append_left _ (hs.all a ha b hb)⟩, fun i b hi hib => ?_⟩
        by_cases z : i = j
        · subst z
          rw [hb] at hib
          cases hib
          exact List.mem_append_right _ (hp.mem_iff.mpr (ho.mem_it 0))
        · exact List.mem_append_left _ (hj i b (by omega) hib))
    refine ⟨_, e, ws', G', rfl, hs'.inv, fun a ha b hb => ?_⟩
    by_cases z : a = k
    · subst z
      obtain ⟨i, hi, e2⟩ := List.getElem_of_mem hb
      have := hj i b hi (by rw [List.getElem?_eq_getElem hi, e2])
      simpa using this
    · exact hs'.all a (by omega) b hb)
  exact ⟨ws, G, hs, e⟩
theorem okEta {α : Type} (t : Res α) : (t >>= fun a => Res.ok a) = t := by cases t <;> rfl
theorem okEta2 {α β : Type} (t : Res (α × β)) : (t >>= fun a => Res.ok (a.1, a.2)) = t := by cases t <;> rfl
theorem lands_ok (hO : MapOk O) (hn : O.length ≤ 100) : ∃ L, p_lands O = .ok L ∧ LandsOk O L := by
  have hs := sq_le hn
  obtain ⟨ws, G, hS, e⟩ := walk_all hO (fun ws => ws.map fun p => leastRot (rng O p.1 p.2)) (st := fun (s214 : (List ((List Int) × Bool)) × (List (List Int))) (x4 : Int) (x163 : Int) =>
  ((.ok (!pHas s214.1 [x4, x163])) >>= fun b239 => if b239 = true then
  ((noX (p_ring_from O x4 x163)) >>= fun ring_215 =>
  ((pR1 (ring_215.length : Int)) >>= fun w216 => pFor (fun (s230 : (List ((List Int) × Bool))) (x217 : Int) =>
  ((((pAt ring_215 (x217 - (1 : Int))) >>= fun a231 => ((pAt ring_215 x217) >>= fun a232 => .ok [a231, a232])) >>= fun a236 => (pPut s230 a236 true)) >>= fun gone_233 =>
  (.ok gone_233))) w216 s214.1 >>= fun s230 =>
  ((((noX (p_begun_least ring_215)) >>= fun a237 => (pApp s214.2 a237))) >>= fun found_238 =>
  (.ok (s230, found_238)))))
 else
  (.ok (s214.1, s214.2)))) (fun ws G w hI hw hG => by
    obtain ⟨m, ho⟩ := orb_of hO hw
    have hm : m ≤ 10000 := Nat.le_trans ho.le hs
    refine ⟨m, gw O w m m, ho, gw_perm hO ho, ?_⟩
    have hc : pHas (kt G) [(w.1 : Int), (w.2 : Int)] = false := by
      cases q : pHas (kt G) [(w.1 : Int), (w.2 : Int)] with
      | false => rfl
      | true => exact absurd (kt_has.mp q) hG
    have hl := hI.wlen hO
    rw [ok_bind, hc]
    simp only [Bool.not_false, if_true]
    rw [ring_from_ok hO hn ho, noX_ok, ok_bind, rng_len, pR1_nat (by omega), ok_bind, put_ring hO hn hI ho hG, ok_bind, begun_ok (by simpa using ho.pos) (by simp; omega), noX_ok, ok_bind, pApp_ok (by simp; omega), ok_bind]
    simp) (fun ws G w hI hw hG => by
    have hc : pHas (kt G) [(w.1 : Int), (w.2 : Int)] = true := kt_has.mpr hG
    rw [ok_bind, hc]
    rfl) (by omega)
  refine ⟨_, ?_, hS.inv.lands hO (hS.end_ hO)⟩
  unfold p_lands
  simp only [okEta2] at *
  rw [ok_bind, ok_bind, pR1_nat (by omega), ok_bind]
  have e' := e
  simp only [List.map_nil] at e'
  rw [e']
  rfl
end Ow.M
end
section
set_option linter.all false
set_option maxHeartbeats 1000000
/-! MOk: a typed thing ends well, and what holds of it then. -/
namespace Ow.M
open PySem L2 Ow Ow.P
variable {α β γ τ ρ ω : Type}
def Ok (t : Res α) (Q : α → Prop) : Prop := ∃ a, t = .ok a ∧ Q a
theorem Ok.ret {a : α} {Q : α → Prop} (h : Q a) : Ok (.ok a) Q := ⟨a, rfl, h⟩
theorem Ok.of {t : Res α} {a : α} {Q : α → Prop} (e : t = .ok a) (h : Q a) : Ok t Q := ⟨a, e, h⟩
theorem Ok.eq {t : Res α} {a : α} (h : Ok t fun x => x = a) : t = .ok a := by
  obtain ⟨b, e, rfl⟩ := h
  exact e
theorem Ok.imp {t : Res α} {Q Q' : α → Prop} (h : Ok t Q) (k : ∀ a, Q a → Q' a) : Ok t Q' := by
  obtain ⟨a, e, q⟩ := h
  exact ⟨a, e, k a q⟩
theorem Ok.bnd {t : Res α} {k : α → Res β} {Q' : α → Prop} {Q : β → Prop} (h : Ok t Q') (hk : ∀ a, Q' a → Ok (k a) Q) : Ok (t >>= k) Q := by
  obtain ⟨a, rfl, q⟩ := h
  rw [ok_bind]
  exact hk a q
theorem Ok.nox {t : Res α} {Q : α → Prop} (h : Ok t Q) : Ok (noX t) Q := by
  obtain ⟨a, rfl, q⟩ := h
  exact ⟨a, rfl, q⟩
theorem Ok.seq {t : Res α} {a : α} {k : α → Res β} {Q : β → Prop} (e : t = .ok a) (hk : Ok (k a) Q) : Ok (t >>= k) Q := by
  rw [e, ok_bind]
  exact hk
theorem Ok.seqX {t : Res α} {a : α} {k : α → Res β} {Q : β → Prop} (e : t = .ok a) (hk : Ok (k a) Q) : Ok (noX t >>= k) Q := by
  rw [e, noX_ok, ok_bind]
  exact hk
theorem Ok.ite {c : Prop} [Decidable c] {t u : Res α} {Q : α → Prop} (h : c → Ok t Q) (h2 : ¬ c → Ok u Q) : Ok (if c then t else u) Q := by
  by_cases z : c
  · rw [if_pos z]; exact h z
  · rw [if_neg z]; exact h2 z
theorem Ok.iteB {c : Bool} {t u : Res α} {Q : α → Prop} (h : c = true → Ok t Q) (h2 : c = false → Ok u Q) : Ok (if c = true then t else u) Q := by
  cases c with
  | true => rw [if_pos rfl]; exact h rfl
  | false => rw [if_neg (by decide)]; exact h2 rfl
theorem Ok.test {c : Bool} {k : Bool → Res β} {Q : β → Prop} (h : c = true → Ok (k true) Q) (h2 : c = false → Ok (k false) Q) : Ok ((Res.ok c) >>= k) Q := by
  rw [ok_bind]
  cases c with
  | true => exact h rfl
  | false => exact h2 rfl
theorem Ok.forL {b : τ → α → Res τ} {l : List α} {s : τ} {k : τ → Res β} {Q : β → Prop} (I : Nat → τ → Prop) (h0 : I 0 s) (hb : ∀ j a s, l[j]? = some a → I j s → Ok (b s a) (I (j + 1))) (hk : ∀ s, I l.length s → Ok (k s) Q) : Ok (pFor b l s >>= k) Q := by
  obtain ⟨s', e, i⟩ := pFor_inv (b := b) I l s h0 hb
  rw [e, ok_bind]
  exact hk s' i
theorem Ok.forUp {b : τ → Int → Res τ} {n : Nat} {s : τ} {k : τ → Res β} {Q : β → Prop} (I : Nat → τ → Prop) (h0 : I 0 s) (hb : ∀ (j : Nat) s, j < n → I j s → Ok (b s (j : Int)) (I (j + 1))) (hk : ∀ s, I n s → Ok (k s) Q) : Ok (pFor b (up 0 n) s >>= k) Q := by
  obtain ⟨s', e, i⟩ := pFor_up (b := b) I h0 hb
  rw [e, ok_bind]
  exact hk s' i
def CtQ (I : τ → Prop) (k : τ → Res β) (kr : ρ → Res β) (Q : β → Prop) : Ct τ ρ → Prop
  | .nx s => I s
  | .bk s => Ok (k s) Q
  | .rt r => Ok (kr r) Q
theorem Ok.nx {I : τ → Prop} {k : τ → Res β} {kr : ρ → Res β} {Q : β → Prop} {s : τ} (h : I s) : Ok (.ok (Ct.nx s)) (CtQ I k kr Q) := ⟨_, rfl, h⟩
theorem Ok.bk {I : τ → Prop} {k : τ → Res β} {kr : ρ → Res β} {Q : β → Prop} {s : τ} (h : Ok (k s) Q) : Ok (.ok (Ct.bk s)) (CtQ I k kr Q) := ⟨_, rfl, h⟩
theorem Ok.rt {I : τ → Prop} {k : τ → Res β} {kr : ρ → Res β} {Q : β → Prop} {r : ρ} (h : Ok (kr r) Q) : Ok (.ok (Ct.rt r)) (CtQ I k kr Q) := ⟨_, rfl, h⟩
theorem Ok.forCL {b : τ → α → Res (Ct τ ρ)} {l : List α} {s : τ} {k : τ → Res β} {kr : ρ → Res β} {Q : β → Prop} (I : Nat → τ → Prop) (h0 : I 0 s) (hb : ∀ j a s, l[j]? = some a → I j s → Ok (b s a) (CtQ (I (j + 1)) k kr Q)) (hk : ∀ s, I l.length s → Ok (k s) Q) : Ok (pForC b l s >>= fun c => ctk c k kr) Q := by
  obtain ⟨r, e, i⟩ := pForC_inv (b := b) I (fun c => Ok (ctk c k kr) Q) l s h0 (fun j a s hj hi => by
    obtain ⟨r, e, q⟩ := hb j a s hj hi
    refine ⟨r, e, ?_⟩
    cases r with
    | nx s => exact q
    | bk s => exact q
    | rt r => exact q) (fun s hi => hk s hi)
  rw [e, ok_bind]
  exact i
theorem Ok.forCUp {b : τ → Int → Res (Ct τ ρ)} {n : Nat} {s : τ} {k : τ → Res β} {kr : ρ → Res β} {Q : β → Prop} (I : Nat → τ → Prop) (h0 : I 0 s) (hb : ∀ (j : Nat) s, j < n → I j s → Ok (b s (j : Int)) (CtQ (I (j + 1)) k kr Q)) (hk : ∀ s, I n s → Ok (k s) Q) : Ok (pForC b (up 0 n) s >>= fun c => ctk c k kr) Q :=
  Ok.forCL I h0 (fun j a s hj hi => by
    obtain ⟨rfl, hlt⟩ := up_get hj
    have := hb j s hlt hi
    rw [Int.zero_add]
    exact this) fun s hi => hk s (by rw [up_len] at hi; exact hi)
theorem Ok.wh {c : τ → Res Bool} {b : τ → Res (Ct τ ρ)} {s : τ} {k : τ → Res β} {kr : ρ → Res β} {Q : β → Prop} (I : τ → Prop) (m : τ → Nat) (hs : I s) (h : ∀ s, I s → ∃ t, c s = .ok t ∧ (t = false → Ok (k s) Q) ∧ (t = true → Ok (b s) (CtQ (fun s' => I s' ∧ m s' < m s) k kr Q))) : Ok (pWhile c b s >>= fun c => ctk c k kr) Q := by
  obtain ⟨r, e, i⟩ := pWhile_inv (c := c) (b := b) I (fun c => Ok (ctk c k kr) Q) m hs (fun s hi => by
    obtain ⟨t, e, h1, h2⟩ := h s hi
    refine ⟨t, e, h1, fun ht => ?_⟩
    obtain ⟨r, e, q⟩ := h2 ht
    refine ⟨r, e, ?_⟩
    cases r with
    | nx s => exact q
    | bk s => exact q
    | rt r => exact q)
  rw [e, ok_bind]
  exact i
theorem Ok.lc {l : List α} {tc : α → Res Bool} {tf : α → Res γ} {k : List γ → Res β} {Q : β → Prop} (c : α → Bool) (f : α → γ) (hz : l.length ≤ 1000000) (h1 : ∀ a ∈ l, tc a = .ok (c a)) (h2 : ∀ a ∈ l, c a = true → tf a = .ok (f a)) (hk : Ok (k ((l.filter c).map f)) Q) : Ok (pLc l tc tf >>= k) Q := by
  rw [pLc_all hz h1 h2, ok_bind]
  exact hk
theorem ofO_get {l : List α} {j : Nat} {a : α} (h : l[j]? = some a) : ofO l[j]? = .ok a := by rw [h]; rfl
theorem upd_of {xss : List α} {j : Nat} {u : α → Res α} {l : α} {r : α} (h : xss[j]? = some l) (hu : u l = .ok r) : pUpdN xss j u = .ok (xss.set j r) := pUpdN_ok h hu
end Ow.M
end
section
set_option linter.all false
set_option exponentiation.threshold 100000
set_option maxHeartbeats 2000000
/-! MGrow: the laws' own rings and lands, and their grown maps. -/
namespace Ow.M
open PySem L2 Ow Ow.P Ow.Lib
variable {O : List (List Int)}
theorem way_prev (hO : MapOk O) {w : Nat × Nat} (h : Way O w) : (w.2 : Int) ∈ nb O w.1 := hO.sym _ _ h
theorem orb_two (hO : MapOk O) {w : Nat × Nat} {m : Nat} (h : Orb O w m) : 2 ≤ m := by
  have hp := h.pos
  have hb := h.back
  by_cases z : m = 1
  · subst z
    have e : (itW O w 1).1 = w.2 := rfl
    rw [hb] at e
    have := (hO.rng w.2 w.1 h.way).2.2
    omega
  · omega
theorem orbL_succ (O : List (List Int)) (w : Nat × Nat) (i : Nat) : orb O w (i + 1) = orb O w i ++ [itW O w i] := by
  unfold orb
  rw [List.range_succ, List.map_append]
  rfl
@[simp] theorem orb_len (O : List (List Int)) (w : Nat × Nat) (i : Nat) : (orb O w i).length = i := by simp [orb]
theorem kt_hasB {G : List (Nat × Nat)} {a b : Nat} : pHas (kt G) [(a : Int), (b : Int)] = decide ((a, b) ∈ G) := by
  have := kt_has (G := G) (w := (a, b))
  unfold wk at this
  by_cases z : (a, b) ∈ G
  · rw [this.mpr z]; simp [z]
  · cases q : pHas (kt G) [(a : Int), (b : Int)] with
    | false => simp [z]
    | true => exact absurd (this.mp q) z
theorem law_rings_ok (hO : MapOk O) (hn : O.length ≤ 100) : ∃ ws G, Seen O ws G O.length ∧ p__law_rings O = .ok (ws.map fun p => rng O p.1 p.2) := by
  have hs := sq_le hn
  unfold p__law_rings
  rw [ok_bind, ok_bind, pR1_nat (by omega), ok_bind]
  suffices h : Ok (_ : Res (List (List Int))) (fun r => ∃ ws G, Seen O ws G O.length ∧ r = ws.map fun p => rng O p.1 p.2) by
    obtain ⟨r, e, ws, G, h1, rfl⟩ := h
    exact ⟨ws, G, h1, e⟩
  refine Ok.forUp (fun k s => ∃ ws G, s = (kt G, ws.map fun p => rng O p.1 p.2) ∧ Seen O ws G k) ⟨[], [], rfl, LInv.nil O, fun a ha => absurd ha (Nat.not_lt_zero _)⟩ ?_ ?_
  · rintro k s hk ⟨ws, G, rfl, hsn⟩
    rw [pAt_nb hk, ok_bind]
    refine Ok.forL (fun j s => ∃ ws G, s = (kt G, ws.map fun p => rng O p.1 p.2) ∧ Seen O ws G k ∧ ∀ i b, i < j → (nb O k)[i]? = some b → (k, b.toNat) ∈ G) ⟨ws, G, rfl, hsn, fun i b hi => absurd hi (Nat.not_lt_zero _)⟩ ?_ ?_
    · rintro j b s hb ⟨ws, G, rfl, hsn, hj⟩
      have hbm : b ∈ nb O k := List.mem_of_getElem? hb
      have hr := hO.rng k b hbm
      obtain ⟨c, rfl⟩ : ∃ c : Nat, b = (c : Int) := ⟨b.toNat, by omega⟩
      have hway : Way O (k, c) := hO.sym k c hbm
      simp only [kt_hasB]
      refine Ok.test (fun z => ?_) (fun z => ?_)
      · have hG : (k, c) ∉ G := by simpa using z
        rw [if_pos rfl, ok_bind, ok_bind, ok_bind]
        obtain ⟨m, ho⟩ := orb_of hO hway
        have hm : m ≤ 10000 := Nat.le_trans ho.le hs
        have hadd := hsn.inv.add hO ho hG (List.Perm.refl _)
        have hal := hadd.len hO
        rw [List.length_append, orb_len] at hal
        have hwl := hsn.inv.wlen hO
        have nd := List.nodup_append.mp hadd.nd
        refine Ok.wh (fun s => ∃ i, i ≤ m ∧ s = (kt (G ++ orb O (k, c) i), rng O (k, c) i, ((itW O (k, c) i).1 : Int), ((itW O (k, c) i).2 : Int))) (fun s => m - s.2.1.length) ⟨0, Nat.zero_le _, by simp [orb, rng, itW]⟩ ?_
        rintro s ⟨i, hi, rfl⟩
        refine ⟨!decide (((itW O (k, c) i)) ∈ G ++ orb O (k, c) i), by rw [kt_hasB], fun q => ?_, fun q => ?_⟩
        · have q : itW O (k, c) i ∈ G ++ orb O (k, c) i := by
            rw [Bool.not_eq_false'] at q
            exact of_decide_eq_true q
          have him : i = m := by
            apply Decidable.byContradiction
            intro z
            rcases List.mem_append.mp q with q | q
            · exact nd.2.2 _ q _ (ho.mem_it i) rfl
            · obtain ⟨j, hj, e⟩ := mem_orb.mp q
              have := ho.inj hO (show j < m by omega) (show i < m by omega) e
              omega
          subst him
          rw [pApp_ok (by simp; omega), ok_bind]
          refine Ok.ret ⟨ws ++ [((k, c), i)], G ++ orb O (k, c) i, by simp, ⟨hadd, fun a ha b hb => List.mem_append_left _ (hsn.all a ha b hb)⟩, fun i' b hi' hib => ?_⟩
          by_cases z : i' = j
          · subst z
            rw [hb] at hib
            cases hib
            exact List.mem_append_right _ (ho.mem_it 0)
          · exact List.mem_append_left _ (hj i' b (by omega) hib)
        · have q : itW O (k, c) i ∉ G ++ orb O (k, c) i := by simpa using q
          have him : i < m := by
            apply Decidable.byContradiction
            intro z
            have : i = m := by omega
            subst this
            exact q (List.mem_append_right _ (ho.mem_it _))
          have hw := itW_way hO ho.way i
          have hlt := hw.lt hO
          show Ok (pPut (kt (G ++ orb O (k, c) i)) (wk (itW O (k, c) i)) true >>= _) _
          rw [kt_put q (by rw [List.length_append, orb_len]; omega), ok_bind, pApp_ok (by simp; omega), ok_bind, pAt_nb hlt.2, ok_bind, ok_bind, pIndex_ok hw, ok_bind, ok_bind, pAt_idx_ahead hw, ok_bind]
          refine Ok.ret ⟨⟨i + 1, by omega, ?_⟩, ?_⟩
          · rw [orbL_succ, rng_succ, List.append_assoc]
            have e1 : ((itW O (k, c) (i + 1)).1 : Int) = ((itW O (k, c) i).2 : Int) := rfl
            have e2 : (nb O (itW O (k, c) i).2).getD (pred (nb O (itW O (k, c) i).2).length ((nb O (itW O (k, c) i).2).idxOf (((itW O (k, c) i).1 : Nat) : Int))) 0 = ((itW O (k, c) (i + 1)).2 : Int) := nx_way hO hw
            rw [e1, e2]
          · simp
            omega
      · have hG : (k, c) ∈ G := by simpa using z
        rw [if_neg (by decide)]
        refine Ok.ret ⟨ws, G, rfl, hsn, fun i b hi hib => ?_⟩
        by_cases z : i = j
        · subst z
          rw [hb] at hib
          cases hib
          exact hG
        · exact hj i b (by omega) hib
    · rintro s ⟨ws, G, rfl, hsn, hj⟩
      refine Ok.ret ⟨ws, G, rfl, hsn.inv, fun a ha b hb => ?_⟩
      by_cases z : a = k
      · subst z
        obtain ⟨i, hi, e2⟩ := List.getElem_of_mem hb
        have := hj i b hi (by rw [List.getElem?_eq_getElem hi, e2])
        simpa using this
      · exact hsn.all a (by omega) b hb
  · rintro s ⟨ws, G, rfl, hsn⟩
    exact Ok.ret ⟨ws, G, hsn, rfl⟩
theorem law_lands_ok (hO : MapOk O) (hn : O.length ≤ 100) : ∃ L, p__law_lands O = .ok L ∧ LandsOk O L := by
  have hs := sq_le hn
  obtain ⟨ws, G, hS, e⟩ := law_rings_ok hO hn
  have hwl := hS.inv.wlen hO
  refine ⟨_, ?_, hS.inv.lands hO (hS.end_ hO)⟩
  refine Ok.eq ?_
  unfold p__law_lands
  rw [ok_bind, e, noX_ok, ok_bind]
  refine Ok.forL (fun j s => s = (ws.take j).map fun p => leastRot (rng O p.1 p.2)) (by simp) ?_ ?_
  · rintro j a s hj rfl
    rw [List.getElem?_map] at hj
    obtain ⟨p, hp, rfl⟩ := Option.map_eq_some_iff.mp hj
    have ho := hS.inv.isOrb p (List.mem_of_getElem? hp)
    have := ho.le
    have hb : (p_begun_least (rng O p.1 p.2)) = .ok (leastRot (rng O p.1 p.2)) := begun_ok (by simpa using ho.pos) (by simp; omega)
    unfold p_begun_least at hb
    rw [hb, ok_bind, pApp_ok (by simp; omega), ok_bind]
    refine Ok.ret ?_
    rw [List.take_succ, hp]
    simp
  · rintro s rfl
    rw [List.length_map, List.take_length]
    exact Ok.ret rfl
theorem nb_len (hO : MapOk O) (v : Nat) : (nb O v).length ≤ O.length := room_of (hO.nd v) fun x hx => ⟨(hO.rng v x hx).1, (hO.rng v x hx).2.1⟩
theorem row_len (hO : MapOk O) {l : List Int} (h : l ∈ O) : l.length ≤ O.length := by
  obtain ⟨i, hi, e⟩ := List.getElem_of_mem h
  have := nb_get hi
  rw [List.getElem?_eq_getElem hi, e] at this
  rw [Option.some.inj this]
  exact nb_len hO i
/-- a tie put in ahead of the ways u and v -/
def tieO (O : List (List Int)) (u v : Nat × Nat) : List (List Int) := (O.set u.2 (ins (nb O u.2) ((nb O u.2).idxOf (u.1 : Int)) v.2)).set v.2 (ins (nb O v.2) ((nb O v.2).idxOf (v.1 : Int)) u.2)
theorem tieO_len (O : List (List Int)) (u v : Nat × Nat) : (tieO O u v).length = O.length := by simp [tieO]
theorem tieO_ok (hO : MapOk O) {u v : Nat × Nat} (hu : Way O u) (hv : Way O v) (h1 : u.2 ≠ v.2) (h2 : (v.2 : Int) ∉ nb O u.2) : MapOk (tieO O u v) :=
  hO.put h1 (hu.lt hO).2 (hv.lt hO).2 h2 fun z => h2 (hO.sym _ _ z)
theorem tieO_nb (hO : MapOk O) {u v : Nat × Nat} (hu : Way O u) (hv : Way O v) (x : Nat) : nb (tieO O u v) x = if x = v.2 then ins (nb O v.2) ((nb O v.2).idxOf (v.1 : Int)) u.2 else if x = u.2 then ins (nb O u.2) ((nb O u.2).idxOf (u.1 : Int)) v.2 else nb O x := by
  unfold tieO
  have hb' : v.2 < (O.set u.2 (ins (nb O u.2) ((nb O u.2).idxOf (u.1 : Int)) v.2)).length := by simpa using (hv.lt hO).2
  rw [nb_set hb', nb_set (hu.lt hO).2]
theorem tieO_sub (hO : MapOk O) {u v : Nat × Nat} (hu : Way O u) (hv : Way O v) {x : Nat} {y : Int} (h : y ∈ nb O x) : y ∈ nb (tieO O u v) x := by
  rw [tieO_nb hO hu hv]
  split
  · rename_i e; rw [e] at h; exact mem_ins.mpr (.inr h)
  · split
    · rename_i e; rw [e] at h; exact mem_ins.mpr (.inr h)
    · exact h
theorem put_tie_ok (hO : MapOk O) (hn : O.length ≤ 100) {w : Nat × Nat} {m : Nat} (ho : Orb O w m) {i j : Nat} (hi : i < m) (hj : j < m) {u v : Nat × Nat} (eu : u = itW O w (pred m i)) (ev : v = itW O w (pred m j)) :
    p__law_put_tie O (rng O w m) i j = .ok ((), if u.2 ≠ v.2 ∧ (v.2 : Int) ∉ nb O u.2 then tieO O u v else O) := by
  obtain ⟨a1, a2⟩ := ring_pair hO ho hi
  obtain ⟨b1, b2⟩ := ring_pair hO ho hj
  have hu : Way O u := eu ▸ itW_way hO ho.way _
  have hv : Way O v := ev ▸ itW_way hO ho.way _
  rw [← eu] at a1 a2
  rw [← ev] at b1 b2
  have lu := hu.lt hO
  have lv := hv.lt hO
  have n1 := nb_len hO u.2
  have n2 := nb_len hO v.2
  unfold p__law_put_tie
  generalize rng O w m = r at a1 a2 b1 b2 ⊢
  rw [a2, ok_bind, b2, ok_bind]
  by_cases z : u.2 = v.2
  · rw [if_neg (show ¬ (decide ((u.2 : Int) ≠ (v.2 : Int)) = true) by simp [z]), ok_bind, if_neg (by decide), if_neg (by simp [z])]
  · rw [if_pos (show decide ((u.2 : Int) ≠ (v.2 : Int)) = true by simp; omega), pAt_nb lu.2, ok_bind, ok_bind]
    by_cases z2 : (v.2 : Int) ∈ nb O u.2
    · rw [if_neg (by simpa using z2), if_neg (by simp [z2])]
    · rw [if_pos (by simpa using z2), if_pos ⟨z, z2⟩, pIxN_nat lu.2, ok_bind]
      have i1 := idx_get hu
      have i2 := idx_get hv
      have e1 : pUpdN O u.2 (fun l5 => (((Res.ok (nb O u.2)) >>= fun a6 => ((pAt r ((i : Int) - (1 : Int))) >>= fun a7 => (pIndex a6 a7))) >>= fun a8 => (pIns l5 a8 (v.2 : Int)))) = .ok (O.set u.2 (ins (nb O u.2) ((nb O u.2).idxOf (u.1 : Int)) v.2)) := by
        refine pUpdN_ok (nb_get lu.2) ?_
        rw [ok_bind, a1, ok_bind, pIndex_ok hu, ok_bind, pIns_ok (by omega) (by omega) (by omega)]
        rfl
      rw [e1, ok_bind, List.length_set, pIxN_nat lv.2, ok_bind]
      have lv' : v.2 < (O.set u.2 (ins (nb O u.2) ((nb O u.2).idxOf (u.1 : Int)) v.2)).length := by simpa using lv.2
      have nv : nb (O.set u.2 (ins (nb O u.2) ((nb O u.2).idxOf (u.1 : Int)) v.2)) v.2 = nb O v.2 := by rw [nb_set lu.2, if_neg (Ne.symm z)]
      rw [pAt_nb lv', nv]
      have e2 : pUpdN (O.set u.2 (ins (nb O u.2) ((nb O u.2).idxOf (u.1 : Int)) v.2)) v.2 (fun l11 => (((Res.ok (nb O v.2)) >>= fun a12 => ((pAt r ((j : Int) - (1 : Int))) >>= fun a13 => (pIndex a12 a13))) >>= fun a14 => (pIns l11 a14 (u.2 : Int)))) = .ok (tieO O u v) := by
        refine pUpdN_ok (l := nb O v.2) (by rw [nb_get lv', nv]) ?_
        rw [ok_bind, b1, ok_bind, pIndex_ok hv, ok_bind, pIns_ok (by omega) (by omega) (by omega)]
        rfl
      rw [e2, ok_bind]
theorem corner_pl {w : Nat × Nat} {m : Nat} (h : Orb O w m) {i : Nat} (hi : i < m) : (itW O w (pred m i)).2 = (itW O w i).1 := by
  unfold pred
  by_cases z : i = 0
  · subst z
    rw [if_pos rfl, ← itW_snd, show m - 1 + 1 = m by omega, h.back]
    rfl
  · rw [if_neg z, ← itW_snd, show i - 1 + 1 = i by omega]
/-- a place being tied -/
structure PInv (O S : List (List Int)) (done : List Nat) : Prop where
  len : S.length = O.length
  mem : ∀ v y, y ∈ nb S v ↔ y ∈ nb O v ∨ (y = (O.length : Int) ∧ v ∈ done)
  nd : ∀ v, (nb S v).Nodup
theorem PInv.nil (hO : MapOk O) : PInv O O [] := ⟨rfl, fun v y => by simp, hO.nd⟩
theorem PInv.step {S : List (List Int)} {done : List Nat} (hO : MapOk O) (h : PInv O S done) {v p : Nat} (hv : v < O.length) (hd : v ∉ done) : PInv O (S.set v (ins (nb S v) p (O.length : Int))) (done ++ [v]) := by
  have hv' : v < S.length := by rw [h.len]; exact hv
  refine ⟨by simp [h.len], fun x y => ?_, fun x => ?_⟩
  · rw [nb_set hv']
    by_cases z : x = v
    · subst z
      rw [if_pos rfl, mem_ins, h.mem]
      simp
      constructor
      · rintro (z | z | z)
        · exact .inr z
        · exact .inl z
        · exact .inr z.1
      · rintro (z | z)
        · exact .inr (.inl z)
        · exact .inl z
    · rw [if_neg z, h.mem]
      simp [z]
  · rw [nb_set hv']
    split
    · refine nodup_ins (h.nd v) fun z => ?_
      rcases (h.mem _ _).mp z with z | z
      · have := (hO.rng v _ z).2.1
        omega
      · exact hd z.2
    · exact h.nd x
theorem nb_app {S : List (List Int)} {P : List Int} (v : Nat) : nb (S ++ [P]) v = if v < S.length then nb S v else if v = S.length then P else [] := by
  unfold nb
  rw [List.getD_eq_getElem?_getD, List.getD_eq_getElem?_getD]
  by_cases h : v < S.length
  · rw [if_pos h, List.getElem?_append_left h]
  · rw [if_neg h, List.getElem?_append_right (by omega)]
    by_cases z : v = S.length
    · subst z
      simp
    · rw [if_neg z, List.getElem?_eq_none (by simp; omega)]
      rfl
theorem PInv.end_ {S : List (List Int)} {done : List Nat} (hO : MapOk O) (h : PInv O S done) (hd : done.Nodup) (hl : ∀ v ∈ done, v < O.length) : MapOk (S ++ [done.map fun v : Nat => (v : Int)]) := by
  refine ⟨fun v y hy => ?_, fun v => ?_, fun v u hu => ?_⟩
  · rw [nb_app] at hy
    simp only [List.length_append, List.length_singleton, h.len] at hy ⊢
    split at hy
    · rcases (h.mem _ _).mp hy with z | z
      · have := hO.rng v y z
        omega
      · omega
    · split at hy
      · obtain ⟨x, hx, rfl⟩ := List.mem_map.mp hy
        have := hl x hx
        omega
      · cases hy
  · rw [nb_app]
    split
    · exact h.nd v
    · split
      · rw [List.nodup_iff_pairwise_ne, List.pairwise_map]
        rw [List.nodup_iff_pairwise_ne] at hd
        exact hd.imp fun z e => z (by omega)
      · exact List.Pairwise.nil
  · rw [nb_app] at hu
    rw [nb_app]
    simp only [h.len] at hu ⊢
    split at hu
    · rename_i hv
      rcases (h.mem _ _).mp hu with z | z
      · have := hO.rng v u z
        rw [if_pos (by omega)]
        exact (h.mem _ _).mpr (.inl (hO.sym v u z))
      · rw [if_neg (by omega), if_pos (by omega)]
        exact List.mem_map.mpr ⟨v, z.2, rfl⟩
    · split at hu
      · rename_i e
        obtain ⟨x, hx, e2⟩ := List.mem_map.mp hu
        have e3 : x = u := by omega
        subst e3
        rw [if_pos (hl x hx)]
        exact (h.mem _ _).mpr (.inr ⟨by omega, hx⟩)
      · cases hu
def place (O : List (List Int)) (w : Nat × Nat) (m i : Nat) : Nat := (itW O w (pred m i)).2
theorem place_lt (hO : MapOk O) {w : Nat × Nat} {m i : Nat} (h : Orb O w m) : place O w m i < O.length := (Way.lt hO (itW_way hO h.way _)).2
theorem put_place_ok (hO : MapOk O) (hn : O.length ≤ 100) {w : Nat × Nat} {m : Nat} (ho : Orb O w m) {C : List Nat} (hC : ∀ i ∈ C, i < m) (nd : (C.map (place O w m)).Nodup) :
    ∃ S, p__law_put_place O (rng O w m) (C.map fun i : Nat => (i : Int)) = .ok ((), S ++ [(C.map (place O w m)).map fun v : Nat => (v : Int)]) ∧ PInv O S (C.map (place O w m)) := by
  have hlen : (C.map (place O w m)).length ≤ O.length := by
    have := List.Nodup.length_le_of_subset nd (l₂ := List.range O.length) fun x hx => by
      obtain ⟨i, _, rfl⟩ := List.mem_map.mp hx
      exact List.mem_range.mpr (place_lt hO ho)
    rwa [List.length_range] at this
  rw [List.length_map] at hlen
  suffices h : Ok (p__law_put_place O (rng O w m) (C.map fun i : Nat => (i : Int))) (fun r => ∃ S, r = ((), S ++ [(C.map (place O w m)).map fun v : Nat => (v : Int)]) ∧ PInv O S (C.map (place O w m))) by
    obtain ⟨r, e, S, rfl, h⟩ := h
    exact ⟨S, e, h⟩
  unfold p__law_put_place
  have rp := fun i (hi : i < m) => ring_pair hO ho hi
  generalize rng O w m = r at rp ⊢
  rw [ok_bind, ok_bind]
  refine Ok.forL (fun j S => PInv O S ((C.take j).map (place O w m))) (by simpa using PInv.nil hO) ?_ ?_
  · rintro j a S hj hI
    rw [List.getElem?_map] at hj
    obtain ⟨i, hi, rfl⟩ := Option.map_eq_some_iff.mp hj
    have him := hC i (List.mem_of_getElem? hi)
    obtain ⟨a1, a2⟩ := rp i him
    obtain ⟨u, hu⟩ : ∃ u, u = itW O w (pred m i) := ⟨_, rfl⟩
    rw [← hu] at a1 a2
    have hw : Way O u := hu ▸ itW_way hO ho.way _
    have lu := hw.lt hO
    have lu' : u.2 < S.length := by rw [hI.len]; exact lu.2
    have hin : (u.1 : Int) ∈ nb S u.2 := (hI.mem _ _).mpr (.inl hw)
    have nl : (nb S u.2).length ≤ O.length + 1 := room_of (hI.nd _) fun x hx => by
      rcases (hI.mem _ _).mp hx with z | z
      · have := hO.rng _ _ z
        omega
      · omega
    rw [a2, ok_bind, pIxN_nat lu', ok_bind, ofO_get (nb_get lu')]
    have e1 : pUpdN S u.2 (fun l21 => (((Res.ok (nb S u.2)) >>= fun a22 => ((pAt r ((i : Int) - (1 : Int))) >>= fun a23 => (pIndex a22 a23))) >>= fun a24 => (pIns l21 a24 (O.length : Int)))) = .ok (S.set u.2 (ins (nb S u.2) ((nb S u.2).idxOf (u.1 : Int)) (O.length : Int))) := by
      refine pUpdN_ok (nb_get lu') ?_
      have := idx_get hin
      rw [ok_bind, a1, ok_bind, pIndex_ok hin, ok_bind, pIns_ok (by omega) (by omega) (by omega)]
      rfl
    rw [e1, ok_bind]
    refine Ok.ret ?_
    have ep : place O w m i = u.2 := by rw [hu]; rfl
    have hnew : u.2 ∉ (C.take j).map (place O w m) := by
      intro z
      obtain ⟨i', hi', e'⟩ := List.mem_map.mp z
      obtain ⟨k, hk, ek⟩ := List.getElem_of_mem hi'
      rw [List.length_take] at hk
      have hjl : j < C.length := (List.getElem?_eq_some_iff.mp hi).1
      rw [List.getElem_take] at ek
      rw [List.nodup_iff_pairwise_ne] at nd
      have := List.pairwise_iff_getElem.mp nd k j (by simp; omega) (by simpa using hjl) (by omega)
      rw [List.getElem_map, List.getElem_map, ek, e', (List.getElem?_eq_some_iff.mp hi).2, ep] at this
      exact this rfl
    have := hI.step hO (p := (nb S u.2).idxOf (u.1 : Int)) lu.2 hnew
    rw [List.take_succ, hi, List.map_append]
    show PInv O _ (List.map (place O w m) (List.take j C) ++ [place O w m i])
    rw [ep]
    exact this
  · rintro S hI
    rw [List.length_map, List.take_length] at hI
    have e2 : pLc (C.map fun i : Nat => (i : Int)) (fun _ => .ok true) (fun x26 => (pAt r x26)) = .ok ((C.map (place O w m)).map fun v : Nat => (v : Int)) := by
      rw [pLc_map (f := fun x => ((place O w m x.toNat : Nat) : Int)) (by simp; omega) (fun a ha => by
        obtain ⟨i, hi, rfl⟩ := List.mem_map.mp ha
        exact (rp i (hC i hi)).2)]
      rw [List.map_map, List.map_map]
      rfl
    rw [e2, ok_bind, pApp_ok (by rw [hI.len]; omega), ok_bind]
    exact Ok.ret ⟨S, rfl, hI⟩
structure GInv (O : List (List Int)) (k : Nat) : Prop where
  ok : MapOk O
  len2 : 2 ≤ O.length
  len : O.length ≤ k + 2
  way : ∃ w, Way O w
theorem GInv.mono {k l : Nat} (h : GInv O k) (hk : k ≤ l) : GInv O l := ⟨h.ok, h.len2, by have := h.len; omega, h.way⟩
theorem draw_ix {α : Type} {mm c : Int} {r : List α} (h0 : 0 ≤ mm) (hc : 0 < c) (hz : c.natAbs < 2 ^ 250) (hr : 0 < r.length) : ∃ i : Nat, i < r.length ∧ (pDiv mm c >>= fun a => ((Res.ok r >>= fun b => .ok (b.length : Int)) >>= fun d => pMod a d)) = .ok (i : Int) := by
  have h1 := Int.emod_nonneg (mm / c) (show (r.length : Int) ≠ 0 by omega)
  have h2 := Int.emod_lt_of_pos (mm / c) (show 0 < (r.length : Int) by omega)
  refine ⟨(mm / c % r.length).toNat, by omega, ?_⟩
  rw [dlit hc hz, ok_bind, ok_bind, ok_bind, pMod_pos (by omega)]
  congr 1
  omega
theorem draw_at {mm : Int} {n : Nat} (hr : 0 < n) : ∃ i : Nat, i < n ∧ pMod mm (n : Int) = .ok (i : Int) := by
  have h1 := Int.emod_nonneg mm (show (n : Int) ≠ 0 by omega)
  have h2 := Int.emod_lt_of_pos mm (show 0 < (n : Int) by omega)
  refine ⟨(mm % n).toNat, by omega, ?_⟩
  rw [pMod_pos (by omega)]
  congr 1
  omega
theorem nx_len {n : Nat} (h : n ≤ 13) : n ≤ 100 := by omega
theorem grown_ok (ns : List Int) (hl : ns.length ≤ 63) (start steps : Nat) (h1 : start ≤ 1000) (h2 : steps ≤ 11) : Ok (p__law_grown ns start steps) (fun O => GInv O steps) := by
  unfold p__law_grown
  rw [ok_bind, pR1_nat (by omega), ok_bind]
  refine Ok.forUp (fun k O => GInv O k) ⟨⟨fun v u hu => ?_, fun v => ?_, fun v u hu => ?_⟩, by decide, by decide, ⟨(0, 1), by show (0 : Int) ∈ [(0 : Int)]; decide⟩⟩ ?_ (fun O h => Ok.ret h)
  · match v with
    | 0 => cases List.mem_singleton.mp hu; decide
    | 1 => cases List.mem_singleton.mp hu; decide
    | v + 2 => cases hu
  · match v with
    | 0 => exact List.nodup_cons.mpr ⟨List.not_mem_nil, .nil⟩
    | 1 => exact List.nodup_cons.mpr ⟨List.not_mem_nil, .nil⟩
    | v + 2 => exact .nil
  · match v with
    | 0 =>
      have := List.mem_singleton.mp hu
      have : u = 1 := by omega
      subst this
      show (0 : Int) ∈ [(0 : Int)]
      decide
    | 1 =>
      have := List.mem_singleton.mp hu
      have : u = 0 := by omega
      subst this
      show (1 : Int) ∈ [(1 : Int)]
      decide
    | v + 2 => cases hu
  · rintro k O hk hI
    have hO := hI.ok
    have hle := hI.len
    have hn : O.length ≤ 100 := by omega
    obtain ⟨mm, em, m1, m2⟩ := mixed_ok ns hl (start + k) (by omega)
    have em : p__law_mixed ns ((start : Int) + (k : Int)) = .ok mm := em
    obtain ⟨ws, G, hS, eR⟩ := law_rings_ok hO hn
    have hwl := hS.inv.wlen hO
    obtain ⟨w0, hw0⟩ := hI.way
    obtain ⟨p0, hp0, _⟩ := (hS.inv.mem w0).mp (hS.end_ hO w0 hw0)
    have hwpos : 0 < ws.length := List.length_pos_iff.mpr fun z => by rw [z] at hp0; cases hp0
    rw [em, noX_ok, ok_bind, eR, noX_ok, ok_bind, List.length_map]
    obtain ⟨j, hj, ej⟩ := draw_at (mm := mm) hwpos
    rw [ej, ok_bind, pIxN_nat hj, ok_bind]
    have hR : (ws.map fun p => rng O p.1 p.2)[j]? = some (rng O ws[j].1 ws[j].2) := by rw [List.getElem?_map, List.getElem?_eq_getElem hj]; rfl
    have ho := hS.inv.isOrb ws[j] (List.getElem_mem hj)
    generalize ws[j] = p at hR ho
    obtain ⟨w, m⟩ := p
    simp only at hR ho
    have hmp := ho.pos
    have hml : m ≤ 10000 := Nat.le_trans ho.le (sq_le hn)
    rw [ofO_get hR, dlit (c := 64) (by decide) (by decide), ok_bind, pMod_pos (by decide), ok_bind]
    have hrl : 0 < (rng O w m).length := by simpa using hmp
    refine Ok.test (fun _ => ?_) (fun _ => ?_)
    · rw [if_pos rfl]
      obtain ⟨i1, h1, e1⟩ := draw_ix (mm := mm) (c := 128) (r := rng O w m) m1 (by decide) (by decide) hrl
      obtain ⟨i2, h2, e2⟩ := draw_ix (mm := mm) (c := 4096) (r := rng O w m) m1 (by decide) (by decide) hrl
      rw [rng_len] at h1 h2
      rw [e1, e2, ok_bind, ok_bind, ok_bind, put_tie_ok hO hn ho h1 h2 rfl rfl, noX_ok, ok_bind]
      refine Ok.ret ?_
      have hu : Way O (itW O w (pred m i1)) := itW_way hO ho.way _
      have hv : Way O (itW O w (pred m i2)) := itW_way hO ho.way _
      split
      · rename_i z
        exact ⟨tieO_ok hO hu hv z.1 z.2, by rw [tieO_len]; exact hI.len2, by rw [tieO_len]; omega, ⟨w0, tieO_sub hO hu hv hw0⟩⟩
      · exact hI.mono (Nat.le_succ k)
    · rw [if_neg (by decide), ok_bind, ok_bind, ok_bind, rng_len, pR1_nat (by omega), ok_bind]
      refine Ok.forUp (fun a s => ∃ C : List Nat, s = C.map (fun i : Nat => (i : Int)) ∧ (∀ i ∈ C, i < a) ∧ (C.map (place O w m)).Nodup ∧ C.length ≤ a) ⟨[], rfl, (fun i hi => by cases hi), List.Pairwise.nil, Nat.le_refl _⟩ ?_ ?_
      · rintro a s ha ⟨C, rfl, c1, c2, c3⟩
        obtain ⟨_, a2⟩ := ring_pair hO ho ha
        rw [ok_bind, a2, ok_bind, ok_bind, cut_to, ok_bind]
        refine Ok.bnd (Q' := fun b => b = true → ((((itW O w (pred m a)).2 : Nat) : Int)) ∉ (rng O w m).take a) ?_ ?_
        · by_cases z : ((((itW O w (pred m a)).2 : Nat) : Int)) ∈ (rng O w m).take a
          · rw [ok_bind, if_neg (by simpa using z)]
            exact Ok.ret fun h => by cases h
          · rw [ok_bind, if_pos (by simpa using z), dlit (c := 128) (by decide) (by decide), ok_bind, dlit (c := 8192) (by decide) (by decide), ok_bind, pMul_small (by omega) (by omega), ok_bind, ok_bind, pMod_pos (by decide), ok_bind]
            exact Ok.ret fun _ => z
        · intro b hb
          refine Ok.iteB (fun q => ?_) (fun q => ?_)
          · have hb := hb q
            rw [pApp_ok (by simp; omega), ok_bind]
            refine Ok.ret ⟨C ++ [a], by simp, fun i hi => ?_, ?_, by simp; omega⟩
            · rcases List.mem_append.mp hi with z | z
              · have := c1 i z
                omega
              · cases List.mem_singleton.mp z
                omega
            · rw [List.map_append]
              refine List.nodup_append.mpr ⟨c2, List.nodup_cons.mpr ⟨List.not_mem_nil, .nil⟩, fun x hx y hy e => ?_⟩
              obtain ⟨i, hi, rfl⟩ := List.mem_map.mp hx
              have hy := List.mem_singleton.mp hy
              subst hy
              have hia := c1 i hi
              refine hb ?_
              have e' : (itW O w (pred m i)).2 = (itW O w (pred m a)).2 := e
              rw [← e', corner_pl ho (by omega)]
              refine List.mem_iff_getElem?.mpr ⟨i, ?_⟩
              rw [List.getElem?_take, if_pos hia, rng_get (by omega)]
          · exact Ok.ret ⟨C, rfl, fun i hi => by have := c1 i hi; omega, c2, by omega⟩
      · rintro s ⟨C, rfl, c1, c2, c3⟩
        refine Ok.bnd (Q' := fun s => ∃ C : List Nat, s = C.map (fun i : Nat => (i : Int)) ∧ (∀ i ∈ C, i < m) ∧ (C.map (place O w m)).Nodup) ?_ ?_
        · refine Ok.test (fun _ => ?_) (fun _ => ?_)
          · obtain ⟨i1, h1, e1⟩ := draw_ix (mm := mm) (c := 128) (r := rng O w m) m1 (by decide) (by decide) hrl
            rw [rng_len] at h1
            rw [if_pos rfl]
            simp only [okB, rng_len] at e1 ⊢
            rw [e1]
            simp only [okB]
            exact Ok.ret ⟨[i1], rfl, fun i hi => by cases List.mem_singleton.mp hi; exact h1, List.nodup_cons.mpr ⟨List.not_mem_nil, .nil⟩⟩
          · rw [if_neg (by decide)]
            exact Ok.ret ⟨C, rfl, c1, c2⟩
        · rintro s ⟨C, rfl, c1, c2⟩
          obtain ⟨S, eS, hS⟩ := put_place_ok hO hn ho c1 c2
          rw [ok_bind, eS, noX_ok, ok_bind]
          refine Ok.ret ⟨hS.end_ hO c2 fun v hv => ?_, by simp [hS.len]; have := hI.len2; omega, by simp [hS.len]; omega, ⟨w0, ?_⟩⟩
          · obtain ⟨i, _, rfl⟩ := List.mem_map.mp hv
            exact place_lt hO ho
          · show (w0.1 : Int) ∈ nb _ w0.2
            rw [nb_app, if_pos (by rw [hS.len]; exact (hw0.lt hO).2)]
            exact (hS.mem _ _).mpr (.inl hw0)
theorem map_ok (ns : List Int) (hl : ns.length ≤ 63) : ∃ O, p__law_map ns = .ok O ∧ MapOk O ∧ 2 ≤ O.length ∧ O.length ≤ 13 := by
  suffices h : Ok (p__law_map ns) (fun O => MapOk O ∧ 2 ≤ O.length ∧ O.length ≤ 13) by
    obtain ⟨O, e, h⟩ := h
    exact ⟨O, e, h⟩
  unfold p__law_map
  obtain ⟨m0, e0, a1, a2⟩ := mixed_ok ns hl 0 (by decide)
  obtain ⟨m1, e1, b1, b2⟩ := mixed_ok ns hl 1 (by decide)
  have e0 : p__law_mixed ns (0 : Int) = .ok m0 := e0
  have e1 : p__law_mixed ns (1 : Int) = .ok m1 := e1
  rw [e0, e1, noX_ok, noX_ok, ok_bind, ok_bind, pMod_pos (by decide), ok_bind]
  refine Ok.test (fun _ => ?_) (fun _ => ?_)
  · rw [if_pos rfl, pMod_pos (by decide), ok_bind, ok_bind]
    obtain ⟨n, hn⟩ : ∃ n : Nat, (2 : Int) + m1 % 6 = n := ⟨(2 + m1 % 6).toNat, by omega⟩
    rw [hn]
    obtain ⟨O, eO, hO, hlen, _⟩ := any_ok ns hl 3 n (by decide) (by omega)
    have eO : p__law_any ns (3 : Int) (n : Int) = .ok O := eO
    rw [eO, noX_ok]
    exact Ok.ret ⟨hO, by omega, by omega⟩
  · rw [if_neg (by decide), ok_bind, pMod_pos (by decide), ok_bind]
    obtain ⟨n, hn⟩ : ∃ n : Nat, m1 % 12 = n := ⟨(m1 % 12).toNat, by omega⟩
    rw [hn]
    have h := grown_ok ns hl 3 n (by decide) (by omega)
    exact Ok.nox (h.imp fun O h => ⟨h.ok, h.len2, by have := h.len; omega⟩)
theorem zip_self {α : Type} : ∀ l : List α, l.zip l = l.map fun a => (a, a)
  | [] => rfl
  | a :: l => by rw [List.zip_cons_cons, zip_self l]; rfl
theorem same_refl {O : List (List Int)} (h : ∀ l ∈ O, l.length ≤ 100000) : p__law_same O O = .ok true := by
  refine Ok.eq ?_
  unfold p__law_same
  rw [ok_bind]
  refine Ok.forCL (fun _ _ => True) trivial ?_ ?_
  · rintro j a s hj _
    rw [zip_self, List.getElem?_map] at hj
    obtain ⟨o, ho, rfl⟩ := Option.map_eq_some_iff.mp hj
    have hol := h o (List.mem_of_getElem? ho)
    simp only
    rw [ok_bind, if_neg (by simp)]
    by_cases z : o = []
    · subst z
      rw [if_neg (by simp), ok_bind, if_neg (by decide), ok_bind, ok_bind, if_neg (by simp), ok_bind]
      have : pCat (cutG ([] : List Int) (some (0 : Int)) none) (cutG ([] : List Int) none (some (0 : Int))) = .ok [] := rot_ok (k := 0) (by simp)
      rw [this, ok_bind, ok_bind, if_neg (by simp)]
      exact Ok.ret trivial
    · obtain ⟨x, t, rfl⟩ := List.exists_cons_of_ne_nil z
      have e0 : pAt (x :: t) (0 : Int) = .ok x := pAt_some (k := 0) rfl
      have e1 : pIndex (x :: t) x = .ok (0 : Int) := by
        rw [pIndex_ok List.mem_cons_self, List.idxOf_cons_self]
        rfl
      have e2 : pCat (cutG (x :: t) (some (0 : Int)) none) (cutG (x :: t) none (some (0 : Int))) = .ok (x :: t) := by
        have := rot_ok (r := x :: t) hol (k := 0)
        rw [rot_zero] at this
        exact this
      rw [if_pos (by simp), e0, ok_bind, ok_bind, if_neg (by simp), ok_bind, ok_bind, if_pos (by simp), ok_bind, e1, ok_bind, ok_bind, e2, ok_bind, ok_bind, if_neg (by simp)]
      exact Ok.ret trivial
  · rintro s _
    exact Ok.ret (by simp)
theorem whole_ok (x : Int) : p__law_whole_I x = .ok true := by unfold p__law_whole_I; rfl
theorem is_map_ok {O : List (List Int)} (h : ∀ l ∈ O, l.length ≤ 100000) : p__law_is_map O = .ok true := by
  refine Ok.eq ?_
  unfold p__law_is_map
  rw [ok_bind, if_neg (by decide), ok_bind]
  refine Ok.forCL (fun _ _ => True) trivial ?_ (fun _ _ => Ok.ret rfl)
  rintro j a s hj _
  have hol := h a (List.mem_of_getElem? hj)
  have e0 : pLc a (fun x1 => ((noX (p__law_whole_I x1)) >>= fun a2 => .ok (!a2))) (fun x1 => (.ok x1)) = .ok [] := by
    rw [pLc_all (c := fun _ => false) (f := fun x => x) (by omega) (fun a _ => by rw [whole_ok, noX_ok, ok_bind]; rfl) (fun a _ _ => rfl)]
    simp
  rw [if_neg (by decide), e0, ok_bind, ok_bind, if_neg (by simp)]
  exact Ok.ret trivial
theorem forA_app {O : List (List Int)} {x : Int} (h : ∀ l ∈ O, l.length ≤ 1000) : Ok (pForA O.length (fun s38 : (List (List Int)) => (s38).length) (fun (s38 : (List (List Int))) (j33 : Nat) =>
  ((pUpdN s38 j33 fun l39 => (pApp l39 x)) >>= fun found_40 => (.ok found_40))) O.length O) (fun _ => True) := by
  obtain ⟨s', e, _⟩ := pForA_inv (n := O.length) (len := fun s38 : (List (List Int)) => (s38).length) (b := (fun (s38 : (List (List Int))) (j33 : Nat) =>
  ((pUpdN s38 j33 fun l39 => (pApp l39 x)) >>= fun found_40 => (.ok found_40)))) (fun k s => s.length = O.length ∧ (∀ i l, k ≤ i → s[i]? = some l → l.length ≤ 1000)) (fun k s h => h.1) (fun k s hk hs => by
    have hks : k < s.length := by rw [hs.1]; exact hk
    have := hs.2 k s[k] (Nat.le_refl _) (List.getElem?_eq_getElem hks)
    rw [pUpdN_ok (List.getElem?_eq_getElem hks) (pApp_ok (by omega)), ok_bind]
    refine ⟨_, rfl, by simp [hs.1], fun i l hi hl => ?_⟩
    rw [List.getElem?_set_ne (by omega)] at hl
    exact hs.2 i l (by omega) hl) O.length O (Nat.le_refl _) ⟨rfl, fun i l hi hl => h l (List.mem_of_getElem? hl)⟩
  exact ⟨s', e, trivial⟩
end Ow.M
end
section
set_option linter.all false
set_option exponentiation.threshold 100000
set_option maxHeartbeats 1000000
/-! MTie: a tie put in by the program. -/
namespace Ow.M
open PySem L2 Ow Ow.P Ow.Lib
variable {O : List (List Int)}
theorem put_ahead_ok {o : List Int} {mark x : Int} (h : mark ∈ o) (hz : o.length < 100000) : p_put_ahead o mark x = .ok ((), ins o (o.idxOf mark) x) := by
  have := idx_get h
  unfold p_put_ahead
  rw [pIndex_ok h, ok_bind, pIns_ok (by omega) (by omega) (by omega), ok_bind]
  rfl
theorem copied_ok (hn : O.length ≤ 100000) : p_copied O = .ok O := by
  unfold p_copied
  exact pLc_copy (by omega)
theorem tied_ok (hO : MapOk O) (hn : O.length ≤ 100) {L : List (List Int)} (hL : p_lands O = .ok L) {l : Nat} {w : Nat × Nat} {m : Nat} (hl : L[l]? = some (rng O w m)) (ho : Orb O w m) {i j : Nat} (hi : i < m) (hj : j < m) {u v : Nat × Nat} (eu : u = itW O w (pred m i)) (ev : v = itW O w (pred m j)) :
    p_tied O l i j = (if u.2 = v.2 ∨ (v.2 : Int) ∈ nb O u.2 then .exc ⟨3, []⟩ else .ok (tieO O u v)) ∧ pX_tied O l i j = (if u.2 = v.2 ∨ (v.2 : Int) ∈ nb O u.2 then .exc ⟨3, []⟩ else .ok (tieO O u v)) := by
  have e : pX_tied O l i j = p_tied O l i j := by unfold pX_tied p_tied; rfl
  rw [e]
  refine (fun h => ⟨h, h⟩) ?_
  obtain ⟨a1, a2⟩ := ring_pair hO ho hi
  obtain ⟨b1, b2⟩ := ring_pair hO ho hj
  have hu : Way O u := eu ▸ itW_way hO ho.way _
  have hv : Way O v := ev ▸ itW_way hO ho.way _
  rw [← eu] at a1 a2
  rw [← ev] at b1 b2
  have lu := hu.lt hO
  have lv := hv.lt hO
  have n1 := nb_len hO u.2
  have n2 := nb_len hO v.2
  unfold p_tied
  generalize rng O w m = r at a1 a2 b1 b2 hl ⊢
  rw [hL, noX_ok, ok_bind, pAt_some hl, ok_bind, a2, ok_bind, b2, ok_bind, copied_ok (by omega), noX_ok]
  by_cases z : u.2 = v.2
  · rw [if_pos (by simp [z]), ok_bind, if_pos rfl, if_pos (.inl z)]
  · rw [if_neg (show ¬ (decide ((u.2 : Int) = (v.2 : Int)) = true) by simp; omega), pAt_nb lu.2, ok_bind, ok_bind]
    by_cases z2 : (v.2 : Int) ∈ nb O u.2
    · rw [if_pos (by simpa using z2), if_pos (.inr z2)]
    · rw [if_neg (by simpa using z2), if_neg (by simp [z, z2]), ok_bind, pIxN_nat lu.2, ok_bind, ofO_get (nb_get lu.2), ok_bind, a1, ok_bind, put_ahead_ok hu (by omega), noX_ok, ok_bind, ok_bind]
      simp only
      have lv' : v.2 < (O.set u.2 (ins (nb O u.2) ((nb O u.2).idxOf (u.1 : Int)) v.2)).length := by simpa using lv.2
      have nv : nb (O.set u.2 (ins (nb O u.2) ((nb O u.2).idxOf (u.1 : Int)) v.2)) v.2 = nb O v.2 := by rw [nb_set lu.2, if_neg (Ne.symm z)]
      have ev := nb_get lv'
      rw [nv] at ev
      rw [pIxN_nat lv', ok_bind, ofO_get ev, ok_bind, b1, ok_bind, put_ahead_ok hv (by omega), noX_ok, ok_bind, ok_bind]
      rfl
/-- how many of the script's numbers are asked -/
theorem asked_ok (ns : List Int) : ∃ n : Nat, pMin (12 : Int) (pMax (1 : Int) (ns.length : Int)) = (n : Int) ∧ n ≤ 12 := by
  refine ⟨(pMin (12 : Int) (pMax (1 : Int) (ns.length : Int))).toNat, ?_, ?_⟩
  · unfold pMin pMax
    split <;> split <;> omega
  · unfold pMin pMax
    split <;> split <;> omega
theorem both_lands (hO : MapOk O) (hn : O.length ≤ 100) : ∃ L, p_lands O = .ok L ∧ p__law_lands O = .ok L ∧ LandsOk O L := by
  obtain ⟨L, e, h⟩ := lands_ok hO hn
  obtain ⟨L', e', h'⟩ := law_lands_ok hO hn
  rw [← h.unique h'] at e'
  exact ⟨L, e, e', h⟩
end Ow.M
end
section
set_option linter.all false
set_option exponentiation.threshold 100000
set_option maxHeartbeats 1000000
/-! MUntie: a tie taken out. -/
namespace Ow.M
open PySem L2 Ow Ow.P Ow.Lib
variable {O : List (List Int)}
def untieO (O : List (List Int)) (a b : Nat) : List (List Int) := (O.set a ((nb O a).erase (b : Int))).set b ((nb O b).erase (a : Int))
theorem untieO_len (O : List (List Int)) (a b : Nat) : (untieO O a b).length = O.length := by simp [untieO]
theorem untieO_nb {a b : Nat} (ha : a < O.length) (hb : b < O.length) (x : Nat) : nb (untieO O a b) x = if x = b then (nb O b).erase (a : Int) else if x = a then (nb O a).erase (b : Int) else nb O x := by
  unfold untieO
  have hb' : b < (O.set a ((nb O a).erase (b : Int))).length := by simpa using hb
  rw [nb_set hb', nb_set ha]
theorem untieO_mem (hO : MapOk O) {a b : Nat} (ha : a < O.length) (hb : b < O.length) (hab : a ≠ b) (x : Nat) (y : Int) : y ∈ nb (untieO O a b) x ↔ y ∈ nb O x ∧ ¬ (x = a ∧ y = b) ∧ ¬ (x = b ∧ y = a) := by
  rw [untieO_nb ha hb]
  by_cases z : x = b
  · subst z
    rw [if_pos rfl, (hO.nd x).mem_erase_iff]
    constructor
    · rintro ⟨h1, h2⟩
      exact ⟨h2, fun e => hab e.1.symm, fun e => h1 e.2⟩
    · rintro ⟨h1, _, h3⟩
      exact ⟨fun e => h3 ⟨rfl, e⟩, h1⟩
  · rw [if_neg z]
    by_cases z2 : x = a
    · subst z2
      rw [if_pos rfl, (hO.nd x).mem_erase_iff]
      constructor
      · rintro ⟨h1, h2⟩
        exact ⟨h2, fun e => h1 e.2, fun e => z e.1⟩
      · rintro ⟨h1, h2, _⟩
        exact ⟨fun e => h2 ⟨rfl, e⟩, h1⟩
    · rw [if_neg z2]
      constructor
      · exact fun h => ⟨h, fun e => z2 e.1, fun e => z e.1⟩
      · exact fun h => h.1
theorem untieO_ok (hO : MapOk O) {a b : Nat} (ha : a < O.length) (hb : b < O.length) (hab : a ≠ b) : MapOk (untieO O a b) := by
  refine ⟨fun v u hu => ?_, fun v => ?_, fun v u hu => ?_⟩
  · rw [untieO_len]
    exact hO.rng v u ((untieO_mem hO ha hb hab v u).mp hu).1
  · rw [untieO_nb ha hb]
    split
    · exact (hO.nd b).erase _
    · split
      · exact (hO.nd a).erase _
      · exact hO.nd v
  · obtain ⟨h1, h2, h3⟩ := (untieO_mem hO ha hb hab v u).mp hu
    refine (untieO_mem hO ha hb hab u v).mpr ⟨hO.sym v u h1, fun e => h3 ⟨by omega, by omega⟩, fun e => h2 ⟨by omega, by omega⟩⟩
theorem pRem_ok {l : List Int} {x : Int} (h : x ∈ l) : pRem l x = .ok (l.erase x) := by
  unfold pRem
  rw [if_pos h]
theorem ins_erase {o : List Int} {p : Nat} {x : Int} (h : x ∉ o) : (ins o p x).erase x = o := by
  unfold ins
  have h1 : x ∉ o.take p := fun z => h (List.mem_of_mem_take z)
  rw [List.append_assoc, List.erase_append_right _ h1]
  show o.take p ++ (x :: o.drop p).erase x = o
  rw [List.erase_cons_head, List.take_append_drop]
theorem map_ext {A B : List (List Int)} (hl : A.length = B.length) (h : ∀ x, nb A x = nb B x) : A = B := by
  refine List.ext_getElem? fun i => ?_
  by_cases hi : i < A.length
  · rw [nb_get hi, nb_get (by omega), h]
  · rw [List.getElem?_eq_none (by omega), List.getElem?_eq_none (by omega)]
theorem untie_tie (hO : MapOk O) {u v : Nat × Nat} (hu : Way O u) (hv : Way O v) (h1 : u.2 ≠ v.2) (h2 : (v.2 : Int) ∉ nb O u.2) : untieO (tieO O u v) u.2 v.2 = O ∧ untieO (tieO O u v) v.2 u.2 = O := by
  have hn : (u.2 : Int) ∉ nb O v.2 := fun z => h2 (hO.sym _ _ z)
  have lu : u.2 < (tieO O u v).length := by rw [tieO_len]; exact (hu.lt hO).2
  have lv : v.2 < (tieO O u v).length := by rw [tieO_len]; exact (hv.lt hO).2
  have nu : nb (tieO O u v) u.2 = ins (nb O u.2) ((nb O u.2).idxOf (u.1 : Int)) v.2 := by rw [tieO_nb hO hu hv, if_neg h1, if_pos rfl]
  have nv : nb (tieO O u v) v.2 = ins (nb O v.2) ((nb O v.2).idxOf (v.1 : Int)) u.2 := by rw [tieO_nb hO hu hv, if_pos rfl]
  constructor
  · refine map_ext (by rw [untieO_len, tieO_len]) fun x => ?_
    rw [untieO_nb lu lv, nu, nv, ins_erase h2, ins_erase hn]
    split
    · rename_i e; rw [e]
    · split
      · rename_i e; rw [e]
      · rw [tieO_nb hO hu hv, if_neg (by assumption), if_neg (by assumption)]
  · refine map_ext (by rw [untieO_len, tieO_len]) fun x => ?_
    rw [untieO_nb lv lu, nu, nv, ins_erase h2, ins_erase hn]
    split
    · rename_i e; rw [e]
    · split
      · rename_i e; rw [e]
      · rw [tieO_nb hO hu hv, if_neg (by assumption), if_neg (by assumption)]
end Ow.M
end
section
set_option linter.all false
set_option exponentiation.threshold 100000
set_option maxHeartbeats 1000000
/-! MTold: the lands' rings one by one; sets; loops that end with a refusal. -/
namespace Ow.M
open PySem L2 Ow Ow.P Ow.Lib
variable {O : List (List Int)} {α β τ : Type}
theorem before (hO : MapOk O) {u : Nat × Nat} {m : Nat} (h : Orb O u m) : itW O (itW O u (m - 1)) 1 = u := by
  rw [← itW_add, show m - 1 + 1 = m by have := h.pos; omega, h.back]
/-- the lands' rings, told so far -/
structure Told (O : List (List Int)) (L : List (List Int)) (k : Nat) (ws : List ((Nat × Nat) × Nat)) (G : List (Nat × Nat)) : Prop where
  inv : LInv O ws G
  len : ws.length = k
  get : ∀ (i : Nat) (p : (Nat × Nat) × Nat), ws[i]? = some p → ∃ u, L[i]? = some (rng O u p.2) ∧ u ∈ orb O p.1 p.2
theorem told_step (hO : MapOk O) {L : List (List Int)} (hL : LandsOk O L) {k : Nat} (hk : k < L.length) {ws : List ((Nat × Nat) × Nat)} {G : List (Nat × Nat)} (h : Told O L k ws G) : ∃ w m, Orb O w m ∧ L[k]? = some (rng O (itW O w 1) m) ∧ w ∉ G ∧ (∀ j, j < m → HT.lexLt (rot (rng O (itW O w 1) m) j) (rng O (itW O w 1) m) = false) ∧ ∀ G', G'.Perm (orb O w m) → Told O L (k + 1) (ws ++ [(w, m)]) (G ++ G') := by
  obtain ⟨u, m, ho, er, hl⟩ := (hL.mem _).mp (List.getElem_mem hk)
  have hb := before hO ho
  have ho' := ho.shift hO (m - 1)
  have hw : itW O u (m - 1) ∉ G := by
    intro z
    obtain ⟨p, hp, hm⟩ := (h.inv.mem _).mp z
    obtain ⟨i, hi, e⟩ := List.getElem_of_mem hp
    have hik : i < k := by rw [← h.len]; exact hi
    obtain ⟨v, hv, hvo⟩ := h.get i p (by rw [List.getElem?_eq_getElem hi, e])
    have hpo := h.inv.isOrb p hp
    have hLi : i < L.length := by omega
    obtain ⟨v', m', hvo', ev, hlv⟩ := (hL.mem _).mp (List.getElem_mem hLi)
    rw [List.getElem?_eq_getElem hLi] at hv
    have hv := Option.some.inj hv
    have hpv : Orb O v p.2 := by
      obtain ⟨j, _, ej⟩ := mem_orb.mp hvo
      rw [← ej]
      exact hpo.shift hO j
    obtain ⟨e1, e2⟩ := rng_inj hvo' hpv (by rw [← ev, hv])
    subst e1
    subst e2
    have hin : u ∈ orb O v' p.2 := by
      rw [hpo.same hO hvo]
      have : u = itW O (itW O u (m - 1)) 1 := hb.symm
      rw [this]
      exact hpo.step hm
    have hem : m = p.2 := by
      obtain ⟨j, _, ej⟩ := mem_orb.mp hin
      have := hvo'.shift hO j
      rw [ej] at this
      exact ho.unique this
    have r1 := ring_one hO hvo' ev hlv ho hin
    have r2 := ring_one hO ho er hl ho (ho.mem_it 0)
    have e3 : L[i] = L[k] := by rw [← r1, r2]
    have := List.pairwise_iff_getElem.mp hL.srt i k hLi hk hik
    rw [e3, lx_irrefl] at this
    cases this
  refine ⟨itW O u (m - 1), m, ho', by rw [hb, List.getElem?_eq_getElem hk, er], hw, by rw [hb, ← er]; exact hl, fun G' hG' => ⟨h.inv.add hO ho' hw hG', by simp [h.len], fun i p hip => ?_⟩⟩
  rcases Nat.lt_trichotomy i k with z | z | z
  · rw [List.getElem?_append_left (by rw [h.len]; exact z)] at hip
    exact h.get i p hip
  · subst z
    rw [List.getElem?_append_right (by rw [h.len]; exact Nat.le_refl _), h.len, Nat.sub_self] at hip
    cases hip
    exact ⟨u, by rw [List.getElem?_eq_getElem hk, er], by have := ho'.mem_it 1; rw [hb] at this; exact this⟩
  · rw [List.getElem?_eq_none (by simp [h.len]; omega)] at hip
    cases hip
theorem told_nil (O L : List (List Int)) : Told O L 0 [] [] := ⟨LInv.nil O, rfl, fun i p h => by cases h⟩
theorem told_upto (hO : MapOk O) {L : List (List Int)} (hL : LandsOk O L) : ∀ k, k ≤ L.length → ∃ ws G, Told O L k ws G
  | 0, _ => ⟨[], [], told_nil O L⟩
  | k + 1, hk => by
    obtain ⟨ws, G, h⟩ := told_upto hO hL k (by omega)
    obtain ⟨w, m, _, _, _, _, h2⟩ := told_step hO hL (by omega) h
    exact ⟨_, _, h2 _ (List.Perm.refl _)⟩
theorem lands_len (hO : MapOk O) {L : List (List Int)} (hL : LandsOk O L) : L.length ≤ O.length * O.length := by
  obtain ⟨ws, G, h⟩ := told_upto hO hL _ (Nat.le_refl _)
  have := h.inv.wlen hO
  rw [h.len] at this
  exact this

theorem pFor_exc {b : τ → α → Res τ} {e : Err} (I : Nat → τ → Prop) : ∀ {l : List α} {k : Nat} {a : α} {s : τ}, l[k]? = some a → I 0 s → (∀ j x s, j < k → l[j]? = some x → I j s → ∃ s', b s x = .ok s' ∧ I (j + 1) s') → (∀ s, I k s → b s a = .exc e) → pFor b l s = .exc e
  | [], k, a, s, h, _, _, _ => by cases h
  | x :: l, 0, a, s, h, h0, _, hb => by
    cases h
    show (b s x >>= pFor b l) = _
    rw [hb s h0]
    rfl
  | x :: l, k + 1, a, s, h, h0, hs, hb => by
    obtain ⟨s', e', i'⟩ := hs 0 x s (Nat.zero_lt_succ _) rfl h0
    show (b s x >>= pFor b l) = _
    rw [e', ok_bind]
    exact pFor_exc (fun j s => I (j + 1) s) (k := k) h i' (fun j y s hj hy hi => hs (j + 1) y s (by omega) hy hi) hb
theorem nodup_of_sub {α} [DecidableEq α] : ∀ {a b : List α}, a.Nodup → (∀ x ∈ a, x ∈ b) → b.length ≤ a.length → b.Nodup
  | [], b, _, _, h => by
    have : b = [] := List.length_eq_zero_iff.mp (by simpa using h)
    subst this
    exact .nil
  | x :: a, b, nd, hs, h => by
    obtain ⟨n1, n2⟩ := List.nodup_cons.mp nd
    have hx := hs x List.mem_cons_self
    have p := List.perm_cons_erase hx
    have hl := List.length_erase_of_mem hx
    have ih := nodup_of_sub (a := a) (b := b.erase x) n2 (fun y hy => (List.mem_erase_of_ne (fun e => n1 (by rw [← e]; exact hy))).mpr (hs y (List.mem_cons_of_mem _ hy))) (by simp at h; omega)
    refine p.nodup_iff.mpr (List.nodup_cons.mpr ⟨fun z => ?_, ih⟩)
    have l1 := List.Nodup.length_le_of_subset nd (l₂ := b.erase x) fun y hy => by
      by_cases e : y = x
      · rw [e]; exact z
      · exact (List.mem_erase_of_ne e).mpr (hs y hy)
    have : 0 < b.length := List.length_pos_of_mem hx
    simp at l1 h
    omega
theorem ddI_lt {l : List Int} : (ddI l).length < l.length ↔ ¬ l.Nodup := by
  have hd := nodup_ddI l
  have hle := List.Nodup.length_le_of_subset hd (l₂ := l) fun x hx => mem_ddI.mp hx
  constructor
  · intro h hn
    have := List.Nodup.length_le_of_subset hn (l₂ := ddI l) fun x hx => mem_ddI.mpr hx
    omega
  · intro h
    apply Decidable.byContradiction
    intro z
    exact h (nodup_of_sub hd (fun x hx => mem_ddI.mp hx) (by omega))
theorem pLenS_ok {l : List Int} (h : l.length ≤ 4000) : pLenS l = .ok ((ddI l).length : Int) := by
  unfold pLenS
  rw [if_pos (by simpa using h)]
theorem pGetK_of {κ : Type} [DecidableEq κ] : ∀ {l : List (κ × α)} {k : κ} {a : α}, (l.map (·.1)).Nodup → (k, a) ∈ l → pGetK l k = some a
  | [], k, a, _, h => by cases h
  | p :: l, k, a, nd, h => by
    rw [List.map_cons] at nd
    obtain ⟨n1, n2⟩ := List.nodup_cons.mp nd
    unfold pGetK
    rcases List.mem_cons.mp h with e | h
    · subst e
      simp
    · have : p.1 ≠ k := fun e => n1 (e ▸ List.mem_map.mpr ⟨_, h, rfl⟩)
      rw [List.find?_cons_of_neg (by simpa using this)]
      exact pGetK_of n2 h
end Ow.M
end
section
set_option linter.all false
set_option exponentiation.threshold 100000
set_option maxHeartbeats 1000000
/-! MCount: ties and counts as the program tells them. -/
namespace Ow.M
open PySem L2 Ow Ow.P Ow.Lib
variable {O : List (List Int)}
theorem ties1_le (hO : MapOk O) (v : Nat) : (ties1 O v).length ≤ O.length := by
  unfold ties1
  rw [List.length_map]
  refine Nat.le_trans (List.length_filter_le _ _) ?_
  rw [(srt_perm _).length_eq]
  exact nb_len hO v
theorem tiesP_le (hO : MapOk O) : ∀ k, (tiesP O k).length ≤ O.length * k
  | 0 => by simp [tiesP]
  | k + 1 => by
    rw [tiesP_succ, List.length_append, Nat.mul_succ]
    have := tiesP_le hO k
    have := ties1_le hO k
    omega
theorem ties_ok (hO : MapOk O) (hn : O.length ≤ 100) : p_ties O = .ok (tiesP O O.length) := by
  have hs := sq_le hn
  refine Ok.eq ?_
  unfold p_ties
  rw [ok_bind, pR1_nat (by omega), ok_bind]
  refine Ok.forUp (fun k s => s = tiesP O k) (by simp [tiesP]) ?_ (fun s h => Ok.ret h)
  rintro k s hk rfl
  have nl := nb_len hO k
  have h1 := ties1_le hO k
  have h2 := tiesP_le hO k
  have h3 : O.length * k ≤ O.length * O.length := Nat.mul_le_mul (Nat.le_refl _) (Nat.le_of_lt hk)
  rw [pAt_nb hk, ok_bind, ok_bind, pLc_pure (by rw [(srt_perm _).length_eq]; omega), ok_bind]
  have e : (((srt (nb O k)).filter fun a => decide ((k : Int) < a)).map fun a => ((k : Int), a)) = ties1 O k := rfl
  rw [e, pCat_ok (by omega), ok_bind, ← tiesP_succ]
  exact Ok.ret rfl
/-- places without neighbours -/
def lone (O : List (List Int)) : Nat := (O.filter fun x => decide (x = [])).length
theorem lone_ok (hn : O.length ≤ 100000) : (pLc O (fun x1 => (.ok (decide (x1 = ([] : List Int))))) (fun x1 => (.ok ())) >>= fun a2 => .ok (a2.length : Int)) = .ok (lone O : Int) := by
  rw [pLc_pure (by omega), ok_bind, List.length_map]
  rfl
def cnt (O L : List (List Int)) : Int := (O.length : Int) - (tiesP O O.length).length + L.length + lone O
theorem count_ok (hO : MapOk O) (hn : O.length ≤ 100) {L : List (List Int)} (eL : p_lands O = .ok L) : p_count O = .ok (cnt O L) := by
  unfold p_count
  rw [lone_ok (by omega), ok_bind, ties_ok hO hn, noX_ok, ok_bind, ok_bind, ok_bind, eL, noX_ok, ok_bind, ok_bind, ok_bind]
  rfl
end Ow.M
end
section
set_option linter.all false
set_option exponentiation.threshold 100000
set_option maxHeartbeats 1000000
/-! MEuler: a map that hangs together counts two, or less by an even number. -/
namespace Ow.M
open PySem L2 Ow Ow.P Ow.Lib
variable {O : List (List Int)} {α : Type}
/-- each to the next, the last one to e -/
def Lnk (f : α → α) : List α → α → Prop
  | [], _ => True
  | x :: t, e => f x = t.headD e ∧ Lnk f t e
theorem headD_app : ∀ (A B : List α) (e : α), (A ++ B).headD e = A.headD (B.headD e)
  | [], _, _ => rfl
  | _ :: _, _, _ => rfl
theorem lnk_app {f : α → α} {e : α} : ∀ {A B : List α}, Lnk f (A ++ B) e ↔ Lnk f A (B.headD e) ∧ Lnk f B e
  | [], B => by simp [Lnk]
  | x :: A, B => by
    show (f x = (A ++ B).headD e ∧ Lnk f (A ++ B) e) ↔ (f x = A.headD (B.headD e) ∧ Lnk f A (B.headD e)) ∧ Lnk f B e
    rw [headD_app, lnk_app (A := A), and_assoc]
theorem lnk_get {f : α → α} {e : α} : ∀ {c : List α}, (∀ (i : Nat) (x : α), c[i]? = some x → f x = (c[i + 1]?).getD e) → Lnk f c e
  | [], _ => trivial
  | x :: t, h => ⟨by
      have := h 0 x rfl
      rw [this]
      cases t <;> rfl, lnk_get fun i y hy => h (i + 1) y hy⟩
theorem lnk_uniq {f g : α → α} {e : α} : ∀ {c : List α}, Lnk f c e → Lnk g c e → ∀ x ∈ c, f x = g x
  | y :: t, h1, h2, x, hx => by
    rcases List.mem_cons.mp hx with rfl | hx
    · exact h1.1.trans h2.1.symm
    · exact lnk_uniq h1.2 h2.2 x hx
theorem lnk_congr {f g : α → α} {e : α} : ∀ {c : List α}, Lnk f c e → (∀ x ∈ c, f x = g x) → Lnk g c e
  | [], _, _ => trivial
  | x :: t, h, k => ⟨(k x List.mem_cons_self) ▸ h.1, lnk_congr h.2 fun y hy => k y (List.mem_cons_of_mem _ hy)⟩
theorem lnk_in {f : α → α} {e : α} : ∀ {c : List α}, Lnk f c e → ∀ x ∈ c, f x ∈ c ∨ f x = e
  | y :: t, h, x, hx => by
    rcases List.mem_cons.mp hx with rfl | hx
    · rw [h.1]
      cases t with
      | nil => exact .inr rfl
      | cons z t => exact .inl (by simp)
    · rcases lnk_in h.2 x hx with h | h
      · exact .inl (List.mem_cons_of_mem _ h)
      · exact .inr h
def Cyc (f : α → α) (c : List α) : Prop := ∃ x t, c = x :: t ∧ Lnk f c x
theorem Cyc.ne {f : α → α} {c : List α} (h : Cyc f c) : c ≠ [] := by
  obtain ⟨x, t, rfl, _⟩ := h
  simp
theorem Cyc.rot {f : α → α} {A B : List α} (h : Cyc f (A ++ B)) : Cyc f (B ++ A) := by
  cases A with
  | nil => rw [List.append_nil]; exact h
  | cons a A =>
    cases B with
    | nil => rw [List.append_nil] at h; exact h
    | cons b B =>
      obtain ⟨x, t, e, hl⟩ := h
      have : x = a := by
        have := (List.cons.inj e).1
        exact this.symm
      subst this
      obtain ⟨h1, h2⟩ := lnk_app.mp hl
      exact ⟨b, B ++ x :: A, rfl, lnk_app.mpr ⟨h2, h1⟩⟩
theorem Cyc.at_ {f : α → α} {c : List α} {p : α} (h : Cyc f c) (hp : p ∈ c) : ∃ T, Cyc f (p :: T) ∧ (p :: T).Perm c := by
  obtain ⟨A, B, rfl⟩ := List.append_of_mem hp
  exact ⟨B ++ A, h.rot, List.perm_append_comm (l₁ := p :: B) (l₂ := A)⟩
theorem Cyc.in_ {f : α → α} {c : List α} (h : Cyc f c) {x : α} (hx : x ∈ c) : f x ∈ c := by
  obtain ⟨y, t, rfl, hl⟩ := h
  rcases lnk_in hl x hx with h | h
  · exact h
  · rw [h]; exact List.mem_cons_self
theorem Cyc.congr {f g : α → α} {c : List α} (h : Cyc f c) (k : ∀ x ∈ c, f x = g x) : Cyc g c := by
  obtain ⟨y, t, e, hl⟩ := h
  exact ⟨y, t, e, lnk_congr hl k⟩
/-! ### what stands ahead in an order -/
def prv (l : List Int) (x : Int) : Int := l.getD (pred l.length (l.idxOf x)) 0
theorem nx_prv (O : List (List Int)) (x : Int) (y : Nat) : nx O x y = prv (nb O y) x := rfl
theorem prv_cyc {l : List Int} (nd : l.Nodup) (h : l ≠ []) : Cyc (prv l) l.reverse := by
  have hl : 0 < l.length := List.length_pos_iff.mpr h
  have e0 : l.reverse[0]? = some l[l.length - 1] := by
    rw [List.getElem?_reverse hl, List.getElem?_eq_getElem (by omega)]
    congr 1
  obtain ⟨x, t, e⟩ := List.exists_cons_of_ne_nil (l := l.reverse) (by simpa using h)
  refine ⟨x, t, e, lnk_get fun i y hy => ?_⟩
  have hx : x = l[l.length - 1] := by
    rw [e] at e0
    exact Option.some.inj e0
  have hi : i < l.length := by
    have := (List.getElem?_eq_some_iff.mp hy).1
    simpa using this
  rw [List.getElem?_reverse hi] at hy
  have hj : l.length - 1 - i < l.length := by omega
  rw [List.getElem?_eq_getElem hj] at hy
  have hy := Option.some.inj hy
  have ei : l.idxOf y = l.length - 1 - i := by
    rw [← hy]
    exact nd.idxOf_getElem _ hj
  unfold prv
  rw [ei]
  by_cases z : i + 1 < l.length
  · rw [List.getElem?_reverse z]
    unfold pred
    rw [if_neg (by omega), List.getD_eq_getElem?_getD]
    rw [show l.length - 1 - i - 1 = l.length - 1 - (i + 1) by omega, List.getElem?_eq_getElem (by omega)]
    rfl
  · rw [List.getElem?_eq_none (by simp; omega)]
    unfold pred
    rw [if_pos (by omega), List.getD_eq_getElem?_getD, List.getElem?_eq_getElem (by omega), hx]
    rfl
theorem lnk_skip [DecidableEq α] {f : α → α} {a t : α} : ∀ {T : List α}, Lnk f T a → a ∉ T → Lnk (fun x => if f x = a then t else f x) T t
  | [], _, _ => trivial
  | x :: T, h, hn => by
    refine ⟨?_, lnk_skip h.2 fun z => hn (List.mem_cons_of_mem _ z)⟩
    show (if f x = a then t else f x) = T.headD t
    cases T with
    | nil =>
      have : f x = a := h.1
      rw [if_pos this]
      rfl
    | cons y T =>
      have : f x = y := h.1
      rw [this, if_neg (fun e => hn (by rw [← e]; simp))]
      rfl
theorem prv_erase {l : List Int} (nd : l.Nodup) {a x : Int} (ha : a ∈ l) (hx : x ∈ l) (hne : x ≠ a) : prv (l.erase a) x = if prv l x = a then prv l a else prv l x := by
  obtain ⟨A, B, e⟩ := List.append_of_mem (List.mem_reverse.mpr ha)
  have el : l = B.reverse ++ a :: A.reverse := by
    have := congrArg List.reverse e
    simpa using this
  have haB : a ∉ B.reverse := by
    rw [el] at nd
    exact fun z => (List.nodup_append.mp nd).2.2 _ z _ List.mem_cons_self rfl
  have ee : l.erase a = B.reverse ++ A.reverse := by rw [el, List.erase_append_right _ haB, List.erase_cons_head]
  have er : (l.erase a).reverse = A ++ B := by rw [ee]; simp
  have ndr : (a :: (B ++ A)).Nodup := by
    have h1 : l.reverse.Nodup := (List.reverse_perm l).nodup_iff.mpr nd
    rw [e] at h1
    exact (List.perm_append_comm (l₁ := a :: B) (l₂ := A)).nodup_iff.mpr h1
  have hxT : x ∈ B ++ A := by
    have : x ∈ l.reverse := List.mem_reverse.mpr hx
    rw [e] at this
    rcases List.mem_append.mp this with h | h
    · exact List.mem_append_right _ h
    · rcases List.mem_cons.mp h with h | h
      · exact absurd h hne
      · exact List.mem_append_left _ h
  have c1 : Cyc (prv l) (a :: (B ++ A)) := by
    have := prv_cyc nd (fun z => by rw [z] at ha; cases ha)
    rw [e] at this
    exact this.rot
  have c2 : Cyc (prv (l.erase a)) (B ++ A) := by
    have hne2 : l.erase a ≠ [] := fun z => by
      rw [z] at er
      have : A = [] ∧ B = [] := by simpa using er.symm
      rw [this.1, this.2] at hxT
      cases hxT
    have := prv_cyc (nd.erase a) hne2
    rw [er] at this
    exact this.rot
  generalize B ++ A = T at *
  obtain ⟨y, t, e1, hl⟩ := c1
  obtain ⟨rfl, rfl⟩ := List.cons.inj e1
  obtain ⟨y2, t2, e2, hl2⟩ := c2
  have h3 : prv l a = y2 := by
    rw [hl.1, e2]
    rfl
  have h4 := lnk_skip (t := y2) hl.2 (List.nodup_cons.mp ndr).1
  have := lnk_uniq h4 hl2 x hxT
  rw [← this, h3]
/-! ### all ways, ring by ring -/
structure Dec (O : List (List Int)) (C : List (List (Nat × Nat))) : Prop where
  cyc : ∀ c ∈ C, Cyc (phi O) c
  nd : C.flatten.Nodup
  mem : ∀ w, w ∈ C.flatten ↔ Way O w
theorem orb_cyc (hO : MapOk O) {w : Nat × Nat} {m : Nat} (h : Orb O w m) : Cyc (phi O) (orb O w m) := by
  have hp := h.pos
  obtain ⟨x, t, e⟩ := List.exists_cons_of_ne_nil (l := orb O w m) (by
    intro z
    have := congrArg List.length z
    rw [orb_len] at this
    simp at this
    omega)
  have hg : ∀ i, i < m → (orb O w m)[i]? = some (itW O w i) := fun i hi => by
    unfold orb
    rw [List.getElem?_map, List.getElem?_range hi]
    rfl
  have hx : x = w := by
    have := hg 0 hp
    rw [e] at this
    exact Option.some.inj this
  refine ⟨x, t, e, lnk_get fun i y hy => ?_⟩
  have hi : i < m := by
    have := (List.getElem?_eq_some_iff.mp hy).1
    simpa using this
  rw [hg i hi] at hy
  have hy := Option.some.inj hy
  by_cases z : i + 1 < m
  · rw [hg _ z, ← hy]
    rfl
  · rw [List.getElem?_eq_none (by simp; omega), ← hy, hx]
    have : i + 1 = m := by omega
    show itW O w (i + 1) = w
    rw [this, h.back]
theorem dec_of (hO : MapOk O) {ws : List ((Nat × Nat) × Nat)} {G : List (Nat × Nat)} (h : LInv O ws G) (hall : ∀ w, Way O w → w ∈ G) : Dec O (ws.map fun p => orb O p.1 p.2) := by
  have hm : ∀ w, w ∈ (ws.map fun p => orb O p.1 p.2).flatten ↔ Way O w := fun w => by
    rw [List.mem_flatten]
    constructor
    · rintro ⟨c, hc, hw⟩
      obtain ⟨p, hp, rfl⟩ := List.mem_map.mp hc
      exact h.way hO ((h.mem w).mpr ⟨p, hp, hw⟩)
    · intro hw
      obtain ⟨p, hp, hw⟩ := (h.mem w).mp (hall w hw)
      exact ⟨_, List.mem_map.mpr ⟨p, hp, rfl⟩, hw⟩
  refine ⟨fun c hc => ?_, ?_, hm⟩
  · obtain ⟨p, hp, rfl⟩ := List.mem_map.mp hc
    exact orb_cyc hO (h.isOrb p hp)
  · rw [List.nodup_iff_pairwise_ne, List.pairwise_flatten]
    refine ⟨fun c hc => ?_, ?_⟩
    · obtain ⟨p, hp, rfl⟩ := List.mem_map.mp hc
      have := (h.isOrb p hp).nodup hO
      rwa [List.nodup_iff_pairwise_ne] at this
    · rw [List.pairwise_map]
      exact h.dis.imp fun {p q} d x hx y hy e => d x hx (by rw [e]; exact hy)
theorem Dec.ways (hO : MapOk O) {C : List (List (Nat × Nat))} (h : Dec O C) : C.flatten.length = (waysOf O).length :=
  ((List.perm_ext_iff_of_nodup h.nd (nodup_waysOf hO)).mpr fun w => (h.mem w).trans (mem_waysOf hO).symm).length_eq
theorem Dec.perm {C C' : List (List (Nat × Nat))} (h : Dec O C) (hp : C'.flatten.Perm C.flatten) (hc : ∀ c ∈ C', Cyc (phi O) c) : Dec O C' :=
  ⟨hc, hp.nodup_iff.mpr h.nd, fun w => hp.mem_iff.trans (h.mem w)⟩
theorem Dec.front {C : List (List (Nat × Nat))} (h : Dec O C) {p : Nat × Nat} (hp : Way O p) : ∃ T R, Dec O ((p :: T) :: R) ∧ C.length = R.length + 1 ∧ C.flatten.length = ((p :: T) :: R).flatten.length := by
  obtain ⟨c, hc, hpc⟩ := List.mem_flatten.mp ((h.mem p).mpr hp)
  obtain ⟨A, B, rfl⟩ := List.append_of_mem hc
  obtain ⟨T, h1, h2⟩ := (h.cyc c hc).at_ hpc
  have hperm : ((p :: T) :: (A ++ B)).flatten.Perm (A ++ c :: B).flatten := by
    rw [List.flatten_cons, List.flatten_append, List.flatten_append, List.flatten_cons]
    refine (List.perm_append_comm_assoc _ _ _).trans ?_
    exact List.Perm.append_left _ (List.Perm.append_right _ h2)
  refine ⟨T, A ++ B, h.perm hperm fun d hd => ?_, by simp; omega, hperm.length_eq.symm⟩
  rcases List.mem_cons.mp hd with rfl | hd
  · exact h1
  · rcases List.mem_append.mp hd with hd | hd
    · exact h.cyc d (List.mem_append_left _ hd)
    · exact h.cyc d (List.mem_append_right _ (List.mem_cons_of_mem _ hd))
/-! ### a tie taken out -/
theorem unt_way (hO : MapOk O) {a b : Nat} (hp : Way O (a, b)) (w : Nat × Nat) : Way (untieO O a b) w ↔ Way O w ∧ w ≠ (a, b) ∧ w ≠ (b, a) := by
  have hl := hp.lt hO
  have hab : a ≠ b := fun z => (hO.rng b a hp).2.2 (by omega)
  obtain ⟨x, y⟩ := w
  show (x : Int) ∈ nb (untieO O a b) y ↔ (x : Int) ∈ nb O y ∧ _
  rw [untieO_mem hO hl.1 hl.2 hab]
  constructor
  · rintro ⟨h1, h2, h3⟩
    refine ⟨h1, fun e => h3 ?_, fun e => h2 ?_⟩
    · have e1 := congrArg Prod.fst e
      have e2 := congrArg Prod.snd e
      simp only at e1 e2
      exact ⟨e2, by omega⟩
    · have e1 := congrArg Prod.fst e
      have e2 := congrArg Prod.snd e
      simp only at e1 e2
      exact ⟨e2, by omega⟩
  · rintro ⟨h1, h2, h3⟩
    exact ⟨h1, fun e => h3 (Prod.ext (show x = b by omega) e.1), fun e => h2 (Prod.ext (show x = a by omega) e.1)⟩
def cut (f : α → α) [DecidableEq α] (p q : α) (w : α) : α := if f w = q then f p else if f w = p then f q else f w
theorem unt_phi (hO : MapOk O) {a b : Nat} (hp : Way O (a, b)) {w : Nat × Nat} (hw : Way (untieO O a b) w) : phi (untieO O a b) w = cut (phi O) (a, b) (b, a) w := by
  have hl := hp.lt hO
  have hq : Way O (b, a) := hO.sym b a hp
  have hab : a ≠ b := fun z => (hO.rng b a hp).2.2 (by omega)
  obtain ⟨h1, h2, h3⟩ := (unt_way hO hp w).mp hw
  obtain ⟨x, y⟩ := w
  have e0 : phi (untieO O a b) (x, y) = (y, (prv (nb (untieO O a b) y) x).toNat) := rfl
  have e1 : phi O (x, y) = (y, (prv (nb O y) x).toNat) := rfl
  have ea : phi O (a, b) = (b, (prv (nb O b) a).toNat) := rfl
  have eb : phi O (b, a) = (a, (prv (nb O a) b).toNat) := rfl
  have hm := nx_mem h1
  rw [nx_prv] at hm
  have hr := hO.rng _ _ hm
  unfold cut
  rw [e0, e1, ea, eb, untieO_nb hl.1 hl.2]
  by_cases z : y = b
  · subst z
    have hxa : x ≠ a := fun z => h2 (by rw [z])
    rw [if_pos rfl, prv_erase (hO.nd y) hp h1 (by omega)]
    by_cases z2 : prv (nb O y) (x : Int) = (a : Int)
    · rw [if_pos z2, if_pos (by rw [z2]; rfl)]
    · rw [if_neg z2, if_neg (fun e => z2 (by
        have := congrArg Prod.snd e
        simp only at this hr
        omega)), if_neg (fun e => hab (by
        have := congrArg Prod.fst e
        simp only at this
        omega))]
  · rw [if_neg z]
    by_cases z3 : y = a
    · subst z3
      have hxb : x ≠ b := fun z => h3 (by rw [z])
      rw [if_pos rfl, prv_erase (hO.nd y) hq h1 (by omega)]
      by_cases z2 : prv (nb O y) (x : Int) = (b : Int)
      · rw [if_pos z2, if_neg (fun e => hab (by
          have := congrArg Prod.fst e
          simp only at this
          omega)), if_pos (by rw [z2]; rfl)]
      · rw [if_neg z2, if_neg (fun e => hab (by
          have := congrArg Prod.fst e
          simp only at this
          omega)), if_neg (fun e => z2 (by
          have := congrArg Prod.snd e
          simp only at this hr
          omega))]
    · rw [if_neg z3, if_neg (fun e => z (congrArg Prod.fst e)), if_neg (fun e => z3 (congrArg Prod.fst e))]
theorem cut_q [DecidableEq α] {f : α → α} {p q : α} (hpq : p ≠ q) : ∀ {P : List α}, Lnk f P q → p ∉ P → q ∉ P → Lnk (cut f p q) P (f p)
  | [], _, _, _ => trivial
  | x :: T, h, hp, hq => by
    refine ⟨?_, cut_q hpq h.2 (fun z => hp (List.mem_cons_of_mem _ z)) (fun z => hq (List.mem_cons_of_mem _ z))⟩
    unfold cut
    cases T with
    | nil =>
      have : f x = q := h.1
      rw [if_pos this]
      rfl
    | cons y T =>
      have : f x = y := h.1
      rw [this, if_neg (fun e => hq (by rw [← e]; simp)), if_neg (fun e => hp (by rw [← e]; simp))]
      rfl
theorem cut_p [DecidableEq α] {f : α → α} {p q : α} (hpq : p ≠ q) : ∀ {P : List α}, Lnk f P p → p ∉ P → q ∉ P → Lnk (cut f p q) P (f q)
  | [], _, _, _ => trivial
  | x :: T, h, hp, hq => by
    refine ⟨?_, cut_p hpq h.2 (fun z => hp (List.mem_cons_of_mem _ z)) (fun z => hq (List.mem_cons_of_mem _ z))⟩
    unfold cut
    cases T with
    | nil =>
      have : f x = p := h.1
      rw [if_neg (fun e => hpq (this.symm.trans e)), if_pos this]
      rfl
    | cons y T =>
      have : f x = y := h.1
      rw [this, if_neg (fun e => hq (by rw [← e]; simp)), if_neg (fun e => hp (by rw [← e]; simp))]
      rfl
theorem unt_cyc (hO : MapOk O) {a b : Nat} (hp : Way O (a, b)) {c : List (Nat × Nat)} (h : Cyc (cut (phi O) (a, b) (b, a)) c) (hw : ∀ w ∈ c, Way (untieO O a b) w) : Cyc (phi (untieO O a b)) c :=
  h.congr fun x hx => (unt_phi hO hp (hw x hx)).symm
theorem cut_stay [DecidableEq α] {f : α → α} {p q : α} {c : List α} (h : Cyc f c) (hp : p ∉ c) (hq : q ∉ c) : Cyc (cut f p q) c :=
  h.congr fun x hx => by
    have := h.in_ hx
    unfold cut
    rw [if_neg (fun e : f x = q => hq (e ▸ this)), if_neg (fun e : f x = p => hp (e ▸ this))]
def nel (P : List α) : List (List α) := match P with
  | [] => []
  | x :: t => [x :: t]
theorem nel_flat : ∀ P : List α, (nel P).flatten = P
  | [] => rfl
  | x :: t => by simp [nel]
/-- both ways in one ring: it falls apart -/
theorem split_dec (hO : MapOk O) {a b : Nat} (hp : Way O (a, b)) {P Q : List (Nat × Nat)} {R : List (List (Nat × Nat))} (h : Dec O (((a, b) :: (P ++ (b, a) :: Q)) :: R)) :
    Dec (untieO O a b) (nel P ++ (nel Q ++ R)) ∧ (P = [] ↔ nb O b = [(a : Int)]) ∧ (Q = [] ↔ nb O a = [(b : Int)]) := by
  have hq : Way O (b, a) := hO.sym b a hp
  have hab : a ≠ b := fun z => (hO.rng b a hp).2.2 (by omega)
  have hpq : ((a, b) : Nat × Nat) ≠ (b, a) := fun e => hab (congrArg Prod.fst e)
  have nd := h.nd
  rw [List.flatten_cons] at nd
  have n1 := List.nodup_append.mp nd
  obtain ⟨np, n2⟩ := List.nodup_cons.mp n1.1
  have n3 := List.nodup_append.mp n2
  obtain ⟨nq, n4⟩ := List.nodup_cons.mp n3.2.1
  have pP : (a, b) ∉ P := fun z => np (List.mem_append_left _ z)
  have pQ : (a, b) ∉ Q := fun z => np (List.mem_append_right _ (List.mem_cons_of_mem _ z))
  have qP : (b, a) ∉ P := fun z => n3.2.2 _ z _ List.mem_cons_self rfl
  have hc := h.cyc _ List.mem_cons_self
  obtain ⟨x, t, e, hl⟩ := hc
  obtain ⟨rfl, rfl⟩ := List.cons.inj e
  have l1 := hl.1
  obtain ⟨l2, l3⟩ := lnk_app.mp hl.2
  have l4 := l3.1
  have l5 := l3.2
  rw [headD_app] at l1
  have l1 : phi O (a, b) = P.headD (b, a) := l1
  have l2 : Lnk (phi O) P (b, a) := l2
  have hway : ∀ w, w ∈ P ++ (Q ++ R.flatten) ↔ Way (untieO O a b) w := fun w => by
    rw [unt_way hO hp, ← h.mem, List.flatten_cons]
    constructor
    · intro hw
      refine ⟨?_, fun e => ?_, fun e => ?_⟩
      · rcases List.mem_append.mp hw with hw | hw
        · simp [hw]
        · rcases List.mem_append.mp hw with hw | hw
          · simp [hw]
          · exact List.mem_append_right _ hw
      · rw [e] at hw
        rcases List.mem_append.mp hw with hw | hw
        · exact pP hw
        · rcases List.mem_append.mp hw with hw | hw
          · exact pQ hw
          · exact n1.2.2 _ List.mem_cons_self _ hw rfl
      · rw [e] at hw
        rcases List.mem_append.mp hw with hw | hw
        · exact qP hw
        · rcases List.mem_append.mp hw with hw | hw
          · exact nq hw
          · exact n1.2.2 (b, a) (by simp) _ hw rfl
    · rintro ⟨hw, w1, w2⟩
      rcases List.mem_append.mp hw with hw | hw
      · rcases List.mem_cons.mp hw with hw | hw
        · exact absurd hw w1
        · rcases List.mem_append.mp hw with hw | hw
          · exact List.mem_append_left _ hw
          · rcases List.mem_cons.mp hw with hw | hw
            · exact absurd hw w2
            · exact List.mem_append_right _ (List.mem_append_left _ hw)
      · exact List.mem_append_right _ (List.mem_append_right _ hw)
  have hflat : (nel P ++ (nel Q ++ R)).flatten = P ++ (Q ++ R.flatten) := by rw [List.flatten_append, List.flatten_append, nel_flat, nel_flat]
  have one : ∀ (l : List Int) (x : Int), l.Nodup → x ∈ l → (prv l x = x ↔ l = [x]) := fun l x nd hx => by
    constructor
    · intro h
      have hi := List.idxOf_lt_length_of_mem hx
      have hpr := pred_lt hi
      have e1 : l[pred l.length (l.idxOf x)] = x := by
        unfold prv at h
        rw [List.getD_eq_getElem?_getD, List.getElem?_eq_getElem hpr] at h
        exact h
      have e2 : l.idxOf x = pred l.length (l.idxOf x) := by
        conv => lhs; rw [← e1]
        exact nd.idxOf_getElem _ hpr
      have e3 : l.length = 1 := by
        unfold pred at e2
        split at e2 <;> omega
      obtain ⟨y, rfl⟩ := List.length_eq_one_iff.mp e3
      cases List.mem_singleton.mp hx
      rfl
    · rintro rfl
      unfold prv
      simp [pred]
  refine ⟨⟨fun c hc => ?_, ?_, fun w => by rw [hflat]; exact hway w⟩, ?_, ?_⟩
  · rcases List.mem_append.mp hc with hc | hc
    · cases P with
      | nil => cases hc
      | cons x t =>
        cases List.mem_singleton.mp hc
        refine unt_cyc hO hp ⟨x, t, rfl, ?_⟩ fun w hw => (hway w).mp (List.mem_append_left _ hw)
        have := cut_q hpq l2 pP qP
        rw [l1] at this
        exact this
    · rcases List.mem_append.mp hc with hc | hc
      · cases Q with
        | nil => cases hc
        | cons x t =>
          cases List.mem_singleton.mp hc
          refine unt_cyc hO hp ⟨x, t, rfl, ?_⟩ fun w hw => (hway w).mp (List.mem_append_right _ (List.mem_append_left _ hw))
          have := cut_p hpq l5 pQ nq
          rw [l4] at this
          exact this
      · have hin : ∀ w ∈ c, w ∈ R.flatten := fun w hw => List.mem_flatten.mpr ⟨c, hc, hw⟩
        refine unt_cyc hO hp (cut_stay (h.cyc c (List.mem_cons_of_mem _ hc)) (fun z => n1.2.2 _ List.mem_cons_self _ (hin _ z) rfl) (fun z => n1.2.2 (b, a) (by simp) _ (hin _ z) rfl)) fun w hw => (hway w).mp (List.mem_append_right _ (List.mem_append_right _ (hin w hw)))
  · rw [hflat]
    refine List.nodup_append.mpr ⟨n3.1, List.nodup_append.mpr ⟨n4, n1.2.1, fun x hx y hy => n1.2.2 x (by simp [hx]) y hy⟩, fun x hx y hy e => ?_⟩
    rcases List.mem_append.mp hy with hy | hy
    · exact n3.2.2 x hx y (List.mem_cons_of_mem _ hy) e
    · exact n1.2.2 x (by simp [hx]) y hy e
  · rw [← one (nb O b) a (hO.nd b) hp]
    have e0 : phi O (a, b) = (b, (prv (nb O b) a).toNat) := rfl
    have hm := nx_mem hp
    rw [nx_prv] at hm
    have hr := hO.rng _ _ hm
    constructor
    · intro z
      rw [z] at l1
      rw [e0] at l1
      have := congrArg Prod.snd l1
      have : (prv (nb O b) (a : Int)).toNat = a := this
      simp only at hr
      omega
    · intro z
      cases P with
      | nil => rfl
      | cons x t =>
        have : x = (b, a) := by
          rw [e0, z] at l1
          exact l1.symm
        exact absurd (by rw [this]; simp) qP
  · rw [← one (nb O a) b (hO.nd a) hq]
    have e0 : phi O (b, a) = (a, (prv (nb O a) b).toNat) := rfl
    have hm := nx_mem hq
    rw [nx_prv] at hm
    have hr := hO.rng _ _ hm
    have l4 : phi O (b, a) = Q.headD (a, b) := l4
    constructor
    · intro z
      rw [z] at l4
      rw [e0] at l4
      have := congrArg Prod.snd l4
      have : (prv (nb O a) (b : Int)).toNat = b := this
      simp only at hr
      omega
    · intro z
      cases Q with
      | nil => rfl
      | cons x t =>
        have : x = (a, b) := by
          rw [e0, z] at l4
          exact l4.symm
        exact absurd (by rw [this]; simp) pQ
/-- the ways in unlike rings: these become one -/
theorem join_dec (hO : MapOk O) {a b : Nat} (hp : Way O (a, b)) {P Q : List (Nat × Nat)} {R : List (List (Nat × Nat))} (h : Dec O (((a, b) :: P) :: ((b, a) :: Q) :: R)) :
    Dec (untieO O a b) ((P ++ Q) :: R) ∧ P ≠ [] ∧ Q ≠ [] ∧ (∀ w ∈ P ++ Q, Way (untieO O a b) w) ∧ Lnk (phi O) P (a, b) ∧ Lnk (phi O) Q (b, a) ∧ phi O (a, b) = P.headD (a, b) ∧ phi O (b, a) = Q.headD (b, a) := by
  have hq : Way O (b, a) := hO.sym b a hp
  have hab : a ≠ b := fun z => (hO.rng b a hp).2.2 (by omega)
  have hpq : ((a, b) : Nat × Nat) ≠ (b, a) := fun e => hab (congrArg Prod.fst e)
  have nd := h.nd
  rw [List.flatten_cons, List.flatten_cons] at nd
  have n1 := List.nodup_append.mp nd
  obtain ⟨pP, n2⟩ := List.nodup_cons.mp n1.1
  have n3 := List.nodup_append.mp n1.2.1
  obtain ⟨qQ, n4⟩ := List.nodup_cons.mp n3.1
  have qP : (b, a) ∉ P := fun z => n1.2.2 _ (List.mem_cons_of_mem _ z) (b, a) (by simp) rfl
  have pQ : (a, b) ∉ Q := fun z => n1.2.2 _ List.mem_cons_self (a, b) (by simp [z]) rfl
  have pR : (a, b) ∉ R.flatten := fun z => n1.2.2 _ List.mem_cons_self (a, b) (by simp only [List.mem_append]; exact .inr z) rfl
  have qR : (b, a) ∉ R.flatten := fun z => n3.2.2 _ List.mem_cons_self _ z rfl
  obtain ⟨x, t, e, hl⟩ := h.cyc _ List.mem_cons_self
  obtain ⟨rfl, rfl⟩ := List.cons.inj e
  obtain ⟨x, t, e, hl'⟩ := h.cyc _ (List.mem_cons_of_mem _ List.mem_cons_self)
  obtain ⟨rfl, rfl⟩ := List.cons.inj e
  have l1 : phi O (a, b) = P.headD (a, b) := hl.1
  have l2 : phi O (b, a) = Q.headD (b, a) := hl'.1
  have hP : P ≠ [] := fun z => by
    rw [z] at l1
    exact hab (congrArg Prod.fst l1).symm
  have hQ : Q ≠ [] := fun z => by
    rw [z] at l2
    exact hab (congrArg Prod.fst l2)
  have hway : ∀ w, w ∈ ((P ++ Q) :: R).flatten ↔ Way (untieO O a b) w := fun w => by
    rw [unt_way hO hp, ← h.mem, List.flatten_cons, List.flatten_cons, List.flatten_cons]
    constructor
    · intro hw
      refine ⟨?_, fun e => ?_, fun e => ?_⟩
      · rcases List.mem_append.mp hw with hw | hw
        · rcases List.mem_append.mp hw with hw | hw
          · simp [hw]
          · simp [hw]
        · simp only [List.mem_append]
          exact .inr (.inr hw)
      · rw [e] at hw
        rcases List.mem_append.mp hw with hw | hw
        · exact (List.mem_append.mp hw).elim pP pQ
        · exact pR hw
      · rw [e] at hw
        rcases List.mem_append.mp hw with hw | hw
        · exact (List.mem_append.mp hw).elim qP qQ
        · exact qR hw
    · rintro ⟨hw, w1, w2⟩
      rcases List.mem_append.mp hw with hw | hw
      · rcases List.mem_cons.mp hw with hw | hw
        · exact absurd hw w1
        · simp [hw]
      · rcases List.mem_append.mp hw with hw | hw
        · rcases List.mem_cons.mp hw with hw | hw
          · exact absurd hw w2
          · simp [hw]
        · exact List.mem_append_right _ hw
  have hPQ : ∀ w ∈ P ++ Q, Way (untieO O a b) w := fun w hw => (hway w).mp (by rw [List.flatten_cons]; exact List.mem_append_left _ hw)
  refine ⟨⟨fun c hc => ?_, ?_, hway⟩, hP, hQ, hPQ, hl.2, hl'.2, l1, l2⟩
  · rcases List.mem_cons.mp hc with rfl | hc
    · obtain ⟨x, t, eP⟩ := List.exists_cons_of_ne_nil hP
      obtain ⟨y, t', eQ⟩ := List.exists_cons_of_ne_nil hQ
      have c1 := cut_p hpq hl.2 pP qP
      have c2 := cut_q hpq hl'.2 pQ qQ
      rw [l2, eQ] at c1
      rw [l1, eP] at c2
      refine unt_cyc hO hp ⟨x, t ++ Q, by rw [eP]; rfl, lnk_app.mpr ⟨?_, c2⟩⟩ hPQ
      rw [eQ]
      exact c1
    · have hin : ∀ w ∈ c, w ∈ R.flatten := fun w hw => List.mem_flatten.mpr ⟨c, hc, hw⟩
      exact unt_cyc hO hp (cut_stay (h.cyc c (by simp [hc])) (fun z => pR (hin _ z)) (fun z => qR (hin _ z))) fun w hw => (hway w).mp (by rw [List.flatten_cons]; exact List.mem_append_right _ (hin w hw))
  · rw [List.flatten_cons]
    refine List.nodup_append.mpr ⟨List.nodup_append.mpr ⟨n2, n4, fun x hx y hy e => n1.2.2 x (List.mem_cons_of_mem _ hx) y (by simp [hy]) e⟩, n3.2.1, fun x hx y hy e => ?_⟩
    rcases List.mem_append.mp hx with hx | hx
    · exact n1.2.2 x (List.mem_cons_of_mem _ hx) y (by simp only [List.mem_append]; exact .inr hy) e
    · exact n3.2.2 x (List.mem_cons_of_mem _ hx) y hy e
end Ow.M
end
section
set_option linter.all false
set_option exponentiation.threshold 100000
set_option maxHeartbeats 1000000
/-! MEuler2: the count of a map that hangs together. -/
namespace Ow.M
open PySem L2 Ow Ow.P Ow.Lib
variable {O : List (List Int)}
inductive Rc (O : List (List Int)) : Nat → Nat → Prop
  | refl (x : Nat) : Rc O x x
  | step {r x y : Nat} : Rc O r x → (y : Int) ∈ nb O x → Rc O r y
theorem Rc.trans {r x y : Nat} (h : Rc O r x) (k : Rc O x y) : Rc O r y := by
  induction k with
  | refl => exact h
  | step _ e ih => exact .step ih e
def Cov (O : List (List Int)) (R : List Nat) : Prop := ∀ x, x < O.length → ∃ r ∈ R, Rc O r x
/-! ### places alone -/
def sumN (n : Nat) (f : Nat → Nat) : Nat := ((List.range n).map f).sum
theorem sumN_succ (n : Nat) (f : Nat → Nat) : sumN (n + 1) f = sumN n f + f n := by
  unfold sumN
  rw [List.range_succ, List.map_append, List.sum_append]
  simp
theorem sumN_congr {f g : Nat → Nat} : ∀ {n : Nat}, (∀ v, v < n → f v = g v) → sumN n f = sumN n g
  | 0, _ => rfl
  | n + 1, h => by rw [sumN_succ, sumN_succ, sumN_congr fun v hv => h v (by omega), h n (by omega)]
theorem sumN_all : ∀ n, sumN n (fun _ => 1) = n
  | 0 => rfl
  | n + 1 => by rw [sumN_succ, sumN_all n]
theorem sumN_one {f g : Nat → Nat} {a : Nat} : ∀ {n : Nat}, a < n → (∀ v, v < n → v ≠ a → f v = g v) → sumN n g + f a = sumN n f + g a
  | n + 1, ha, h => by
    rw [sumN_succ, sumN_succ]
    by_cases z : a = n
    · subst z
      rw [sumN_congr (f := f) (g := g) fun v hv => h v (by omega) (by omega)]
      omega
    · have := sumN_one (n := n) (by omega) fun v hv => h v (by omega)
      have := h n (by omega) (by omega)
      omega
theorem sumN_two {f g : Nat → Nat} {n a b : Nat} (ha : a < n) (hb : b < n) (hab : a ≠ b) (h : ∀ v, v < n → v ≠ a → v ≠ b → f v = g v) : sumN n g + f a + f b = sumN n f + g a + g b := by
  have h1 := sumN_one (f := f) (g := fun v => if v = a then g a else f v) ha fun v _ hv => by rw [if_neg hv]
  have h2 := sumN_one (f := fun v => if v = a then g a else f v) (g := g) hb fun v hv hvb => by
    by_cases z : v = a
    · subst z; rw [if_pos rfl]
    · rw [if_neg z]; exact h v hv z hvb
  simp only [if_pos rfl, if_true] at h1
  simp only [if_neg (Ne.symm hab)] at h2
  omega
def em (l : List Int) : Nat := if l = [] then 1 else 0
theorem lone_sum (O : List (List Int)) : lone O = sumN O.length fun v => em (nb O v) := by
  have : ∀ l : List (List Int), (l.filter fun x => decide (x = [])).length = (l.map em).sum := fun l => by
    induction l with
    | nil => rfl
    | cons x l ih =>
      rw [List.map_cons, List.sum_cons, ← ih]
      by_cases z : x = []
      · rw [List.filter_cons_of_pos (by simpa using z)]
        unfold em
        rw [if_pos z]
        simp
        omega
      · rw [List.filter_cons_of_neg (by simpa using z)]
        unfold em
        rw [if_neg z]
        simp
  unfold lone sumN
  rw [this]
  congr 1
  refine List.ext_getElem? fun i => ?_
  rw [List.getElem?_map, List.getElem?_map]
  by_cases h : i < O.length
  · rw [List.getElem?_range h, nb_get h]
    rfl
  · rw [List.getElem?_eq_none (by omega), List.getElem?_eq_none (by simpa using h)]
    rfl
theorem unt_lone (hO : MapOk O) {a b : Nat} (hp : Way O (a, b)) : lone (untieO O a b) = lone O + (if nb O a = [(b : Int)] then 1 else 0) + (if nb O b = [(a : Int)] then 1 else 0) := by
  have hl := hp.lt hO
  have hq : (b : Int) ∈ nb O a := hO.sym b a hp
  have hpm : (a : Int) ∈ nb O b := hp
  have hab : a ≠ b := fun z => (hO.rng b a hp).2.2 (by omega)
  have h := sumN_two (f := fun v => em (nb O v)) (g := fun v => em (nb (untieO O a b) v)) hl.1 hl.2 hab fun v _ h1 h2 => by
    rw [untieO_nb hl.1 hl.2, if_neg h2, if_neg h1]
  have er : ∀ (l : List Int) (x : Int), x ∈ l → em l = 0 ∧ em (l.erase x) = if l = [x] then 1 else 0 := fun l x hx => by
    constructor
    · unfold em
      rw [if_neg (fun z => by rw [z] at hx; cases hx)]
    · unfold em
      by_cases z : l = [x]
      · rw [if_pos z, z]
        simp
      · rw [if_neg z, if_neg]
        intro z2
        have hl := List.length_erase_of_mem hx
        rw [z2] at hl
        have : 0 < l.length := List.length_pos_of_mem hx
        obtain ⟨y, rfl⟩ := List.length_eq_one_iff.mp (show l.length = 1 by simp at hl; omega)
        cases List.mem_singleton.mp hx
        exact z rfl
  have ea : em (nb (untieO O a b) a) = if nb O a = [(b : Int)] then 1 else 0 := by
    rw [untieO_nb hl.1 hl.2, if_neg hab, if_pos rfl, (er _ _ hq).2]
  have eb : em (nb (untieO O a b) b) = if nb O b = [(a : Int)] then 1 else 0 := by
    rw [untieO_nb hl.1 hl.2, if_pos rfl, (er _ _ hpm).2]
  have za : em (nb O a) = 0 := (er _ _ hq).1
  have zb : em (nb O b) = 0 := (er _ _ hpm).1
  simp only [ea, eb, za, zb] at h
  rw [lone_sum, lone_sum, untieO_len]
  omega
/-! ### what is come to when a tie is out -/
theorem unt_edge (hO : MapOk O) {a b : Nat} (hp : Way O (a, b)) {x y : Nat} (h : (y : Int) ∈ nb O x) : (x = a ∧ y = b) ∨ (x = b ∧ y = a) ∨ (y : Int) ∈ nb (untieO O a b) x := by
  have hl := hp.lt hO
  have hab : a ≠ b := fun z => (hO.rng b a hp).2.2 (by omega)
  by_cases z : x = a ∧ y = b
  · exact .inl z
  · by_cases z2 : x = b ∧ y = a
    · exact .inr (.inl z2)
    · exact .inr (.inr ((untieO_mem hO hl.1 hl.2 hab x y).mpr ⟨h, fun e => z ⟨e.1, by omega⟩, fun e => z2 ⟨e.1, by omega⟩⟩))
theorem rc_first (hO : MapOk O) {a b : Nat} (hp : Way O (a, b)) {r x : Nat} (h : Rc O r x) : Rc (untieO O a b) r x ∨ Rc (untieO O a b) r a ∨ Rc (untieO O a b) r b := by
  induction h with
  | refl => exact .inl (.refl _)
  | step _ e ih =>
    rcases ih with ih | ih
    · rcases unt_edge hO hp e with ⟨h1, _⟩ | ⟨h1, _⟩ | h1
      · subst h1; exact .inr (.inl ih)
      · subst h1; exact .inr (.inr ih)
      · exact .inl (.step ih h1)
    · exact .inr ih
theorem rc_last (hO : MapOk O) {a b : Nat} (hp : Way O (a, b)) {r x : Nat} (h : Rc O r x) : Rc (untieO O a b) r x ∨ Rc (untieO O a b) a x ∨ Rc (untieO O a b) b x := by
  induction h with
  | refl => exact .inl (.refl _)
  | step _ e ih =>
    rcases unt_edge hO hp e with ⟨_, h1⟩ | ⟨_, h1⟩ | h1
    · subst h1; exact .inr (.inr (.refl _))
    · subst h1; exact .inr (.inl (.refl _))
    · rcases ih with ih | ih | ih
      · exact .inl (.step ih h1)
      · exact .inr (.inl (.step ih h1))
      · exact .inr (.inr (.step ih h1))
theorem rc_all (hO : MapOk O) {a b : Nat} (hp : Way O (a, b)) (h1 : Rc (untieO O a b) a b) (h2 : Rc (untieO O a b) b a) {r x : Nat} (h : Rc O r x) : Rc (untieO O a b) r x := by
  induction h with
  | refl => exact .refl _
  | step _ e ih =>
    rcases unt_edge hO hp e with ⟨z1, z2⟩ | ⟨z1, z2⟩ | z
    · subst z1; subst z2; exact ih.trans h1
    · subst z1; subst z2; exact ih.trans h2
    · exact .step ih z
theorem way_rc (hO : MapOk O) {w : Nat × Nat} (h : Way O w) : Rc O w.1 w.2 := .step (.refl _) (hO.sym _ _ h)
theorem rc_lnk {O' : List (List Int)} (hO' : MapOk O') {e : Nat × Nat} : ∀ (t : List (Nat × Nat)) (x : Nat × Nat), Lnk (phi O) (x :: t) e → (∀ w ∈ x :: t, Way O' w) → Rc O' x.1 e.1
  | [], x, h, hw => by
    have hx := way_rc hO' (hw x List.mem_cons_self)
    have : phi O x = e := h.1
    rw [← this]
    exact hx
  | y :: t, x, h, hw => by
    have hx := way_rc hO' (hw x List.mem_cons_self)
    have : phi O x = y := h.1
    have ih := rc_lnk hO' t y h.2 fun w hw2 => hw w (List.mem_cons_of_mem _ hw2)
    rw [← this] at ih
    exact hx.trans ih
theorem nel_len {α : Type} (P : List α) : (nel P).length = if P = [] then 0 else 1 := by
  cases P <;> simp [nel]
theorem euler : ∀ (k : Nat) {O : List (List Int)}, MapOk O → ∀ {C : List (List (Nat × Nat))}, Dec O C → C.flatten.length ≤ k → ∀ {R : List Nat}, (∀ r ∈ R, r < O.length) → Cov O R →
    ∃ g, 2 * O.length + 2 * C.length + 2 * lone O + 4 * g = C.flatten.length + 4 * R.length
  | k, O, hO, C, h, hk, R, hR, hC => by
    by_cases z : C.flatten = []
    · have hno : ∀ x y : Nat, (y : Int) ∉ nb O x := fun x y hy => by
        have : Way O (y, x) := hy
        have := (h.mem _).mpr this
        rw [z] at this
        cases this
      have hno' : ∀ x, nb O x = [] := fun x => by
        cases q : nb O x with
        | nil => rfl
        | cons y t =>
          have hy : y ∈ nb O x := by rw [q]; exact List.mem_cons_self
          have hr := hO.rng x y hy
          obtain ⟨c, rfl⟩ : ∃ c : Nat, y = (c : Int) := ⟨y.toNat, by omega⟩
          exact absurd hy (hno x c)
      have hC0 : C = [] := by
        cases C with
        | nil => rfl
        | cons c C =>
          have := (h.cyc c List.mem_cons_self).ne
          rw [List.flatten_cons] at z
          exact absurd (List.append_eq_nil_iff.mp z).1 this
      have hl : lone O = O.length := by
        have e1 : sumN O.length (fun v => em (nb O v)) = sumN O.length (fun _ => 1) := sumN_congr fun v _ => by
          rw [hno' v]
          rfl
        rw [lone_sum, e1, sumN_all]
      have hRn : O.length ≤ R.length := by
        have := List.Nodup.length_le_of_subset (List.nodup_range (n := O.length)) (l₂ := R) fun x hx => by
          obtain ⟨r, hr, hrc⟩ := hC x (List.mem_range.mp hx)
          cases hrc with
          | refl => exact hr
          | step _ e => exact absurd e (hno _ _)
        simpa using this
      refine ⟨R.length - O.length, ?_⟩
      rw [hl, hC0]
      simp
      omega
    · obtain ⟨p, t, e⟩ := List.exists_cons_of_ne_nil z
      have hpW : Way O p := (h.mem p).mp (by rw [e]; exact List.mem_cons_self)
      obtain ⟨a, b⟩ := p
      have hq : Way O (b, a) := hO.sym b a hpW
      have hl := hpW.lt hO
      have hab : a ≠ b := fun z => (hO.rng b a hpW).2.2 (by omega)
      have hO' := untieO_ok hO hl.1 hl.2 hab
      obtain ⟨T, S, hd, e1, e2⟩ := h.front hpW
      have hlone := unt_lone hO hpW
      match k, hk with
      | 0, hk => exact absurd (List.length_eq_zero_iff.mp (by omega)) z
      | k + 1, hk => ?_
      by_cases hqT : (b, a) ∈ T
      · obtain ⟨P, Q, rfl⟩ := List.append_of_mem hqT
        obtain ⟨d', pe, qe⟩ := split_dec hO hpW hd
        have hfl : (nel P ++ (nel Q ++ S)).flatten.length + 2 = C.flatten.length := by
          rw [e2, List.flatten_append, List.flatten_append, nel_flat, nel_flat, List.flatten_cons]
          simp
          omega
        have hcl : (nel P ++ (nel Q ++ S)).length = (if P = [] then 0 else 1) + (if Q = [] then 0 else 1) + S.length := by
          rw [List.length_append, List.length_append, nel_len, nel_len]
          omega
        have hsum : (if P = [] then 0 else 1) + (if nb O b = [(a : Int)] then 1 else 0) = 1 := by
          by_cases y : P = []
          · rw [if_pos y, if_pos (pe.mp y)]
          · rw [if_neg y, if_neg (fun w => y (pe.mpr w))]
        have hsum2 : (if Q = [] then 0 else 1) + (if nb O a = [(b : Int)] then 1 else 0) = 1 := by
          by_cases y : Q = []
          · rw [if_pos y, if_pos (qe.mp y)]
          · rw [if_neg y, if_neg (fun w => y (qe.mpr w))]
        obtain ⟨r0, hr0, hrc0⟩ := hC a hl.1
        have hz : ∃ z, z < O.length ∧ Cov (untieO O a b) (R ++ [z]) := by
          have hcov : ∀ z y, (Rc (untieO O a b) r0 y) → ((z = a ∧ y = b) ∨ (z = b ∧ y = a)) → Cov (untieO O a b) (R ++ [z]) := fun z y hy hzy x hx => by
            rw [untieO_len] at hx
            obtain ⟨r, hr, hrx⟩ := hC x hx
            rcases rc_last hO hpW hrx with h1 | h1 | h1
            · exact ⟨r, List.mem_append_left _ hr, h1⟩
            · rcases hzy with ⟨rfl, rfl⟩ | ⟨rfl, rfl⟩
              · exact ⟨z, by simp, h1⟩
              · exact ⟨r0, List.mem_append_left _ hr0, hy.trans h1⟩
            · rcases hzy with ⟨rfl, rfl⟩ | ⟨rfl, rfl⟩
              · exact ⟨r0, List.mem_append_left _ hr0, hy.trans h1⟩
              · exact ⟨z, by simp, h1⟩
          rcases rc_first hO hpW hrc0 with h1 | h1 | h1
          · exact ⟨b, hl.2, hcov b a h1 (.inr ⟨rfl, rfl⟩)⟩
          · exact ⟨b, hl.2, hcov b a h1 (.inr ⟨rfl, rfl⟩)⟩
          · exact ⟨a, hl.1, hcov a b h1 (.inl ⟨rfl, rfl⟩)⟩
        obtain ⟨z', hz', hcov⟩ := hz
        obtain ⟨g, hg⟩ := euler k hO' d' (by omega) (R := R ++ [z']) (fun r hr => by
          rw [untieO_len]
          rcases List.mem_append.mp hr with hr | hr
          · exact hR r hr
          · cases List.mem_singleton.mp hr
            exact hz') hcov
        refine ⟨g, ?_⟩
        rw [untieO_len, hcl, hlone, List.length_append] at hg
        simp only [List.length_singleton] at hg
        omega
      · have hqS : (b, a) ∈ S.flatten := by
          have := (hd.mem _).mpr hq
          rw [List.flatten_cons] at this
          rcases List.mem_append.mp this with h | h
          · rcases List.mem_cons.mp h with h | h
            · exact absurd (congrArg Prod.fst h).symm hab
            · exact absurd h hqT
          · exact h
        obtain ⟨c, hc, hqc⟩ := List.mem_flatten.mp hqS
        obtain ⟨A, B, rfl⟩ := List.append_of_mem hc
        obtain ⟨Q, h1, h2⟩ := (hd.cyc c (by simp)).at_ hqc
        have hperm : (((a, b) :: T) :: ((b, a) :: Q) :: (A ++ B)).flatten.Perm (((a, b) :: T) :: (A ++ c :: B)).flatten := by
          rw [List.flatten_cons, List.flatten_cons (L := A ++ c :: B), List.flatten_cons, List.flatten_append, List.flatten_append, List.flatten_cons]
          refine List.Perm.append_left _ ((List.perm_append_comm_assoc _ _ _).trans ?_)
          exact List.Perm.append_left _ (List.Perm.append_right _ h2)
        have hd2 := hd.perm hperm fun d hdm => by
          rcases List.mem_cons.mp hdm with rfl | hdm
          · exact hd.cyc _ List.mem_cons_self
          · rcases List.mem_cons.mp hdm with rfl | hdm
            · exact h1
            · rcases List.mem_append.mp hdm with hdm | hdm
              · exact hd.cyc d (by simp [hdm])
              · exact hd.cyc d (by simp [hdm])
        obtain ⟨d', hP, hQ, hW, lP, lQ, eP, eQ⟩ := join_dec hO hpW hd2
        have hfl : ((T ++ Q) :: (A ++ B)).flatten.length + 2 = C.flatten.length := by
          rw [e2, ← hperm.length_eq, List.flatten_cons, List.flatten_cons, List.flatten_cons]
          simp
          omega
        have nbne : nb O b ≠ [(a : Int)] := fun z => by
          have : phi O (a, b) = (b, a) := by
            show (b, (prv (nb O b) a).toNat) = (b, a)
            rw [z]
            simp [prv, pred]
          rw [this] at eP
          cases T with
          | nil => exact hP rfl
          | cons x t => exact hqT (by rw [show x = (b, a) from eP.symm]; exact List.mem_cons_self)
        have nane : nb O a ≠ [(b : Int)] := fun z => by
          have : phi O (b, a) = (a, b) := by
            show (a, (prv (nb O a) b).toNat) = (a, b)
            rw [z]
            simp [prv, pred]
          rw [this] at eQ
          cases Q with
          | nil => exact hQ rfl
          | cons x t =>
            have nd := hd2.nd
            rw [List.flatten_cons, List.flatten_cons] at nd
            exact (List.nodup_append.mp nd).2.2 (a, b) List.mem_cons_self (a, b) (by rw [show x = (a, b) from eQ.symm]; simp) rfl
        have r1 : Rc (untieO O a b) b a := by
          obtain ⟨x, t, e⟩ := List.exists_cons_of_ne_nil hP
          rw [e] at eP lP
          have := rc_lnk hO' t x lP fun w hw => hW w (List.mem_append_left _ (by rw [e]; exact hw))
          have ex : x.1 = b := (congrArg Prod.fst eP).symm
          rw [ex] at this
          exact this
        have r2 : Rc (untieO O a b) a b := by
          obtain ⟨x, t, e⟩ := List.exists_cons_of_ne_nil hQ
          rw [e] at eQ lQ
          have := rc_lnk hO' t x lQ fun w hw => hW w (List.mem_append_right _ (by rw [e]; exact hw))
          have ex : x.1 = a := (congrArg Prod.fst eQ).symm
          rw [ex] at this
          exact this
        obtain ⟨g, hg⟩ := euler k hO' d' (by omega) (R := R) (fun r hr => by rw [untieO_len]; exact hR r hr) fun x hx => by
          rw [untieO_len] at hx
          obtain ⟨r, hr, hrx⟩ := hC x hx
          exact ⟨r, hr, rc_all hO hpW r2 r1 hrx⟩
        refine ⟨g, ?_⟩
        rw [untieO_len, hlone, if_neg nane, if_neg nbne] at hg
        simp only [List.length_cons, List.length_append] at hg e1
        omega
end Ow.M
end
section
set_option linter.all false
set_option exponentiation.threshold 100000
set_option maxHeartbeats 1000000
/-! MHang: what the program comes to; the count at last. -/
namespace Ow.M
open PySem L2 Ow Ow.P Ow.Lib
variable {O : List (List Int)}
def bt (ks : List Int) : List (Int × Bool) := ks.map fun k => (k, true)
@[simp] theorem bt_len (ks : List Int) : (bt ks).length = ks.length := by simp [bt]
theorem bt_keys (ks : List Int) : (bt ks).map (·.1) = ks := by unfold bt; rw [List.map_map]; exact List.map_id' _
theorem bt_has {ks : List Int} {x : Int} : pHas (bt ks) x = decide (x ∈ ks) := by
  by_cases z : x ∈ ks
  · rw [(pHas_iff).mpr (by rw [bt_keys]; exact z)]; simp [z]
  · cases q : pHas (bt ks) x with
    | false => simp [z]
    | true => exact absurd (by have := pHas_iff.mp q; rwa [bt_keys] at this) z
theorem bt_put {ks : List Int} {x : Int} (h : x ∉ ks) (hz : ks.length < 1000000) : pPut (bt ks) x true = .ok (bt (ks ++ [x])) := by
  rw [pPut_ok (by simpa using hz), pPutK_new (by rw [bt_keys]; exact h)]
  unfold bt
  rw [List.map_append]
  rfl
/-- while the neighbours of a place are looked at -/
structure CtIn (O : List (List Int)) (start : Int) (gone ks row : List Int) (v j : Nat) : Prop where
  nd : ks.Nodup
  rng : ∀ x ∈ ks, 0 ≤ x ∧ x < (O.length : Int)
  st : start ∈ ks
  rc : ∀ x ∈ ks, Rch O start gone x
  vk : (v : Int) ∈ ks
  rowk : ∀ x ∈ row, x ∈ ks
  rnd : row.Nodup
  cl : ∀ y : Nat, (y : Int) ∈ ks → y ≠ v → (y : Int) ∉ row → ∀ u ∈ nb O y, u ∉ gone → u ∈ ks
  done : ∀ (i : Nat) (u : Int), i < j → (nb O v)[i]? = some u → u ∉ gone → u ∈ ks
theorem come_ok (hO : MapOk O) (hn : O.length ≤ 100) {start : Nat} (hs : start < O.length) (gone : List Int) : ∃ ks, p_come_to O start gone = .ok (bt ks) ∧ CtInv O start gone ks [] := by
  suffices h : Ok (p_come_to O start gone) (fun r => ∃ ks, r = bt ks ∧ CtInv O start gone ks []) by
    obtain ⟨r, e, ks, rfl, h⟩ := h
    exact ⟨ks, e, h⟩
  unfold p_come_to
  have e0 : pPut ([] : List (Int × Bool)) (start : Int) true = .ok (bt [(start : Int)]) := bt_put (ks := []) (by simp) (by simp)
  rw [ok_bind, e0, ok_bind, ok_bind]
  refine Ok.wh (fun s => ∃ ks row, s = (bt ks, row) ∧ CtInv O start gone ks row) (fun s => 2 * (O.length - s.1.length) + s.2.length) ⟨[(start : Int)], [(start : Int)], rfl, ⟨List.nodup_cons.mpr ⟨List.not_mem_nil, .nil⟩, fun x hx => by cases List.mem_singleton.mp hx; omega, List.mem_singleton.mpr rfl, fun x hx => by cases List.mem_singleton.mp hx; exact .zero, fun x hx => hx, List.nodup_cons.mpr ⟨List.not_mem_nil, .nil⟩, fun v hv hn => absurd hv hn⟩⟩ ?_
  rintro s ⟨ks, row, rfl, hI⟩
  refine ⟨decide (row ≠ []), rfl, fun q => ?_, fun q => ?_⟩
  · have : row = [] := by simpa using q
    subst this
    exact Ok.ret ⟨ks, rfl, hI⟩
  · have hne : row ≠ [] := by simpa using q
    obtain ⟨row', v, rfl⟩ : ∃ r v, row = r ++ [v] := ⟨row.dropLast, row.getLast hne, (List.dropLast_concat_getLast hne).symm⟩
    have hvk := hI.rowk v (by simp)
    have hvr := hI.rng v hvk
    obtain ⟨w, rfl⟩ : ∃ w : Nat, v = (w : Int) := ⟨v.toNat, by omega⟩
    have hw : w < O.length := by omega
    have hkl := room_of hI.nd hI.rng
    have nr := List.nodup_append.mp hI.rnd
    have hvn : (w : Int) ∉ row' := fun z => nr.2.2 _ z _ List.mem_cons_self rfl
    show Ok (((pPop (row' ++ [(w : Int)]) >>= fun w47 => pAt O w47.1 >>= fun l48 => .ok (l48, w47)) >>= _) : Res _) _
    rw [pPop_ok, ok_bind, pAt_nb hw, ok_bind, ok_bind]
    refine Ok.forL (fun j s => ∃ ks2 row2, s = (bt ks2, row2) ∧ CtIn O start gone ks2 row2 w j ∧ 2 * (O.length - ks2.length) + row2.length ≤ 2 * (O.length - ks.length) + row'.length) ⟨ks, row', rfl, ⟨hI.nd, hI.rng, hI.st, hI.rc, hvk, fun x hx => hI.rowk x (by simp [hx]), nr.1, fun y hy hyv hyr => hI.cl y hy fun z => by
        rcases List.mem_append.mp z with z | z
        · exact hyr z
        · have := List.mem_singleton.mp z
          omega, fun i u hi => absurd hi (Nat.not_lt_zero _)⟩, Nat.le_refl _⟩ ?_ ?_
    · rintro j u s hu ⟨ks2, row2, rfl, h2, hm⟩
      have hun : u ∈ nb O w := List.mem_of_getElem? hu
      have hur := hO.rng w u hun
      have hk2 := room_of h2.nd h2.rng
      have hr2 : row2.length ≤ ks2.length := List.Nodup.length_le_of_subset h2.rnd h2.rowk
      simp only [bt_has]
      by_cases z : u ∈ ks2 ∨ u ∈ gone
      · have ec : ((!decide (u ∈ ks2)) && decide (u ∉ gone)) = false := by
          rcases z with z | z <;> simp [z]
        rw [ec, ok_bind, if_neg (by decide)]
        refine Ok.ret ⟨ks2, row2, rfl, ⟨h2.nd, h2.rng, h2.st, h2.rc, h2.vk, h2.rowk, h2.rnd, h2.cl, fun i x hi hx hg => ?_⟩, hm⟩
        by_cases z3 : i = j
        · subst z3
          rw [hu] at hx
          cases hx
          exact z.resolve_right hg
        · exact h2.done i x (by omega) hx hg
      · have z1 : u ∉ ks2 := fun h => z (.inl h)
        have z2 : u ∉ gone := fun h => z (.inr h)
        have ec : ((!decide (u ∈ ks2)) && decide (u ∉ gone)) = true := by simp [z1, z2]
        rw [ec, ok_bind, if_pos rfl, bt_put z1 (by omega), ok_bind, pApp_ok (by omega), ok_bind]
        have hnr : u ∉ row2 := fun h => z1 (h2.rowk u h)
        have nd2 : (ks2 ++ [u]).Nodup := List.nodup_append.mpr ⟨h2.nd, List.nodup_cons.mpr ⟨List.not_mem_nil, .nil⟩, fun a ha b hb e => by cases List.mem_singleton.mp hb; exact z1 (e ▸ ha)⟩
        have rng2 : ∀ x ∈ ks2 ++ [u], 0 ≤ x ∧ x < (O.length : Int) := fun x hx => by
          rcases List.mem_append.mp hx with hx | hx
          · exact h2.rng x hx
          · cases List.mem_singleton.mp hx
            exact ⟨hur.1, hur.2.1⟩
        have hk3 := room_of nd2 rng2
        rw [List.length_append] at hk3
        refine Ok.ret ⟨ks2 ++ [u], row2 ++ [u], rfl, ⟨nd2, rng2, by simp [h2.st], fun x hx => ?_, by simp [h2.vk], fun x hx => ?_, List.nodup_append.mpr ⟨h2.rnd, List.nodup_cons.mpr ⟨List.not_mem_nil, .nil⟩, fun a ha b hb e => by cases List.mem_singleton.mp hb; exact hnr (e ▸ ha)⟩, fun y hy hyv hyr x hx hg => ?_, fun i x hi hx hg => ?_⟩, ?_⟩
        · rcases List.mem_append.mp hx with hx | hx
          · exact h2.rc x hx
          · cases List.mem_singleton.mp hx
            exact .step (h2.rc _ h2.vk) hun z2
        · rcases List.mem_append.mp hx with hx | hx
          · exact List.mem_append_left _ (h2.rowk x hx)
          · exact List.mem_append_right _ hx
        · rcases List.mem_append.mp hy with hy | hy
          · exact List.mem_append_left _ (h2.cl y hy hyv (fun z => hyr (List.mem_append_left _ z)) x hx hg)
          · exact absurd (List.mem_append_right _ hy) hyr
        · by_cases z3 : i = j
          · subst z3
            rw [hu] at hx
            cases hx
            simp
          · exact List.mem_append_left _ (h2.done i x (by omega) hx hg)
        · simp only [List.length_append, List.length_singleton] at hk3 ⊢
          omega
    · rintro s ⟨ks2, row2, rfl, h2, hm⟩
      refine Ok.nx ⟨⟨ks2, row2, rfl, ⟨h2.nd, h2.rng, h2.st, h2.rc, h2.rowk, h2.rnd, fun y hy hyr x hx hg => ?_⟩⟩, ?_⟩
      · by_cases z : y = w
        · subst z
          obtain ⟨i, hi, e⟩ := List.getElem_of_mem hx
          exact h2.done i x hi (by rw [List.getElem?_eq_getElem hi, e]) hg
        · exact h2.cl y hy z hyr x hx hg
      · simp only [bt_len, List.length_append, List.length_singleton]
        omega
theorem rch_rc (hO : MapOk O) {start : Nat} {gone : List Int} {x : Int} (h : Rch O start gone x) : ∀ y : Nat, x = (y : Int) → Rc O start y := by
  induction h with
  | zero =>
    intro y e
    have : start = y := by omega
    subst this
    exact .refl _
  | step _ hu _ ih =>
    intro y e
    subst e
    exact .step (ih _ rfl) hu
theorem hangs_ok (hO : MapOk O) (hn : O.length ≤ 100) (h0 : 0 < O.length) : ∃ b, p_hangs O = .ok b ∧ (b = true → Cov O [0]) := by
  obtain ⟨ks, e, hI⟩ := come_ok hO hn h0 []
  have e : p_come_to O (0 : Int) [] = .ok (bt ks) := e
  refine ⟨decide ((ks.length : Int) = (O.length : Int)), ?_, fun hb x hx => ?_⟩
  · unfold p_hangs
    rw [e, noX_ok, ok_bind, ok_bind, bt_len]
  · have hl : ks.length = O.length := by
      have := of_decide_eq_true hb
      omega
    have hin : (x : Int) ∈ ks := by
      apply Decidable.byContradiction
      intro z
      have nd2 : ((x : Int) :: ks).Nodup := List.nodup_cons.mpr ⟨z, hI.nd⟩
      have := room_of nd2 (n := O.length) fun y hy => by
        rcases List.mem_cons.mp hy with rfl | hy
        · omega
        · exact hI.rng y hy
      simp at this
      omega
    exact ⟨0, by simp, rch_rc hO (hI.rc _ hin) x rfl⟩
/-! ### ties and ways -/
theorem filter_flat {α β : Type} (p : β → Bool) (f : α → List β) : ∀ l : List α, (l.flatMap f).filter p = l.flatMap fun a => (f a).filter p
  | [] => rfl
  | a :: l => by rw [List.flatMap_cons, List.filter_append, filter_flat p f l, List.flatMap_cons]
theorem ties_ways (hO : MapOk O) : 2 * (tiesP O O.length).length = (waysOf O).length := by
  have hA : ((waysOf O).filter fun w => decide (w.2 < w.1)).length = (tiesP O O.length).length := by
    unfold waysOf tiesP
    rw [filter_flat, List.length_flatMap, List.length_flatMap]
    congr 1
    refine List.map_congr_left fun v _ => ?_
    rw [List.filter_map, List.length_map]
    unfold ties1
    rw [List.length_map]
    have e1 : ((srt (nb O v)).filter fun u => decide ((v : Int) < u)).length = ((nb O v).filter fun u => decide ((v : Int) < u)).length := ((srt_perm _).filter _).length_eq
    rw [e1]
    congr 1
    refine List.filter_congr fun u hu => ?_
    have := hO.rng v u hu
    show decide (v < u.toNat) = decide ((v : Int) < u)
    by_cases z : (v : Int) < u
    · rw [decide_eq_true z, decide_eq_true (show v < u.toNat by omega)]
    · rw [decide_eq_false z, decide_eq_false (show ¬ v < u.toNat by omega)]
  have nd := nodup_waysOf hO
  have hB : ((waysOf O).filter fun w => decide (w.1 < w.2)).length = ((waysOf O).filter fun w => decide (w.2 < w.1)).length := by
    have hp : (((waysOf O).filter fun w => decide (w.2 < w.1)).map fun w => (w.2, w.1)).Perm ((waysOf O).filter fun w => decide (w.1 < w.2)) := by
      refine (List.perm_ext_iff_of_nodup ?_ (nd.filter _)).mpr fun w => ?_
      · rw [List.nodup_iff_pairwise_ne, List.pairwise_map]
        have := nd.filter (fun w => decide (w.2 < w.1))
        exact this.imp fun h e => h (Prod.ext (congrArg Prod.snd e) (congrArg Prod.fst e))
      · rw [List.mem_map, List.mem_filter, mem_waysOf hO]
        constructor
        · rintro ⟨u, hu, rfl⟩
          obtain ⟨h1, h2⟩ := List.mem_filter.mp hu
          exact ⟨hO.sym _ _ ((mem_waysOf hO).mp h1), by simpa using h2⟩
        · rintro ⟨h1, h2⟩
          exact ⟨(w.2, w.1), List.mem_filter.mpr ⟨(mem_waysOf hO).mpr (hO.sym _ _ h1), by simpa using h2⟩, rfl⟩
    rw [← hp.length_eq, List.length_map]
  have hsum : ∀ l : List (Nat × Nat), (∀ w ∈ l, w.1 ≠ w.2) → l.length = (l.filter fun w => decide (w.1 < w.2)).length + (l.filter fun w => decide (w.2 < w.1)).length := fun l => by
    induction l with
    | nil => exact fun _ => rfl
    | cons w l ih =>
      intro h
      have h1 := ih fun x hx => h x (List.mem_cons_of_mem _ hx)
      have h2 := h w List.mem_cons_self
      by_cases z : w.1 < w.2
      · rw [List.filter_cons_of_pos (by simpa using z), List.filter_cons_of_neg (by simp; omega)]
        simp
        omega
      · rw [List.filter_cons_of_neg (by simpa using z), List.filter_cons_of_pos (by simp; omega)]
        simp
        omega
  have := hsum (waysOf O) fun w hw e => by
    have h := (mem_waysOf hO).mp hw
    have := (hO.rng w.2 w.1 h).2.2
    omega
  omega
/-- the count of a map that hangs together -/
theorem count_two (hO : MapOk O) (hn : O.length ≤ 100) {L : List (List Int)} (hL : LandsOk O L) (h0 : 0 < O.length) (hC : Cov O [0]) : cnt O L ≤ 2 ∧ cnt O L % 2 = 0 := by
  obtain ⟨ws, G, hS, e⟩ := law_rings_ok hO hn
  have hall := hS.end_ hO
  have hd := dec_of hO hS.inv hall
  have hlen : L.length = ws.length := by
    rw [hL.unique (hS.inv.lands hO hall), (sortLL_perm _).length_eq, List.length_map]
  obtain ⟨g, hg⟩ := euler _ hO hd (Nat.le_refl _) (R := [0]) (fun r hr => by cases List.mem_singleton.mp hr; exact h0) hC
  have hw := hd.ways hO
  have ht := ties_ways hO
  rw [hw, List.length_map] at hg
  simp only [List.length_singleton] at hg
  unfold cnt
  omega
end Ow.M
end
section
set_option linter.all false
set_option maxRecDepth 100000
set_option maxHeartbeats 4000000
namespace Ow.k14
open PySem L2 PySem.Spec Ow.Lib
def exOk : Nat → Bool := fun c => false
noncomputable def sem__law_fits : List D → Res D := runB 5 (bSeq (sSet 1 (xLc (iL (xVar 0)) (b1 5) [5] tYs (x1 oList (xVar 5))))
 (bSeq (sSet 2 (xCall sem_count (aCons (xVar 1) aNil)))
 (bSeq (sSet 3 (x1 oLen (xLc (iL (xVar 0)) (b1 5) [5] (tBl (x2 oEq (xVar 5) (xLst aNil))) (xU (xVar 5)))))
 (bSeq (sSet 4 (x2 oDiv (x1 oSum (xLc (iL (xVar 0)) (b1 5) [5] tYs (x1 oLen (xVar 5)))) (xC (.int 2))))
 (bSeq (sIf (tOr' (tNo (tBl (xCall sem__law_whole (aCons (xVar 2) aNil)))) (tBl (x2 oNe (xVar 1) (xVar 0)))) (sRet (xC (.bl false))) bN)
 (bSeq (sIf (tBl (x2 oNe (xVar 2) (x2 oAdd (x2 oSub (x2 oAdd (x1 oLen (xVar 0)) (x1 oLen (xCall sem__law_rings (aCons (xVar 0) aNil)))) (xVar 4)) (xVar 3)))) (sRet (xC (.bl false))) bN)
 (sRet (xP (xOr (xNo (xCall sem_hangs (aCons (xVar 1) aNil))) (xAn (x2 oLe (xVar 2) (xC (.int 2))) (x2 oEq (x2 oMod (xVar 2) (xC (.int 2))) (xC (.int 0)))))))))))))
noncomputable def sem_law : List D → Res D := runB 4 (bSeq (sSet 1 (xCall sem__law_any (aCons (xVar 0) (aCons (xC (.int 3)) (aCons (x2 oAdd (xC (.int 1)) (x2 oMod (xCall sem__law_cell_at (aCons (xVar 0) (aCons (xC (.int 0)) aNil))) (xC (.int 8)))) aNil)))))
 (bSeq (sSet 2 (xLc (iL (xVar 1)) (b1 4) [4] tYs (x1 oList (xVar 4))))
 (bSeq (sSet 3 (x2 oMod (xCall sem__law_mixed (aCons (xVar 0) (aCons (xC (.int 2)) aNil))) (x1 oLen (xVar 1))))
 (bSeq (sMeth (locP 2 (xVar 3)) aNil opRev)
 (sRet (xP (xAn (xCall sem__law_fits (aCons (xVar 1) aNil)) (xAn (xCall sem__law_fits (aCons (xVar 2) aNil)) (x2 oEq (x1 oLen (xCall sem_ties (aCons (xVar 1) aNil))) (x1 oLen (xCall sem_ties (aCons (xVar 2) aNil))))))))))))

end Ow.k14
end
section
set_option linter.all false
set_option maxRecDepth 100000
set_option maxHeartbeats 4000000
namespace Ow.k14
open PySem L2 PySem.Spec Ow.Lib Ow.P
@[irreducible] noncomputable def p__law_fits (orders : (List (List Int))) : Res Bool :=
  ((pLc orders (fun x1 => (.ok true)) (fun x1 => (.ok x1))) >>= fun handed_2 =>
  ((noX (p_count handed_2)) >>= fun found_3 =>
  (((pLc orders (fun x4 => (.ok (decide (x4 = ([] : List Int))))) (fun x4 => (.ok ()))) >>= fun a5 => .ok (a5.length : Int)) >>= fun lone_6 =>
  ((((pLc orders (fun x7 => (.ok true)) (fun x7 => (.ok (x7.length : Int)))) >>= fun a8 => .ok ((a8).sum)) >>= fun a9 => (pDiv a9 (2 : Int))) >>= fun many_10 =>
  ((((noX (p__law_whole_I found_3)) >>= fun a11 => .ok (!a11)) >>= fun b12 => if b12 = true then .ok true else (.ok (decide (handed_2 ≠ orders)))) >>= fun b23 => if b23 = true then
  (.ok false)
 else
  (((((((noX (p__law_rings orders)) >>= fun a13 => .ok (a13.length : Int)) >>= fun a14 => .ok ((orders.length : Int) + a14)) >>= fun a15 => .ok (a15 - many_10)) >>= fun a16 => .ok (a16 + lone_6)) >>= fun a17 => .ok (decide (found_3 ≠ a17))) >>= fun b22 => if b22 = true then
  (.ok false)
 else
  (((noX (p_hangs handed_2)) >>= fun a18 => .ok (!a18)) >>= fun b21 => if b21 = true then .ok true else (if (decide (found_3 ≤ (2 : Int))) = true then ((pMod found_3 (2 : Int)) >>= fun a19 => .ok (decide (a19 = (0 : Int)))) else .ok false))))))))
theorem le__law_fits (orders : (List (List Int))) : Le eB (p__law_fits orders) (sem__law_fits [(eL (eL eI)) orders]) := by
  unfold p__law_fits sem__law_fits
  exact run_le (m := 5) (ds := [(eL (eL eI)) orders]) (show XB [some (.fz ((eL (eL eI)) orders)), none, none, none, none, none] _ _ _ from
  (xb_last (xb_as (yb_setO 1 im_L (zlcp (xi_L (xe_var (eL (eL eI)) orders 0 rfl)) (fun x1 => xt_Ys) (fun x1 => (z1p (lo_list pu_I) (xe_var (eL eI) x1 5 rfl) rfl)) rfl) rfl fun handed_2 =>
  (xb_at (N := [some (.fz ((eL (eL eI)) orders)), some (.own ((eL (eL eI)) handed_2)), none, none, none, none]) rfl (xb_as (yb_setF 2 pu_I (xe_call (zaP (xe_var (eL (eL eI)) handed_2 1 rfl) (xa_nil (Le.noX (le_count handed_2))))) rfl fun found_3 =>
  (xb_at (N := [some (.fz ((eL (eL eI)) orders)), some (.own ((eL (eL eI)) handed_2)), some (.fz (eI found_3)), none, none, none]) rfl (xb_as (yb_setF 3 pu_I (z1i (lo_len (e := eN)) (zlcp (xi_L (xe_var (eL (eL eI)) orders 0 rfl)) (fun x4 => (xt_Bl (z2pp (lo_eq (q_L q_I)) (xe_var (eL eI) x4 5 rfl) (xe_lst (xa_nil (ld_L (e := eI) [] _ rfl rfl))) rfl))) (fun x4 => (xe_U (xe_var (eL eI) x4 5 rfl))) rfl) rfl) rfl fun lone_6 =>
  (xb_at (N := [some (.fz ((eL (eL eI)) orders)), some (.own ((eL (eL eI)) handed_2)), some (.fz (eI found_3)), some (.fz (eI lone_6)), none, none]) rfl (xb_as (yb_setF 4 pu_I (z2ip lo_div (z1i lo_sum (zlcp (xi_L (xe_var (eL (eL eI)) orders 0 rfl)) (fun x7 => xt_Ys) (fun x7 => (z1p (lo_len (e := eI)) (xe_var (eL eI) x7 5 rfl) rfl)) rfl) rfl) (xe_C (e := eI) (a := (2 : Int)) rfl) rfl) rfl fun many_10 =>
  (xb_at (N := [some (.fz ((eL (eL eI)) orders)), some (.own ((eL (eL eI)) handed_2)), some (.fz (eI found_3)), some (.fz (eI lone_6)), some (.fz (eI many_10)), none]) rfl (xb_as (yb_if (zOrii (zNoi (xt_Bl (xe_call (zaP (xe_var eI found_3 2 rfl) (xa_nil (Le.noX (le__law_whole_I found_3)))))) rfl) (xt_Bl (z2pp (lo_ne (q_L (q_L q_I))) (xe_var (eL (eL eI)) handed_2 1 rfl) (xe_var (eL (eL eI)) orders 0 rfl) rfl)) rfl) rfl
  (yb_retF (xe_C (e := eB) (a := false) rfl) rfl)
  (xb_skip (xb_as (yb_if (xt_Bl (z2pi (lo_ne q_I) (xe_var eI found_3 2 rfl) (z2ip lo_add (z2ip lo_sub (z2pi lo_add (z1p (lo_len (e := (eL eI))) (xe_var (eL (eL eI)) orders 0 rfl) rfl) (z1i (lo_len (e := (eL eI))) (xe_call (zaP (xe_var (eL (eL eI)) orders 0 rfl) (xa_nil (Le.noX (le__law_rings orders))))) rfl) rfl) (xe_var eI many_10 4 rfl) rfl) (xe_var eI lone_6 3 rfl) rfl) rfl)) rfl
  (yb_retF (xe_C (e := eB) (a := false) rfl) rfl)
  (xb_skip (yb_retF (xe_P pu_B (zxOrii (zxNoi (xe_call (zaP (xe_var (eL (eL eI)) handed_2 1 rfl) (xa_nil (Le.noX (le_hangs handed_2))))) rfl) (zxAnpi (z2pp lo_le (xe_var eI found_3 2 rfl) (xe_C (e := eI) (a := (2 : Int)) rfl) rfl) (z2ip (lo_eq q_I) (z2pp lo_mod (xe_var eI found_3 2 rfl) (xe_C (e := eI) (a := (2 : Int)) rfl) rfl) (xe_C (e := eI) (a := (0 : Int)) rfl) rfl) rfl) rfl)) rfl)))))))))))))))))))))

@[irreducible] noncomputable def p_law (script : (List Int)) : Res Bool :=
  (((((noX (p__law_cell_at script (0 : Int))) >>= fun a1 => (pMod a1 (8 : Int))) >>= fun a2 => .ok ((1 : Int) + a2)) >>= fun a3 => (noX (p__law_any script (3 : Int) a3))) >>= fun orders_4 =>
  ((pLc orders_4 (fun x5 => (.ok true)) (fun x5 => (.ok x5))) >>= fun other_6 =>
  (((noX (p__law_mixed script (2 : Int))) >>= fun a7 => (pMod a7 (orders_4.length : Int))) >>= fun at__8 =>
  (((pIxN other_6.length at__8) >>= fun a11 => (pUpdN other_6 a11 fun l9 => .ok (l9).reverse)) >>= fun other_10 =>
  ((noX (p__law_fits orders_4)) >>= fun b17 => if b17 = true then ((noX (p__law_fits other_10)) >>= fun b16 => if b16 = true then (((noX (p_ties orders_4)) >>= fun a12 => .ok (a12.length : Int)) >>= fun a14 => (((noX (p_ties other_10)) >>= fun a13 => .ok (a13.length : Int)) >>= fun a15 => .ok (decide (a14 = a15)))) else .ok false) else .ok false)))))
theorem le_law (script : (List Int)) : Le eB (p_law script) (sem_law [eC script]) := by
  unfold p_law sem_law
  exact run_le (m := 4) (ds := [eC script]) (show XB [some (.fz (eC script)), none, none, none, none] _ _ _ from
  (xb_last (xb_as (yb_setO 1 im_L (xe_call (zaP (xe_var eC script 0 rfl) (zaP (xe_C (e := eI) (a := (3 : Int)) rfl) (ya_cons (z2pi lo_add (xe_C (e := eI) (a := (1 : Int)) rfl) (z2ip lo_mod (xe_call (zaP (xe_var eC script 0 rfl) (zaP (xe_C (e := eI) (a := (0 : Int)) rfl) (xa_nil (Le.noX (le__law_cell_at script (0 : Int))))))) (xe_C (e := eI) (a := (8 : Int)) rfl) rfl) rfl) rfl fun a3 => (xa_nil (Le.noX (le__law_any script (3 : Int) a3))))))) rfl fun orders_4 =>
  (xb_at (N := [some (.fz (eC script)), some (.own ((eL (eL eI)) orders_4)), none, none, none]) rfl (xb_as (yb_setO 2 im_L (zlcp (xi_L (xe_var (eL (eL eI)) orders_4 1 rfl)) (fun x5 => xt_Ys) (fun x5 => (z1p (lo_list pu_I) (xe_var (eL eI) x5 4 rfl) rfl)) rfl) rfl fun other_6 =>
  (xb_at (N := [some (.fz (eC script)), some (.own ((eL (eL eI)) orders_4)), some (.own ((eL (eL eI)) other_6)), none, none]) rfl (xb_as (yb_setF 3 pu_I (z2ip lo_mod (xe_call (zaP (xe_var eC script 0 rfl) (zaP (xe_C (e := eI) (a := (2 : Int)) rfl) (xa_nil (Le.noX (le__law_mixed script (2 : Int))))))) (z1p (lo_len (e := (eL eI))) (xe_var (eL (eL eI)) orders_4 1 rfl) rfl) rfl) rfl fun at__8 =>
  (xb_at (N := [some (.fz (eC script)), some (.own ((eL (eL eI)) orders_4)), some (.own ((eL (eL eI)) other_6)), some (.fz (eI at__8)), none]) rfl (xb_as (yb_methI (e := eI) 2 rfl (xl_P 2 rfl (xe_var eI at__8 3 rfl)) (fun l9 => (xg_nil (LeG.fst (lm_rev l9)))) (by simp only [okB]) fun other_10 =>
  (xb_at (N := [some (.fz (eC script)), some (.own ((eL (eL eI)) orders_4)), some (.own ((eL (eL eI)) other_10)), some (.fz (eI at__8)), none]) rfl (yb_retF (xe_P pu_B (zxAnii (xe_call (zaP (xe_var (eL (eL eI)) orders_4 1 rfl) (xa_nil (Le.noX (le__law_fits orders_4))))) (zxAnii (xe_call (zaP (xe_var (eL (eL eI)) other_10 2 rfl) (xa_nil (Le.noX (le__law_fits other_10))))) (z2ii (lo_eq q_I) (z1i (lo_len (e := (eT2 eI eI))) (xe_call (zaP (xe_var (eL (eL eI)) orders_4 1 rfl) (xa_nil (Le.noX (le_ties orders_4))))) rfl) (z1i (lo_len (e := (eT2 eI eI))) (xe_call (zaP (xe_var (eL (eL eI)) other_10 2 rfl) (xa_nil (Le.noX (le_ties other_10))))) rfl) rfl) rfl) rfl)) rfl)))))))))))))))

end Ow.k14
end
section
set_option linter.all false
set_option exponentiation.threshold 100000
set_option maxHeartbeats 1000000
namespace Ow.k14
open PySem L2 Ow Ow.P Ow.Lib Ow.M
variable {O : List (List Int)}
theorem sum_cast : ∀ (l : List Nat), (l.map fun n : Nat => (n : Int)).sum = ((l.sum : Nat) : Int)
  | [] => rfl
  | a :: l => by
    rw [List.map_cons, List.sum_cons, List.sum_cons, sum_cast l]
    omega
theorem fits_ok (hO : MapOk O) (hn : O.length ≤ 100) (h0 : 0 < O.length) : p__law_fits O = .ok true := by
  have hs := sq_le hn
  obtain ⟨L, eL, hL⟩ := lands_ok hO hn
  obtain ⟨ws, G, hS, eR⟩ := law_rings_ok hO hn
  have hlen : L.length = ws.length := by
    rw [hL.unique (hS.inv.lands hO (hS.end_ hO)), (sortLL_perm _).length_eq, List.length_map]
  obtain ⟨b, eb, hb⟩ := hangs_ok hO hn h0
  have ht := ties_ways hO
  rw [len_waysOf] at ht
  have e6 : (O.map fun x : List Int => (x.length : Int)) = (O.map List.length).map fun n : Nat => (n : Int) := by rw [List.map_map]; rfl
  unfold p__law_fits
  rw [pLc_copy (by omega), ok_bind, count_ok hO hn eL, noX_ok, ok_bind, lone_ok (by omega), ok_bind, pLc_map (f := fun x : List Int => (x.length : Int)) (by omega) (fun _ _ => rfl), ok_bind, ok_bind, e6, sum_cast, dlit (c := 2) (by decide) (by decide), ok_bind, whole_ok, noX_ok, ok_bind, ok_bind, if_neg (by decide), ok_bind, if_neg (by simp), eR, noX_ok, ok_bind, List.length_map, ok_bind, ok_bind, ok_bind, ok_bind, ok_bind]
  have ec : cnt O L = (O.length : Int) + (ws.length : Int) - (((O.map List.length).sum : Nat) : Int) / 2 + (lone O : Int) := by
    unfold cnt
    rw [hlen, ← ht]
    omega
  rw [if_neg (show ¬ (decide (cnt O L ≠ (O.length : Int) + (ws.length : Int) - (((O.map List.length).sum : Nat) : Int) / 2 + (lone O : Int)) = true) by simpa using ec), eb, noX_ok, ok_bind, ok_bind]
  cases b with
  | false => rfl
  | true =>
    obtain ⟨c1, c2⟩ := count_two hO hn hL h0 (hb rfl)
    rw [if_neg (by decide), if_pos (by simpa using c1), pMod_pos (by decide), ok_bind, c2]
    rfl
theorem main (ns : List Int) (hl : ns.length ≤ 63) : sem_law [.scr ns] = .ok (.bl true) := by
  refine (le_law ns).is ?_
  unfold p_law
  have h8 : 0 ≤ ns.getD 0 0 % 8 ∧ ns.getD 0 0 % 8 < 8 := by omega
  obtain ⟨n, hnn⟩ : ∃ n : Nat, (1 : Int) + ns.getD 0 0 % 8 = n := ⟨(1 + ns.getD 0 0 % 8).toNat, by omega⟩
  obtain ⟨O, eO, hO, hlen, h64⟩ := any_ok ns hl 3 n (by decide) (by omega)
  have hn : O.length ≤ 100 := by omega
  have h0 : 0 < O.length := by omega
  have c0 := cell_ok ns 0
  have c0 : p__law_cell_at ns 0 = .ok (ns.getD 0 0) := c0
  have eO : p__law_any ns 3 n = .ok O := eO
  obtain ⟨mm, em, m1, m2⟩ := mixed_ok ns hl 2 (by decide)
  have em : p__law_mixed ns (2 : Int) = .ok mm := em
  obtain ⟨a, ha, ea⟩ := draw_at (mm := mm) h0
  have hO2 : MapOk (O.set a (nb O a).reverse) := by
    have key : ∀ v, nb (O.set a (nb O a).reverse) v = if v = a then (nb O a).reverse else nb O v := fun v => nb_set ha
    have hmem : ∀ v y, y ∈ nb (O.set a (nb O a).reverse) v ↔ y ∈ nb O v := fun v y => by
      rw [key]
      split
      · rename_i e
        rw [List.mem_reverse, e]
      · exact Iff.rfl
    refine ⟨fun v u hu => ?_, fun v => ?_, fun v u hu => ?_⟩
    · rw [List.length_set]
      exact hO.rng v u ((hmem v u).mp hu)
    · rw [key]
      split
      · exact (List.reverse_perm _).nodup_iff.mpr (hO.nd a)
      · exact hO.nd v
    · exact (hmem _ _).mpr (hO.sym v u ((hmem _ _).mp hu))
  have hl2 : (O.set a (nb O a).reverse).length = O.length := by simp
  have hf1 := fits_ok hO hn h0
  have hf2 := fits_ok hO2 (by omega) (by omega)
  have t1 := ties_ok hO hn
  have t2 := ties_ok hO2 (by omega)
  have w1 := ties_ways hO
  have w2 := ties_ways hO2
  have hw : (waysOf (O.set a (nb O a).reverse)).length = (waysOf O).length := by
    rw [len_waysOf, len_waysOf]
    congr 1
    rw [List.map_set, List.length_reverse]
    refine List.ext_getElem? fun i => ?_
    by_cases z : i = a
    · subst z
      rw [List.getElem?_set_self (by simpa using ha), List.getElem?_map, nb_get ha]
      rfl
    · rw [List.getElem?_set_ne (Ne.symm z)]
  have eu : pUpdN O a (fun l9 => .ok (l9).reverse) = .ok (O.set a (nb O a).reverse) := pUpdN_ok (nb_get ha) rfl
  rw [c0, noX_ok, ok_bind, pMod_pos (by decide), ok_bind, ok_bind, hnn, eO, noX_ok, ok_bind, pLc_copy (by omega), ok_bind, em, noX_ok, ok_bind, ea, ok_bind, pIxN_nat ha, ok_bind, eu, ok_bind, hf1, noX_ok, ok_bind, if_pos rfl, hf2, noX_ok, ok_bind, if_pos rfl, t1, noX_ok, ok_bind, ok_bind, t2, noX_ok, ok_bind, ok_bind]
  have : (tiesP (O.set a (nb O a).reverse) (O.set a (nb O a).reverse).length).length = (tiesP O O.length).length := by omega
  rw [this]
  simp
end Ow.k14
end
section
set_option linter.all false
set_option maxRecDepth 100000
set_option maxHeartbeats 4000000
namespace Ow.k14
open PySem L2 PySem.Spec Ow.Lib
abbrev topS (i : Nat) : Stmt := PySem.Challenge.pw_standup_k14_counts.main.body.getD i (.Pass ⟨0, 0, 0, 0⟩)
abbrev st_ties : Stmt := topS 1
abbrev st_next_in : Stmt := topS 2
abbrev st_ring_from : Stmt := topS 3
abbrev st_begun_least : Stmt := topS 4
abbrev st_lands : Stmt := topS 5
abbrev st_come_to : Stmt := topS 6
abbrev st_hangs : Stmt := topS 7
abbrev st_count : Stmt := topS 8
abbrev st__law_cell_at : Stmt := topS 10
abbrev st__law_whole : Stmt := topS 11
abbrev st__law_block : Stmt := topS 12
abbrev st__law_mixed : Stmt := topS 13
abbrev st__law_any : Stmt := topS 14
abbrev st__law_rings : Stmt := topS 15
abbrev st__law_fits : Stmt := topS 16
abbrev st_law : Stmt := topS 17
structure Txt (K : PySem.W.Frag) (mg : Str → Option Value) (ad : Nat → Addr) (fd : Nat → FuncData) (Y : Cl) : Prop where
  f_ties : Fun K "ties" "ties" st_ties (ad 0) (fd 0)
  g_ties : mg "ties" = some (.ref (ad 0))
  b_ties : Binds K (fd 0) ["orders"] []
  f_next_in : Fun K "next_in" "next_in" st_next_in (ad 1) (fd 1)
  g_next_in : mg "next_in" = some (.ref (ad 1))
  b_next_in : Binds K (fd 1) ["orders", "one", "other"] []
  f_ring_from : Fun K "ring_from" "ring_from" st_ring_from (ad 2) (fd 2)
  g_ring_from : mg "ring_from" = some (.ref (ad 2))
  b_ring_from : Binds K (fd 2) ["orders", "one", "other"] []
  f_begun_least : Fun K "begun_least" "begun_least" st_begun_least (ad 3) (fd 3)
  g_begun_least : mg "begun_least" = some (.ref (ad 3))
  b_begun_least : Binds K (fd 3) ["ring"] []
  f_lands : Fun K "lands" "lands" st_lands (ad 4) (fd 4)
  g_lands : mg "lands" = some (.ref (ad 4))
  b_lands : Binds K (fd 4) ["orders"] []
  f_come_to : Fun K "come_to" "come_to" st_come_to (ad 5) (fd 5)
  g_come_to : mg "come_to" = some (.ref (ad 5))
  b_come_to : Binds K (fd 5) ["orders", "start", "gone"] []
  f_hangs : Fun K "hangs" "hangs" st_hangs (ad 6) (fd 6)
  g_hangs : mg "hangs" = some (.ref (ad 6))
  b_hangs : Binds K (fd 6) ["orders"] []
  f_count : Fun K "count" "count" st_count (ad 7) (fd 7)
  g_count : mg "count" = some (.ref (ad 7))
  b_count : Binds K (fd 7) ["orders"] []
  f__law_cell_at : Fun K "_law_cell_at" "_law_cell_at" st__law_cell_at (ad 8) (fd 8)
  g__law_cell_at : mg "_law_cell_at" = some (.ref (ad 8))
  b__law_cell_at : Binds K (fd 8) ["_law_script", "_law_k"] []
  f__law_whole : Fun K "_law_whole" "_law_whole" st__law_whole (ad 9) (fd 9)
  g__law_whole : mg "_law_whole" = some (.ref (ad 9))
  b__law_whole : Binds K (fd 9) ["_law_found"] []
  f__law_block : Fun K "_law_block" "_law_block" st__law_block (ad 10) (fd 10)
  g__law_block : mg "_law_block" = some (.ref (ad 10))
  b__law_block : Binds K (fd 10) ["_law_script", "_law_k"] []
  f__law_mixed : Fun K "_law_mixed" "_law_mixed" st__law_mixed (ad 11) (fd 11)
  g__law_mixed : mg "_law_mixed" = some (.ref (ad 11))
  b__law_mixed : Binds K (fd 11) ["_law_script", "_law_k"] []
  f__law_any : Fun K "_law_any" "_law_any" st__law_any (ad 12) (fd 12)
  g__law_any : mg "_law_any" = some (.ref (ad 12))
  b__law_any : Binds K (fd 12) ["_law_script", "_law_start", "_law_many"] []
  f__law_rings : Fun K "_law_rings" "_law_rings" st__law_rings (ad 13) (fd 13)
  g__law_rings : mg "_law_rings" = some (.ref (ad 13))
  b__law_rings : Binds K (fd 13) ["_law_orders"] []
  f__law_fits : Fun K "_law_fits" "_law_fits" st__law_fits (ad 14) (fd 14)
  g__law_fits : mg "_law_fits" = some (.ref (ad 14))
  b__law_fits : Binds K (fd 14) ["_law_orders"] []
  f_law : Fun K "law" "law" st_law (ad 15) (fd 15)
  g_law : mg "law" = some (.ref (ad 15))
  b_law : Binds K (fd 15) ["_law_script"] []
  m_bool : mg "bool" = none
  m_int : mg "int" = none
  m_isinstance : mg "isinstance" = none
  m_len : mg "len" = none
  m_list : mg "list" = none
  m_min : mg "min" = none
  m_range : mg "range" = none
  m_sorted : mg "sorted" = none
  m_sum : mg "sum" = none
section
variable {P : Program} {w : World} {K : PySem.W.Frag} {mg : Str → Option Value} {base : Heap} {ad : Nat → Addr} {fd : Nat → FuncData} {Y : Cl}
theorem sc_ties : FnScope ["orders", "found", "place", "other"] ["orders"] (defScope st_ties) := ⟨rfl, rfl, rfl, by decide +kernel, rfl, by decide +kernel, by decide +kernel⟩
theorem ok_ties (T : Txt K mg ad fd Y) : FnOk P w K mg base CX0 1 (ad 0) (fd 0) ["orders"] (spFn K Y false 1 sem_ties) :=
  have sc := sc_ties
  fn0 (M := fun _ => true) T.f_ties sc rfl rfl fun cdv A outer s H E hr =>
 (b_cons (s_set 1 sc.nd (jn_lst an_nil))
 (b_cons (s_forG PassesOwn.never rfl (is_r1 T.m_range (j_len rfl T.m_len (j_var 0))) (pgn 2 sc.nd) (b_one (s_set 1 sc.nd (j_cat (j_var 1) (j_n (jn_lc [("other", 3)] rfl sc.nd (ie_l (j_n (jn_sort rfl T.m_sorted (j_at (j_var 0) (j_var 2))))) (fun _ _ _ _ _ => pgn 3 sc.nd) (fun _ _ _ _ _ => ct_one (t_lt (j_var 2) (j_var 3))) (fun _ _ _ _ _ => (jn_tup (an_cons (j_p (j_var 2)) (an_cons (j_p (j_var 3)) an_nil)))) (hb_1 (by decide))))))) (fun _ _ _ => rfl))
 (b_one (s_retV 1))))
theorem sc_next_in : FnScope ["orders", "one", "other", "order"] ["orders", "one", "other"] (defScope st_next_in) := ⟨rfl, rfl, rfl, by decide +kernel, rfl, by decide +kernel, by decide +kernel⟩
theorem ok_next_in (T : Txt K mg ad fd Y) : FnOk P w K mg base CX0 1 (ad 1) (fd 1) ["orders", "one", "other"] (spFn K Y false 3 sem_next_in) :=
  have sc := sc_next_in
  fn0 (M := fun _ => true) T.f_next_in sc rfl rfl fun cdv A outer s H E hr =>
 (b_cons (s_alP 3 0 sc.nd (j_var 2))
 (b_one (s_ret (j_p (j_at (j_var 3) (j_sub (j_index hr (j_var 3) (j_var 1)) j_int))))))
theorem sc_ring_from : FnScope ["orders", "one", "other", "found", "here", "there"] ["orders", "one", "other"] (defScope st_ring_from) := ⟨rfl, rfl, rfl, by decide +kernel, rfl, by decide +kernel, by decide +kernel⟩
theorem ok_ring_from (T : Txt K mg ad fd Y) : FnOk P w K mg base CX0 2 (ad 2) (fd 2) ["orders", "one", "other"] (spFn K Y false 3 sem_ring_from) :=
  have sc := sc_ring_from
  fn0 (M := fun _ => true) T.f_ring_from sc rfl rfl fun cdv A outer s H E hr =>
 (b_cons (s_set 3 sc.nd (jn_lst (an_cons (j_p (j_var 1)) an_nil)))
 (b_cons (s_set 4 sc.nd (j_p (j_var 1)))
 (b_cons (s_set 5 sc.nd (j_p (j_var 2)))
 (b_one (s_while PassesOwn.never (t_val j_bl) (b_cons (s_par 4 5 rfl sc.nd (j_var 5) (j_n (j_call (ok_next_in T) (hr.mono (by decide)) T.g_next_in T.f_next_in.kp T.b_next_in (a_cons (j_var 0) (a_cons (j_var 4) (a_cons (j_var 5) a_nil))))))
 (b_cons (s_if (t_w (w_and (t_eq hr (j_var 4) (j_var 1)) (w_and1 (t_eq hr (j_var 5) (j_var 2))))) (b_one (s_retV 3)) b_nil)
 (b_one (s_meth F.slot_list_append (by with_unfolding_all rfl) mt_append mk_app (jl_var 3) (an_cons (j_p (j_var 4)) an_nil))))))))))
theorem sc_begun_least : FnScope ["ring", "k"] ["ring"] (defScope st_begun_least) := ⟨rfl, rfl, rfl, by decide +kernel, rfl, by decide +kernel, by decide +kernel⟩
theorem ok_begun_least (T : Txt K mg ad fd Y) : FnOk P w K mg base CX0 1 (ad 3) (fd 3) ["ring"] (spFn K Y false 1 sem_begun_least) :=
  have sc := sc_begun_least
  fn0 (M := fun _ => true) T.f_begun_least sc rfl rfl fun cdv A outer s H E hr =>
 (b_one (s_ret (jn_minLL hr rfl rfl T.m_min (jn_lc [("k", 1)] rfl sc.nd (ie_r1 T.m_range (j_len rfl T.m_len (j_var 0))) (fun _ _ _ _ _ => pgn 1 sc.nd) (fun _ _ _ _ _ => ct_nil) (fun _ _ _ _ _ => (j_cat (j_slice (j_var 0) (o_some (j_var 1)) o_none) (j_slice (j_var 0) o_none (o_some (j_var 1))))) (hb_1 (by decide))))))
theorem sc_lands : FnScope ["orders", "gone", "found", "one", "other", "ring", "k"] ["orders"] (defScope st_lands) := ⟨rfl, rfl, rfl, by decide +kernel, rfl, by decide +kernel, by decide +kernel⟩
theorem ok_lands (T : Txt K mg ad fd Y) : FnOk P w K mg base CX0 3 (ad 4) (fd 4) ["orders"] (spFn K Y false 1 sem_lands) :=
  have sc := sc_lands
  fn0 (M := fun _ => true) T.f_lands sc rfl rfl fun cdv A outer s H E hr =>
 (b_cons (s_set 1 sc.nd jn_dT)
 (b_cons (s_set 2 sc.nd (jn_lst an_nil))
 (b_cons (s_forG PassesOwn.never rfl (is_r1 T.m_range (j_len rfl T.m_len (j_var 0))) (pgn 3 sc.nd) (b_one (s_forG PassesOwn.never rfl (is_at 0 (j_var 3)) (pgn 4 sc.nd) (b_one (s_if (t_ninDT hr (jk_tup (a_cons (j_var 3) (a_cons (j_var 4) a_nil))) (j_var 1)) (b_cons (s_set 5 sc.nd (j_call (ok_ring_from T) (hr.mono (by decide)) T.g_ring_from T.f_ring_from.kp T.b_ring_from (a_cons (j_var 0) (a_cons (j_var 3) (a_cons (j_var 4) a_nil)))))
 (b_cons (s_forG PassesOwn.never rfl (is_r1 T.m_range (j_len rfl T.m_len (j_var 5))) (pgn 6 sc.nd) (b_one (s_putT 1 hr j_bl (jk_tup (a_cons (j_at (j_var 5) (j_sub (j_var 6) j_int)) (a_cons (j_at (j_var 5) (j_var 6)) a_nil))))) (fun _ _ _ => rfl))
 (b_one (s_meth F.slot_list_append (by with_unfolding_all rfl) mt_append mk_app (jl_var 2) (an_cons (j_call (ok_begun_least T) (hr.mono (by decide)) T.g_begun_least T.f_begun_least.kp T.b_begun_least (a_cons (j_var 5) a_nil)) an_nil))))) b_nil)) (fun _ _ _ => rfl))) (fun _ _ _ => rfl))
 (b_one (s_retSort 2 hr (by rfl) T.m_sorted)))))
theorem sc_come_to : FnScope ["orders", "start", "gone", "found", "row", "other"] ["orders", "start", "gone"] (defScope st_come_to) := ⟨rfl, rfl, rfl, by decide +kernel, rfl, by decide +kernel, by decide +kernel⟩
theorem ok_come_to (T : Txt K mg ad fd Y) : FnOk P w K mg base CX0 1 (ad 5) (fd 5) ["orders", "start", "gone"] (spFn K Y false 3 sem_come_to) :=
  have sc := sc_come_to
  fn0 (M := fun _ => true) T.f_come_to sc rfl rfl fun cdv A outer s H E hr =>
 (b_cons (s_set 3 sc.nd jn_dI)
 (b_cons (s_putI 3 hr j_bl (j_var 1))
 (b_cons (s_set 4 sc.nd (jn_lst (an_cons (j_p (j_var 1)) an_nil)))
 (b_cons (s_while PassesOwn.never (t_ne hr (j_var 4) (j_lst a_nil)) (b_one (s_forG PassesOwn.never rfl (is_atE 0 (je_pop (jl_var 4))) (pgn 5 sc.nd) (b_one (s_if (t_w (w_and (t_ninDI hr (j_var 5) (j_var 3)) (w_and1 (t_nin hr (j_var 5) (j_var 2))))) (b_cons (s_putI 3 hr j_bl (j_var 5))
 (b_one (s_meth F.slot_list_append (by with_unfolding_all rfl) mt_append mk_app (jl_var 4) (an_cons (j_p (j_var 5)) an_nil)))) b_nil)) (fun _ _ _ => rfl))))
 (b_one (s_retV 3))))))
theorem sc_hangs : FnScope ["orders"] ["orders"] (defScope st_hangs) := ⟨rfl, rfl, rfl, by decide +kernel, rfl, by decide +kernel, by decide +kernel⟩
theorem ok_hangs (T : Txt K mg ad fd Y) : FnOk P w K mg base CX0 2 (ad 6) (fd 6) ["orders"] (spFn K Y false 1 sem_hangs) :=
  have sc := sc_hangs
  fn0 (M := fun _ => true) T.f_hangs sc rfl rfl fun cdv A outer s H E hr =>
 (b_one (s_ret (j_eq hr (j_lenD rfl T.m_len (j_n (j_call (ok_come_to T) (hr.mono (by decide)) T.g_come_to T.f_come_to.kp T.b_come_to (a_cons (j_var 0) (a_cons j_int (a_cons (j_lst a_nil) a_nil)))))) (j_len rfl T.m_len (j_var 0)))))
theorem sc_count : FnScope ["orders", "lone", "order"] ["orders"] (defScope st_count) := ⟨rfl, rfl, rfl, by decide +kernel, rfl, by decide +kernel, by decide +kernel⟩
theorem ok_count (T : Txt K mg ad fd Y) : FnOk P w K mg base CX0 4 (ad 7) (fd 7) ["orders"] (spFn K Y false 1 sem_count) :=
  have sc := sc_count
  fn0 (M := fun _ => true) T.f_count sc rfl rfl fun cdv A outer s H E hr =>
 (b_cons (s_set 1 sc.nd (j_lenLc [("order", 2)] rfl T.m_len rfl sc.nd (ie_l (j_var 0)) (fun _ _ _ _ _ => pgn 2 sc.nd) (fun _ _ _ _ _ => ct_one (t_eq hr (j_var 2) (j_lst a_nil))) (fun _ _ _ _ _ => (j_var 2)) (hb_1 (by decide))))
 (b_one (s_ret (j_add (j_add (j_sub (j_len rfl T.m_len (j_var 0)) (j_len rfl T.m_len (j_n (j_call (ok_ties T) (hr.mono (by decide)) T.g_ties T.f_ties.kp T.b_ties (a_cons (j_var 0) a_nil))))) (j_len rfl T.m_len (j_n (j_call (ok_lands T) (hr.mono (by decide)) T.g_lands T.f_lands.kp T.b_lands (a_cons (j_var 0) a_nil))))) (j_var 1)))))
theorem sc__law_cell_at : FnScope ["_law_script", "_law_k"] ["_law_script", "_law_k"] (defScope st__law_cell_at) := ⟨rfl, rfl, rfl, by decide +kernel, rfl, by decide +kernel, by decide +kernel⟩
theorem ok__law_cell_at (T : Txt K mg ad fd Y) : FnOk P w K mg base CX0 1 (ad 8) (fd 8) ["_law_script", "_law_k"] (spFn K Y false 2 sem__law_cell_at) :=
  have sc := sc__law_cell_at
  fn0 (M := fun _ => true) T.f__law_cell_at sc rfl rfl fun cdv A outer s H E hr =>
 (b_cons (s_if (t_lt (j_var 1) (j_len rfl T.m_len (j_var 0))) (b_one (s_ret (j_p (j_at (j_var 0) (j_var 1))))) b_nil)
 (b_one (s_ret j_int)))
theorem sc__law_whole : FnScope ["_law_found"] ["_law_found"] (defScope st__law_whole) := ⟨rfl, rfl, rfl, by decide +kernel, rfl, by decide +kernel, by decide +kernel⟩
theorem ok__law_whole (T : Txt K mg ad fd Y) : FnOk P w K mg base CX0 1 (ad 9) (fd 9) ["_law_found"] (spFn K Y false 1 sem__law_whole) :=
  have sc := sc__law_whole
  fn0 (M := fun _ => true) T.f__law_whole sc rfl rfl fun cdv A outer s H E hr =>
 (b_one (s_ret (j_p (j_and (j_isB rfl T.m_isinstance rfl T.m_int (by decide +kernel) (j_var 0)) (j_one (j_not (j_isB rfl T.m_isinstance rfl T.m_bool (by decide +kernel) (j_var 0))))))))
theorem sc__law_block : FnScope ["_law_script", "_law_k", "_law_cell", "_law_j"] ["_law_script", "_law_k"] (defScope st__law_block) := ⟨rfl, rfl, rfl, by decide +kernel, rfl, by decide +kernel, by decide +kernel⟩
theorem ok__law_block (T : Txt K mg ad fd Y) : FnOk P w K mg base CX0 1 (ad 10) (fd 10) ["_law_script", "_law_k"] (spFn K Y false 2 sem__law_block) :=
  have sc := sc__law_block
  fn0 (M := fun _ => true) T.f__law_block sc rfl rfl fun cdv A outer s H E hr =>
 (b_cons (s_set 2 sc.nd j_int)
 (b_cons (s_if (t_lt (j_add j_int (j_mod (j_div (j_var 1) j_int) j_int)) (j_len rfl T.m_len (j_var 0))) (b_one (s_set 2 sc.nd (j_div (j_at (j_var 0) (j_add j_int (j_mod (j_div (j_var 1) j_int) j_int))) (j_pow j_int j_int)))) b_nil)
 (b_cons (s_forG PassesOwn.never rfl (is_r1 T.m_range (j_mod (j_var 1) j_int)) (pgn 3 sc.nd) (b_one (s_set 2 sc.nd (j_div (j_var 2) j_int))) (fun _ _ _ => rfl))
 (b_one (s_ret (j_mod (j_var 2) j_int))))))
theorem sc__law_mixed : FnScope ["_law_script", "_law_k", "_law_cell", "_law_number"] ["_law_script", "_law_k"] (defScope st__law_mixed) := ⟨rfl, rfl, rfl, by decide +kernel, rfl, by decide +kernel, by decide +kernel⟩
theorem ok__law_mixed (T : Txt K mg ad fd Y) : FnOk P w K mg base CX0 2 (ad 11) (fd 11) ["_law_script", "_law_k"] (spFn K Y false 2 sem__law_mixed) :=
  have sc := sc__law_mixed
  fn0 (M := fun _ => true) T.f__law_mixed sc rfl rfl fun cdv A outer s H E hr =>
 (b_cons (s_set 2 sc.nd j_int)
 (b_cons (s_if (t_gt (j_len rfl T.m_len (j_var 0)) j_int) (b_one (s_set 2 sc.nd (j_p (j_at (j_var 0) j_int)))) b_nil)
 (b_cons (s_if (t_eq hr (j_mod (j_div (j_var 2) (j_pow j_int j_int)) j_int) j_int) (b_one (s_ret (j_call (ok__law_block T) (hr.mono (by decide)) T.g__law_block T.f__law_block.kp T.b__law_block (a_cons (j_var 0) (a_cons (j_var 1) a_nil))))) b_nil)
 (b_cons (s_if (t_gt (j_len rfl T.m_len (j_var 0)) j_int) (b_one (s_set 2 sc.nd (j_p (j_at (j_var 0) (j_mod (j_var 1) (j_min2 rfl rfl T.m_min j_int (j_len rfl T.m_len (j_var 0)))))))) b_nil)
 (b_cons (s_set 3 sc.nd (j_add (j_mod (j_var 2) (j_pow j_int j_int)) (j_mul j_int (j_add (j_var 1) j_int))))
 (b_cons (s_set 3 sc.nd (j_add (j_mod (j_mul (j_var 3) (j_var 3)) j_int) (j_mul j_int (j_var 1))))
 (b_one (s_ret (j_mod (j_mul (j_var 3) (j_var 3)) j_int)))))))))
theorem sc__law_any : FnScope ["_law_script", "_law_start", "_law_many", "_law_orders", "_law_thick", "_law_one", "_law_other", "_law_k", "_law_number"] ["_law_script", "_law_start", "_law_many"] (defScope st__law_any) := ⟨rfl, rfl, rfl, by decide +kernel, rfl, by decide +kernel, by decide +kernel⟩
theorem ok__law_any (T : Txt K mg ad fd Y) : FnOk P w K mg base CX0 3 (ad 12) (fd 12) ["_law_script", "_law_start", "_law_many"] (spFn K Y false 3 sem__law_any) :=
  have sc := sc__law_any
  fn0 (M := fun _ => true) T.f__law_any sc rfl rfl fun cdv A outer s H E hr =>
 (b_cons (s_setLc [("_law_k", 7)] 3 rfl sc.nd (ie_r1 T.m_range (j_var 2)) (fun _ _ _ _ _ => pgn 7 sc.nd) (fun _ _ _ _ _ => ct_nil) (fun _ _ _ _ _ => (jn_lst an_nil)) (hb_1 (by decide)))
 (b_cons (s_set 4 sc.nd (j_add j_int (j_mod (j_n (j_call (ok__law_mixed T) (hr.mono (by decide)) T.g__law_mixed T.f__law_mixed.kp T.b__law_mixed (a_cons (j_var 0) (a_cons (j_var 1) a_nil)))) j_int)))
 (b_cons (s_forG PassesOwn.never rfl (is_r1 T.m_range (j_var 2)) (pgn 5 sc.nd) (b_one (s_forG PassesOwn.never rfl (is_r1 T.m_range (j_var 5)) (pgn 6 sc.nd) (b_cons (s_set 8 sc.nd (j_call (ok__law_mixed T) (hr.mono (by decide)) T.g__law_mixed T.f__law_mixed.kp T.b__law_mixed (a_cons (j_var 0) (a_cons (j_add (j_add (j_add (j_var 1) j_int) (j_mul j_int (j_var 5))) (j_var 6)) a_nil))))
 (b_one (s_if (t_ne hr (j_mod (j_var 8) (j_var 4)) j_int) (b_cons (s_meth F.slot_list_insert (by with_unfolding_all rfl) mt_insert mk_ins (jl_at 3 (j_var 5)) (an_cons (j_mod (j_div (j_var 8) j_int) (j_add (j_len rfl T.m_len (j_at (j_var 3) (j_var 5))) j_int)) (an_cons (j_p (j_var 6)) an_nil)))
 (b_one (s_meth F.slot_list_insert (by with_unfolding_all rfl) mt_insert mk_ins (jl_at 3 (j_var 6)) (an_cons (j_mod (j_div (j_var 8) j_int) (j_add (j_len rfl T.m_len (j_at (j_var 3) (j_var 6))) j_int)) (an_cons (j_p (j_var 5)) an_nil))))) b_nil))) (fun _ _ _ => rfl))) (fun _ _ _ => rfl))
 (b_one (s_retV 3)))))
theorem sc__law_rings : FnScope ["_law_orders", "_law_gone", "_law_found", "_law_one", "_law_other", "_law_ring", "_law_here", "_law_there", "_law_order"] ["_law_orders"] (defScope st__law_rings) := ⟨rfl, rfl, rfl, by decide +kernel, rfl, by decide +kernel, by decide +kernel⟩
theorem ok__law_rings (T : Txt K mg ad fd Y) : FnOk P w K mg base CX0 1 (ad 13) (fd 13) ["_law_orders"] (spFn K Y false 1 sem__law_rings) :=
  have sc := sc__law_rings
  fn0 (M := fun _ => true) T.f__law_rings sc rfl rfl fun cdv A outer s H E hr =>
 (b_cons (s_set 1 sc.nd jn_dT)
 (b_cons (s_set 2 sc.nd (jn_lst an_nil))
 (b_cons (s_forG PassesOwn.never rfl (is_r1 T.m_range (j_len rfl T.m_len (j_var 0))) (pgn 3 sc.nd) (b_one (s_forG PassesOwn.never rfl (is_at 0 (j_var 3)) (pgn 4 sc.nd) (b_one (s_if (t_ninDT hr (jk_tup (a_cons (j_var 3) (a_cons (j_var 4) a_nil))) (j_var 1)) (b_cons (s_set 5 sc.nd (jn_lst an_nil))
 (b_cons (s_set 6 sc.nd (j_p (j_var 3)))
 (b_cons (s_set 7 sc.nd (j_p (j_var 4)))
 (b_cons (s_while PassesOwn.never (t_ninDT hr (jk_tup (a_cons (j_var 6) (a_cons (j_var 7) a_nil))) (j_var 1)) (b_cons (s_putT 1 hr j_bl (jk_tup (a_cons (j_var 6) (a_cons (j_var 7) a_nil))))
 (b_cons (s_meth F.slot_list_append (by with_unfolding_all rfl) mt_append mk_app (jl_var 5) (an_cons (j_p (j_var 6)) an_nil))
 (b_cons (s_alP 8 0 sc.nd (j_var 7))
 (b_one (s_par 6 7 rfl sc.nd (j_var 7) (j_at (j_var 8) (j_sub (j_index hr (j_var 8) (j_var 6)) j_int))))))))
 (b_one (s_appV 5 (jl_var 2))))))) b_nil)) (fun _ _ _ => rfl))) (fun _ _ _ => rfl))
 (b_one (s_retV 2)))))
theorem sc__law_fits : FnScope ["_law_orders", "_law_handed", "_law_found", "_law_lone", "_law_many", "_law_order"] ["_law_orders"] (defScope st__law_fits) := ⟨rfl, rfl, rfl, by decide +kernel, rfl, by decide +kernel, by decide +kernel⟩
theorem ok__law_fits (T : Txt K mg ad fd Y) : FnOk P w K mg base CX0 5 (ad 14) (fd 14) ["_law_orders"] (spFn K Y false 1 sem__law_fits) :=
  have sc := sc__law_fits
  fn0 (M := fun _ => true) T.f__law_fits sc rfl rfl fun cdv A outer s H E hr =>
 (b_cons (s_setLc [("_law_order", 5)] 1 rfl sc.nd (ie_l (j_var 0)) (fun _ _ _ _ _ => pgn 5 sc.nd) (fun _ _ _ _ _ => ct_nil) (fun _ _ _ _ _ => (j_list rfl T.m_list (j_var 5))) (hb_1 (by decide)))
 (b_cons (s_set 2 sc.nd (j_call (ok_count T) (hr.mono (by decide)) T.g_count T.f_count.kp T.b_count (a_cons (j_var 1) a_nil)))
 (b_cons (s_set 3 sc.nd (j_lenLc [("_law_order", 5)] rfl T.m_len rfl sc.nd (ie_l (j_var 0)) (fun _ _ _ _ _ => pgn 5 sc.nd) (fun _ _ _ _ _ => ct_one (t_eq hr (j_var 5) (j_lst a_nil))) (fun _ _ _ _ _ => (j_var 5)) (hb_1 (by decide))))
 (b_cons (s_set 4 sc.nd (j_div (j_sum rfl rfl T.m_sum (j_n (jn_lc [("_law_order", 5)] rfl sc.nd (ie_l (j_var 0)) (fun _ _ _ _ _ => pgn 5 sc.nd) (fun _ _ _ _ _ => ct_nil) (fun _ _ _ _ _ => (j_len rfl T.m_len (j_var 5))) (hb_1 (by decide))))) j_int))
 (b_cons (s_if (t_w (w_or (t_not (t_val (j_n (j_call (ok__law_whole T) (hr.mono (by decide)) T.g__law_whole T.f__law_whole.kp T.b__law_whole (a_cons (j_var 2) a_nil))))) (w_or1 (t_ne hr (j_var 1) (j_var 0))))) (b_one (s_ret j_bl)) b_nil)
 (b_cons (s_if (t_ne hr (j_var 2) (j_add (j_sub (j_add (j_len rfl T.m_len (j_var 0)) (j_len rfl T.m_len (j_n (j_call (ok__law_rings T) (hr.mono (by decide)) T.g__law_rings T.f__law_rings.kp T.b__law_rings (a_cons (j_var 0) a_nil))))) (j_var 4)) (j_var 3))) (b_one (s_ret j_bl)) b_nil)
 (b_one (s_ret (j_p (j_or (j_not (j_n (j_call (ok_hangs T) (hr.mono (by decide)) T.g_hangs T.f_hangs.kp T.b_hangs (a_cons (j_var 1) a_nil)))) (j_one (j_and (j_le (j_var 2) j_int) (j_one (j_eq hr (j_mod (j_var 2) j_int) j_int))))))))))))))
theorem sc_law : FnScope ["_law_script", "_law_orders", "_law_other", "_law_at", "_law_order"] ["_law_script"] (defScope st_law) := ⟨rfl, rfl, rfl, by decide +kernel, rfl, by decide +kernel, by decide +kernel⟩
theorem ok_law (T : Txt K mg ad fd Y) : FnOk P w K mg base CX0 6 (ad 15) (fd 15) ["_law_script"] (spFn K Y false 1 sem_law) :=
  have sc := sc_law
  fn0 (M := fun _ => true) T.f_law sc rfl rfl fun cdv A outer s H E hr =>
 (b_cons (s_set 1 sc.nd (j_call (ok__law_any T) (hr.mono (by decide)) T.g__law_any T.f__law_any.kp T.b__law_any (a_cons (j_var 0) (a_cons j_int (a_cons (j_add j_int (j_mod (j_n (j_call (ok__law_cell_at T) (hr.mono (by decide)) T.g__law_cell_at T.f__law_cell_at.kp T.b__law_cell_at (a_cons (j_var 0) (a_cons j_int a_nil)))) j_int)) a_nil)))))
 (b_cons (s_setLc [("_law_order", 4)] 2 rfl sc.nd (ie_l (j_var 1)) (fun _ _ _ _ _ => pgn 4 sc.nd) (fun _ _ _ _ _ => ct_nil) (fun _ _ _ _ _ => (j_list rfl T.m_list (j_var 4))) (hb_1 (by decide)))
 (b_cons (s_set 3 sc.nd (j_mod (j_n (j_call (ok__law_mixed T) (hr.mono (by decide)) T.g__law_mixed T.f__law_mixed.kp T.b__law_mixed (a_cons (j_var 0) (a_cons j_int a_nil)))) (j_len rfl T.m_len (j_var 1))))
 (b_cons (s_meth0 F.slot_list_reverse (by with_unfolding_all rfl) mt_reverse mk_rev (jl_at 2 (j_var 3)))
 (b_one (s_ret (j_p (j_and (j_n (j_call (ok__law_fits T) (hr.mono (by decide)) T.g__law_fits T.f__law_fits.kp T.b__law_fits (a_cons (j_var 1) a_nil))) (j_and (j_n (j_call (ok__law_fits T) (hr.mono (by decide)) T.g__law_fits T.f__law_fits.kp T.b__law_fits (a_cons (j_var 2) a_nil))) (j_one (j_eq hr (j_len rfl T.m_len (j_n (j_call (ok_ties T) (hr.mono (by decide)) T.g_ties T.f_ties.kp T.b_ties (a_cons (j_var 1) a_nil)))) (j_len rfl T.m_len (j_n (j_call (ok_ties T) (hr.mono (by decide)) T.g_ties T.f_ties.kp T.b_ties (a_cons (j_var 2) a_nil)))))))))))))))
end

end Ow.k14
end
section
set_option linter.all false
set_option maxRecDepth 100000
set_option maxHeartbeats 4000000
namespace Ow.k14
open PySem L2 PySem.Spec Ow.Lib
/-- the classes' places -/
def YY (f : Nat → Addr) : Cl := ⟨f, fun i => (match i with | 12 => "place" | 13 => "count" | 14 => "places" | 15 => "row" | _ => "" : String)⟩
def spL (K : PySem.W.Frag) : Sp := fun vs H Q _ => ∃ (a : Addr) (ns : List Int), vs = [.ref a] ∧ SqL K H a (ns.map V.int) ∧ ns.length ≤ 63 ∧ ∀ H', Q (.bl true) H'
theorem hsp {K : PySem.W.Frag} {Y : Cl} {vs : List V} {H : Hp} {Q : VK} {E : XK} (h : spL K vs H Q E) : spFn K Y false 1 sem_law vs H Q E := by
  obtain ⟨a, ns, rfl, hS, hl, k⟩ := h
  refine ⟨[.scr ns], rfl, .cons (.scr hS) .nil, ?_⟩
  rw [main ns hl]
  rintro v H' ⟨_, fp, o, _⟩
  cases o with
  | pur _ r =>
    cases r
    exact k _
theorem all_mk {l : PySem.W.OpenLaw} {w : World} {K : PySem.W.Frag} {h : Heap} {mg : Str → Option Value} {fa : Addr} (X : K.In h) (G : h.Ns mainGlobals mg) (hfa : mg "law" = some (.ref fa))
    {f0 : Addr} {od0 an0 : Option Addr} {sl0 : Array (Option Value)} {oc0 kV0 dc0 pm0 cd0 ct0 : Value}
    {f1 : Addr} {od1 an1 : Option Addr} {sl1 : Array (Option Value)} {oc1 kV1 dc1 pm1 cd1 ct1 : Value}
    {f2 : Addr} {od2 an2 : Option Addr} {sl2 : Array (Option Value)} {oc2 kV2 dc2 pm2 cd2 ct2 : Value}
    {f3 : Addr} {od3 an3 : Option Addr} {sl3 : Array (Option Value)} {oc3 kV3 dc3 pm3 cd3 ct3 : Value}
    {f4 : Addr} {od4 an4 : Option Addr} {sl4 : Array (Option Value)} {oc4 kV4 dc4 pm4 cd4 ct4 : Value}
    {f5 : Addr} {od5 an5 : Option Addr} {sl5 : Array (Option Value)} {oc5 kV5 dc5 pm5 cd5 ct5 : Value}
    {f6 : Addr} {od6 an6 : Option Addr} {sl6 : Array (Option Value)} {oc6 kV6 dc6 pm6 cd6 ct6 : Value}
    {f7 : Addr} {od7 an7 : Option Addr} {sl7 : Array (Option Value)} {oc7 kV7 dc7 pm7 cd7 ct7 : Value}
    {f8 : Addr} {od8 an8 : Option Addr} {sl8 : Array (Option Value)} {oc8 kV8 dc8 pm8 cd8 ct8 : Value}
    {f9 : Addr} {od9 an9 : Option Addr} {sl9 : Array (Option Value)} {oc9 kV9 dc9 pm9 cd9 ct9 : Value}
    {f10 : Addr} {od10 an10 : Option Addr} {sl10 : Array (Option Value)} {oc10 kV10 dc10 pm10 cd10 ct10 : Value}
    {f11 : Addr} {od11 an11 : Option Addr} {sl11 : Array (Option Value)} {oc11 kV11 dc11 pm11 cd11 ct11 : Value}
    {f12 : Addr} {od12 an12 : Option Addr} {sl12 : Array (Option Value)} {oc12 kV12 dc12 pm12 cd12 ct12 : Value}
    {f13 : Addr} {od13 an13 : Option Addr} {sl13 : Array (Option Value)} {oc13 kV13 dc13 pm13 cd13 ct13 : Value}
    {f14 : Addr} {od14 an14 : Option Addr} {sl14 : Array (Option Value)} {oc14 kV14 dc14 pm14 cd14 ct14 : Value}
    {f15 : Addr} {od15 an15 : Option Addr} {sl15 : Array (Option Value)} {oc15 kV15 dc15 pm15 cd15 ct15 : Value}
    (a0 : PySem.W.nsIn K mainGlobals "ties" = some (some (.ref f0)))
    (l0 : K.lookup f0 = some ⟨oc0, od0, .func (PySem.W.fnOf "ties" "ties" (defArgs st_ties) (defBody st_ties) (defScope st_ties) .none kV0 dc0 pm0 an0 cd0 ct0), sl0⟩)
    (c0 : PySem.W.codeIn K cd0 "ties" = true)
    (k0 : PySem.W.keepIn K (.ref f0) = true)
    (a1 : PySem.W.nsIn K mainGlobals "next_in" = some (some (.ref f1)))
    (l1 : K.lookup f1 = some ⟨oc1, od1, .func (PySem.W.fnOf "next_in" "next_in" (defArgs st_next_in) (defBody st_next_in) (defScope st_next_in) .none kV1 dc1 pm1 an1 cd1 ct1), sl1⟩)
    (c1 : PySem.W.codeIn K cd1 "next_in" = true)
    (k1 : PySem.W.keepIn K (.ref f1) = true)
    (a2 : PySem.W.nsIn K mainGlobals "ring_from" = some (some (.ref f2)))
    (l2 : K.lookup f2 = some ⟨oc2, od2, .func (PySem.W.fnOf "ring_from" "ring_from" (defArgs st_ring_from) (defBody st_ring_from) (defScope st_ring_from) .none kV2 dc2 pm2 an2 cd2 ct2), sl2⟩)
    (c2 : PySem.W.codeIn K cd2 "ring_from" = true)
    (k2 : PySem.W.keepIn K (.ref f2) = true)
    (a3 : PySem.W.nsIn K mainGlobals "begun_least" = some (some (.ref f3)))
    (l3 : K.lookup f3 = some ⟨oc3, od3, .func (PySem.W.fnOf "begun_least" "begun_least" (defArgs st_begun_least) (defBody st_begun_least) (defScope st_begun_least) .none kV3 dc3 pm3 an3 cd3 ct3), sl3⟩)
    (c3 : PySem.W.codeIn K cd3 "begun_least" = true)
    (k3 : PySem.W.keepIn K (.ref f3) = true)
    (a4 : PySem.W.nsIn K mainGlobals "lands" = some (some (.ref f4)))
    (l4 : K.lookup f4 = some ⟨oc4, od4, .func (PySem.W.fnOf "lands" "lands" (defArgs st_lands) (defBody st_lands) (defScope st_lands) .none kV4 dc4 pm4 an4 cd4 ct4), sl4⟩)
    (c4 : PySem.W.codeIn K cd4 "lands" = true)
    (k4 : PySem.W.keepIn K (.ref f4) = true)
    (a5 : PySem.W.nsIn K mainGlobals "come_to" = some (some (.ref f5)))
    (l5 : K.lookup f5 = some ⟨oc5, od5, .func (PySem.W.fnOf "come_to" "come_to" (defArgs st_come_to) (defBody st_come_to) (defScope st_come_to) .none kV5 dc5 pm5 an5 cd5 ct5), sl5⟩)
    (c5 : PySem.W.codeIn K cd5 "come_to" = true)
    (k5 : PySem.W.keepIn K (.ref f5) = true)
    (a6 : PySem.W.nsIn K mainGlobals "hangs" = some (some (.ref f6)))
    (l6 : K.lookup f6 = some ⟨oc6, od6, .func (PySem.W.fnOf "hangs" "hangs" (defArgs st_hangs) (defBody st_hangs) (defScope st_hangs) .none kV6 dc6 pm6 an6 cd6 ct6), sl6⟩)
    (c6 : PySem.W.codeIn K cd6 "hangs" = true)
    (k6 : PySem.W.keepIn K (.ref f6) = true)
    (a7 : PySem.W.nsIn K mainGlobals "count" = some (some (.ref f7)))
    (l7 : K.lookup f7 = some ⟨oc7, od7, .func (PySem.W.fnOf "count" "count" (defArgs st_count) (defBody st_count) (defScope st_count) .none kV7 dc7 pm7 an7 cd7 ct7), sl7⟩)
    (c7 : PySem.W.codeIn K cd7 "count" = true)
    (k7 : PySem.W.keepIn K (.ref f7) = true)
    (a8 : PySem.W.nsIn K mainGlobals "_law_cell_at" = some (some (.ref f8)))
    (l8 : K.lookup f8 = some ⟨oc8, od8, .func (PySem.W.fnOf "_law_cell_at" "_law_cell_at" (defArgs st__law_cell_at) (defBody st__law_cell_at) (defScope st__law_cell_at) .none kV8 dc8 pm8 an8 cd8 ct8), sl8⟩)
    (c8 : PySem.W.codeIn K cd8 "_law_cell_at" = true)
    (k8 : PySem.W.keepIn K (.ref f8) = true)
    (a9 : PySem.W.nsIn K mainGlobals "_law_whole" = some (some (.ref f9)))
    (l9 : K.lookup f9 = some ⟨oc9, od9, .func (PySem.W.fnOf "_law_whole" "_law_whole" (defArgs st__law_whole) (defBody st__law_whole) (defScope st__law_whole) .none kV9 dc9 pm9 an9 cd9 ct9), sl9⟩)
    (c9 : PySem.W.codeIn K cd9 "_law_whole" = true)
    (k9 : PySem.W.keepIn K (.ref f9) = true)
    (a10 : PySem.W.nsIn K mainGlobals "_law_block" = some (some (.ref f10)))
    (l10 : K.lookup f10 = some ⟨oc10, od10, .func (PySem.W.fnOf "_law_block" "_law_block" (defArgs st__law_block) (defBody st__law_block) (defScope st__law_block) .none kV10 dc10 pm10 an10 cd10 ct10), sl10⟩)
    (c10 : PySem.W.codeIn K cd10 "_law_block" = true)
    (k10 : PySem.W.keepIn K (.ref f10) = true)
    (a11 : PySem.W.nsIn K mainGlobals "_law_mixed" = some (some (.ref f11)))
    (l11 : K.lookup f11 = some ⟨oc11, od11, .func (PySem.W.fnOf "_law_mixed" "_law_mixed" (defArgs st__law_mixed) (defBody st__law_mixed) (defScope st__law_mixed) .none kV11 dc11 pm11 an11 cd11 ct11), sl11⟩)
    (c11 : PySem.W.codeIn K cd11 "_law_mixed" = true)
    (k11 : PySem.W.keepIn K (.ref f11) = true)
    (a12 : PySem.W.nsIn K mainGlobals "_law_any" = some (some (.ref f12)))
    (l12 : K.lookup f12 = some ⟨oc12, od12, .func (PySem.W.fnOf "_law_any" "_law_any" (defArgs st__law_any) (defBody st__law_any) (defScope st__law_any) .none kV12 dc12 pm12 an12 cd12 ct12), sl12⟩)
    (c12 : PySem.W.codeIn K cd12 "_law_any" = true)
    (k12 : PySem.W.keepIn K (.ref f12) = true)
    (a13 : PySem.W.nsIn K mainGlobals "_law_rings" = some (some (.ref f13)))
    (l13 : K.lookup f13 = some ⟨oc13, od13, .func (PySem.W.fnOf "_law_rings" "_law_rings" (defArgs st__law_rings) (defBody st__law_rings) (defScope st__law_rings) .none kV13 dc13 pm13 an13 cd13 ct13), sl13⟩)
    (c13 : PySem.W.codeIn K cd13 "_law_rings" = true)
    (k13 : PySem.W.keepIn K (.ref f13) = true)
    (a14 : PySem.W.nsIn K mainGlobals "_law_fits" = some (some (.ref f14)))
    (l14 : K.lookup f14 = some ⟨oc14, od14, .func (PySem.W.fnOf "_law_fits" "_law_fits" (defArgs st__law_fits) (defBody st__law_fits) (defScope st__law_fits) .none kV14 dc14 pm14 an14 cd14 ct14), sl14⟩)
    (c14 : PySem.W.codeIn K cd14 "_law_fits" = true)
    (k14 : PySem.W.keepIn K (.ref f14) = true)
    (a15 : PySem.W.nsIn K mainGlobals "law" = some (some (.ref f15)))
    (l15 : K.lookup f15 = some ⟨oc15, od15, .func (PySem.W.fnOf "law" "law" (defArgs st_law) (defBody st_law) (defScope st_law) .none kV15 dc15 pm15 an15 cd15 ct15), sl15⟩)
    (c15 : PySem.W.codeIn K cd15 "law" = true)
    (k15 : PySem.W.keepIn K (.ref f15) = true)
    (z_bool : PySem.W.nsIn K mainGlobals "bool" = some none)
    (z_int : PySem.W.nsIn K mainGlobals "int" = some none)
    (z_isinstance : PySem.W.nsIn K mainGlobals "isinstance" = some none)
    (z_len : PySem.W.nsIn K mainGlobals "len" = some none)
    (z_list : PySem.W.nsIn K mainGlobals "list" = some none)
    (z_min : PySem.W.nsIn K mainGlobals "min" = some none)
    (z_range : PySem.W.nsIn K mainGlobals "range" = some none)
    (z_sorted : PySem.W.nsIn K mainGlobals "sorted" = some none)
    (z_sum : PySem.W.nsIn K mainGlobals "sum" = some none) :
    ∃ fd : FuncData, (∀ (s : Shared) (v : Value), BindsTo s fd ⟨[v], []⟩ [("_law_script", v)]) ∧ ∀ base : Heap, K.In base → base.Ns mainGlobals mg → FnOk l.prog w K mg base CX0 6 fa fd ["_law_script"] (spL K) := by
  have e := hfa.symm.trans (PySem.W.mg_of X G a15)
  cases e
  have F0 := fun_mk (st := st_ties) l0 c0 k0
  have F1 := fun_mk (st := st_next_in) l1 c1 k1
  have F2 := fun_mk (st := st_ring_from) l2 c2 k2
  have F3 := fun_mk (st := st_begun_least) l3 c3 k3
  have F4 := fun_mk (st := st_lands) l4 c4 k4
  have F5 := fun_mk (st := st_come_to) l5 c5 k5
  have F6 := fun_mk (st := st_hangs) l6 c6 k6
  have F7 := fun_mk (st := st_count) l7 c7 k7
  have F8 := fun_mk (st := st__law_cell_at) l8 c8 k8
  have F9 := fun_mk (st := st__law_whole) l9 c9 k9
  have F10 := fun_mk (st := st__law_block) l10 c10 k10
  have F11 := fun_mk (st := st__law_mixed) l11 c11 k11
  have F12 := fun_mk (st := st__law_any) l12 c12 k12
  have F13 := fun_mk (st := st__law_rings) l13 c13 k13
  have F14 := fun_mk (st := st__law_fits) l14 c14 k14
  have F15 := fun_mk (st := st_law) l15 c15 k15
  have T : Txt K mg (fun i => match i with | 0 => f0 | 1 => f1 | 2 => f2 | 3 => f3 | 4 => f4 | 5 => f5 | 6 => f6 | 7 => f7 | 8 => f8 | 9 => f9 | 10 => f10 | 11 => f11 | 12 => f12 | 13 => f13 | 14 => f14 | 15 => fa | _ => 0) (fun i => match i with | 0 => PySem.W.fnOf "ties" "ties" (defArgs st_ties) (defBody st_ties) (defScope st_ties) .none kV0 dc0 pm0 an0 cd0 ct0 | 1 => PySem.W.fnOf "next_in" "next_in" (defArgs st_next_in) (defBody st_next_in) (defScope st_next_in) .none kV1 dc1 pm1 an1 cd1 ct1 | 2 => PySem.W.fnOf "ring_from" "ring_from" (defArgs st_ring_from) (defBody st_ring_from) (defScope st_ring_from) .none kV2 dc2 pm2 an2 cd2 ct2 | 3 => PySem.W.fnOf "begun_least" "begun_least" (defArgs st_begun_least) (defBody st_begun_least) (defScope st_begun_least) .none kV3 dc3 pm3 an3 cd3 ct3 | 4 => PySem.W.fnOf "lands" "lands" (defArgs st_lands) (defBody st_lands) (defScope st_lands) .none kV4 dc4 pm4 an4 cd4 ct4 | 5 => PySem.W.fnOf "come_to" "come_to" (defArgs st_come_to) (defBody st_come_to) (defScope st_come_to) .none kV5 dc5 pm5 an5 cd5 ct5 | 6 => PySem.W.fnOf "hangs" "hangs" (defArgs st_hangs) (defBody st_hangs) (defScope st_hangs) .none kV6 dc6 pm6 an6 cd6 ct6 | 7 => PySem.W.fnOf "count" "count" (defArgs st_count) (defBody st_count) (defScope st_count) .none kV7 dc7 pm7 an7 cd7 ct7 | 8 => PySem.W.fnOf "_law_cell_at" "_law_cell_at" (defArgs st__law_cell_at) (defBody st__law_cell_at) (defScope st__law_cell_at) .none kV8 dc8 pm8 an8 cd8 ct8 | 9 => PySem.W.fnOf "_law_whole" "_law_whole" (defArgs st__law_whole) (defBody st__law_whole) (defScope st__law_whole) .none kV9 dc9 pm9 an9 cd9 ct9 | 10 => PySem.W.fnOf "_law_block" "_law_block" (defArgs st__law_block) (defBody st__law_block) (defScope st__law_block) .none kV10 dc10 pm10 an10 cd10 ct10 | 11 => PySem.W.fnOf "_law_mixed" "_law_mixed" (defArgs st__law_mixed) (defBody st__law_mixed) (defScope st__law_mixed) .none kV11 dc11 pm11 an11 cd11 ct11 | 12 => PySem.W.fnOf "_law_any" "_law_any" (defArgs st__law_any) (defBody st__law_any) (defScope st__law_any) .none kV12 dc12 pm12 an12 cd12 ct12 | 13 => PySem.W.fnOf "_law_rings" "_law_rings" (defArgs st__law_rings) (defBody st__law_rings) (defScope st__law_rings) .none kV13 dc13 pm13 an13 cd13 ct13 | 14 => PySem.W.fnOf "_law_fits" "_law_fits" (defArgs st__law_fits) (defBody st__law_fits) (defScope st__law_fits) .none kV14 dc14 pm14 an14 cd14 ct14 | 15 => PySem.W.fnOf "law" "law" (defArgs st_law) (defBody st_law) (defScope st_law) .none kV15 dc15 pm15 an15 cd15 ct15 | _ => PySem.W.fnOf "law" "law" (defArgs st_law) (defBody st_law) (defScope st_law) .none kV15 dc15 pm15 an15 cd15 ct15) (YY (fun i => match i with  | _ => 0)) :=
    { f_ties := F0
      g_ties := PySem.W.mg_of X G a0
      b_ties := F0.binds (ps := ["orders"]) fun _ _ _ _ _ _ us hl => match us, hl with | [_], _ => rfl
      f_next_in := F1
      g_next_in := PySem.W.mg_of X G a1
      b_next_in := F1.binds (ps := ["orders", "one", "other"]) fun _ _ _ _ _ _ us hl => match us, hl with | [_, _, _], _ => rfl
      f_ring_from := F2
      g_ring_from := PySem.W.mg_of X G a2
      b_ring_from := F2.binds (ps := ["orders", "one", "other"]) fun _ _ _ _ _ _ us hl => match us, hl with | [_, _, _], _ => rfl
      f_begun_least := F3
      g_begun_least := PySem.W.mg_of X G a3
      b_begun_least := F3.binds (ps := ["ring"]) fun _ _ _ _ _ _ us hl => match us, hl with | [_], _ => rfl
      f_lands := F4
      g_lands := PySem.W.mg_of X G a4
      b_lands := F4.binds (ps := ["orders"]) fun _ _ _ _ _ _ us hl => match us, hl with | [_], _ => rfl
      f_come_to := F5
      g_come_to := PySem.W.mg_of X G a5
      b_come_to := F5.binds (ps := ["orders", "start", "gone"]) fun _ _ _ _ _ _ us hl => match us, hl with | [_, _, _], _ => rfl
      f_hangs := F6
      g_hangs := PySem.W.mg_of X G a6
      b_hangs := F6.binds (ps := ["orders"]) fun _ _ _ _ _ _ us hl => match us, hl with | [_], _ => rfl
      f_count := F7
      g_count := PySem.W.mg_of X G a7
      b_count := F7.binds (ps := ["orders"]) fun _ _ _ _ _ _ us hl => match us, hl with | [_], _ => rfl
      f__law_cell_at := F8
      g__law_cell_at := PySem.W.mg_of X G a8
      b__law_cell_at := F8.binds (ps := ["_law_script", "_law_k"]) fun _ _ _ _ _ _ us hl => match us, hl with | [_, _], _ => rfl
      f__law_whole := F9
      g__law_whole := PySem.W.mg_of X G a9
      b__law_whole := F9.binds (ps := ["_law_found"]) fun _ _ _ _ _ _ us hl => match us, hl with | [_], _ => rfl
      f__law_block := F10
      g__law_block := PySem.W.mg_of X G a10
      b__law_block := F10.binds (ps := ["_law_script", "_law_k"]) fun _ _ _ _ _ _ us hl => match us, hl with | [_, _], _ => rfl
      f__law_mixed := F11
      g__law_mixed := PySem.W.mg_of X G a11
      b__law_mixed := F11.binds (ps := ["_law_script", "_law_k"]) fun _ _ _ _ _ _ us hl => match us, hl with | [_, _], _ => rfl
      f__law_any := F12
      g__law_any := PySem.W.mg_of X G a12
      b__law_any := F12.binds (ps := ["_law_script", "_law_start", "_law_many"]) fun _ _ _ _ _ _ us hl => match us, hl with | [_, _, _], _ => rfl
      f__law_rings := F13
      g__law_rings := PySem.W.mg_of X G a13
      b__law_rings := F13.binds (ps := ["_law_orders"]) fun _ _ _ _ _ _ us hl => match us, hl with | [_], _ => rfl
      f__law_fits := F14
      g__law_fits := PySem.W.mg_of X G a14
      b__law_fits := F14.binds (ps := ["_law_orders"]) fun _ _ _ _ _ _ us hl => match us, hl with | [_], _ => rfl
      f_law := F15
      g_law := PySem.W.mg_of X G a15
      b_law := F15.binds (ps := ["_law_script"]) fun _ _ _ _ _ _ us hl => match us, hl with | [_], _ => rfl
      m_bool := PySem.W.mg_none_of X G z_bool
      m_int := PySem.W.mg_none_of X G z_int
      m_isinstance := PySem.W.mg_none_of X G z_isinstance
      m_len := PySem.W.mg_none_of X G z_len
      m_list := PySem.W.mg_none_of X G z_list
      m_min := PySem.W.mg_none_of X G z_min
      m_range := PySem.W.mg_none_of X G z_range
      m_sorted := PySem.W.mg_none_of X G z_sorted
      m_sum := PySem.W.mg_none_of X G z_sum }
  exact ⟨PySem.W.fnOf "law" "law" (defArgs st_law) (defBody st_law) (defScope st_law) .none kV15 dc15 pm15 an15 cd15 ct15, fun s v => .of_eq rfl, fun base _ _ => (ok_law (P := l.prog) (w := w) (base := base) T).imp fun vs H Q E h => hsp h⟩

end Ow.k14
end
section
open PySem PySem.W PyProof.Rows in
set_option maxRecDepth 100000 in
set_option maxHeartbeats 0 in
theorem PySem.Challenge.cw_standup_k14_counts_holds : PySem.Challenge.rw_standup_k14_counts.Holds := by
  w_on; o_law; k_head; (case hw => w_witness2)
  k_fill
  refine L2.walk_of (l := PySem.Challenge.rw_standup_k14_counts) (n := 63) (k := 6) (x := "_law_script") (CX := fun _ => L2.CX0) (sp := fun w => Ow.k14.spL _) rfl (by decide) rfl ⟨rfl, by decide, by decide⟩ (fun w h Y => PySem.W.kIn_of Y) ?F (fun _ _ a ns hl _ hS => ⟨a, ns, rfl, hS, hl, fun _ => rfl⟩) (fun _ _ _ _ _ h => h)
  case F =>
    intro w mg fa h KX G hmg
    refine' Ow.k14.all_mk KX G hmg ?a0 ?l0 ?c0 ?k0 ?a1 ?l1 ?c1 ?k1 ?a2 ?l2 ?c2 ?k2 ?a3 ?l3 ?c3 ?k3 ?a4 ?l4 ?c4 ?k4 ?a5 ?l5 ?c5 ?k5 ?a6 ?l6 ?c6 ?k6 ?a7 ?l7 ?c7 ?k7 ?a8 ?l8 ?c8 ?k8 ?a9 ?l9 ?c9 ?k9 ?a10 ?l10 ?c10 ?k10 ?a11 ?l11 ?c11 ?k11 ?a12 ?l12 ?c12 ?k12 ?a13 ?l13 ?c13 ?k13 ?a14 ?l14 ?c14 ?k14 ?a15 ?l15 ?c15 ?k15 ?z_bool ?z_int ?z_isinstance ?z_len ?z_list ?z_min ?z_range ?z_sorted ?z_sum
    (case a0 => first | k_is | kit_is | (with_unfolding_all rfl))
    (case l0 => first | k_is | kit_is | (with_unfolding_all rfl))
    (case c0 => first | k_is | kit_is | (with_unfolding_all rfl))
    (case k0 => first | k_is | kit_is | (with_unfolding_all rfl))
    (case a1 => first | k_is | kit_is | (with_unfolding_all rfl))
    (case l1 => first | k_is | kit_is | (with_unfolding_all rfl))
    (case c1 => first | k_is | kit_is | (with_unfolding_all rfl))
    (case k1 => first | k_is | kit_is | (with_unfolding_all rfl))
    (case a2 => first | k_is | kit_is | (with_unfolding_all rfl))
    (case l2 => first | k_is | kit_is | (with_unfolding_all rfl))
    (case c2 => first | k_is | kit_is | (with_unfolding_all rfl))
    (case k2 => first | k_is | kit_is | (with_unfolding_all rfl))
    (case a3 => first | k_is | kit_is | (with_unfolding_all rfl))
    (case l3 => first | k_is | kit_is | (with_unfolding_all rfl))
    (case c3 => first | k_is | kit_is | (with_unfolding_all rfl))
    (case k3 => first | k_is | kit_is | (with_unfolding_all rfl))
    (case a4 => first | k_is | kit_is | (with_unfolding_all rfl))
    (case l4 => first | k_is | kit_is | (with_unfolding_all rfl))
    (case c4 => first | k_is | kit_is | (with_unfolding_all rfl))
    (case k4 => first | k_is | kit_is | (with_unfolding_all rfl))
    (case a5 => first | k_is | kit_is | (with_unfolding_all rfl))
    (case l5 => first | k_is | kit_is | (with_unfolding_all rfl))
    (case c5 => first | k_is | kit_is | (with_unfolding_all rfl))
    (case k5 => first | k_is | kit_is | (with_unfolding_all rfl))
    (case a6 => first | k_is | kit_is | (with_unfolding_all rfl))
    (case l6 => first | k_is | kit_is | (with_unfolding_all rfl))
    (case c6 => first | k_is | kit_is | (with_unfolding_all rfl))
    (case k6 => first | k_is | kit_is | (with_unfolding_all rfl))
    (case a7 => first | k_is | kit_is | (with_unfolding_all rfl))
    (case l7 => first | k_is | kit_is | (with_unfolding_all rfl))
    (case c7 => first | k_is | kit_is | (with_unfolding_all rfl))
    (case k7 => first | k_is | kit_is | (with_unfolding_all rfl))
    (case a8 => first | k_is | kit_is | (with_unfolding_all rfl))
    (case l8 => first | k_is | kit_is | (with_unfolding_all rfl))
    (case c8 => first | k_is | kit_is | (with_unfolding_all rfl))
    (case k8 => first | k_is | kit_is | (with_unfolding_all rfl))
    (case a9 => first | k_is | kit_is | (with_unfolding_all rfl))
    (case l9 => first | k_is | kit_is | (with_unfolding_all rfl))
    (case c9 => first | k_is | kit_is | (with_unfolding_all rfl))
    (case k9 => first | k_is | kit_is | (with_unfolding_all rfl))
    (case a10 => first | k_is | kit_is | (with_unfolding_all rfl))
    (case l10 => first | k_is | kit_is | (with_unfolding_all rfl))
    (case c10 => first | k_is | kit_is | (with_unfolding_all rfl))
    (case k10 => first | k_is | kit_is | (with_unfolding_all rfl))
    (case a11 => first | k_is | kit_is | (with_unfolding_all rfl))
    (case l11 => first | k_is | kit_is | (with_unfolding_all rfl))
    (case c11 => first | k_is | kit_is | (with_unfolding_all rfl))
    (case k11 => first | k_is | kit_is | (with_unfolding_all rfl))
    (case a12 => first | k_is | kit_is | (with_unfolding_all rfl))
    (case l12 => first | k_is | kit_is | (with_unfolding_all rfl))
    (case c12 => first | k_is | kit_is | (with_unfolding_all rfl))
    (case k12 => first | k_is | kit_is | (with_unfolding_all rfl))
    (case a13 => first | k_is | kit_is | (with_unfolding_all rfl))
    (case l13 => first | k_is | kit_is | (with_unfolding_all rfl))
    (case c13 => first | k_is | kit_is | (with_unfolding_all rfl))
    (case k13 => first | k_is | kit_is | (with_unfolding_all rfl))
    (case a14 => first | k_is | kit_is | (with_unfolding_all rfl))
    (case l14 => first | k_is | kit_is | (with_unfolding_all rfl))
    (case c14 => first | k_is | kit_is | (with_unfolding_all rfl))
    (case k14 => first | k_is | kit_is | (with_unfolding_all rfl))
    (case a15 => first | k_is | kit_is | (with_unfolding_all rfl))
    (case l15 => first | k_is | kit_is | (with_unfolding_all rfl))
    (case c15 => first | k_is | kit_is | (with_unfolding_all rfl))
    (case k15 => first | k_is | kit_is | (with_unfolding_all rfl))
    (case z_bool => first | k_is | kit_is | (with_unfolding_all rfl))
    (case z_int => first | k_is | kit_is | (with_unfolding_all rfl))
    (case z_isinstance => first | k_is | kit_is | (with_unfolding_all rfl))
    (case z_len => first | k_is | kit_is | (with_unfolding_all rfl))
    (case z_list => first | k_is | kit_is | (with_unfolding_all rfl))
    (case z_min => first | k_is | kit_is | (with_unfolding_all rfl))
    (case z_range => first | k_is | kit_is | (with_unfolding_all rfl))
    (case z_sorted => first | k_is | kit_is | (with_unfolding_all rfl))
    (case z_sum => first | k_is | kit_is | (with_unfolding_all rfl))
end
