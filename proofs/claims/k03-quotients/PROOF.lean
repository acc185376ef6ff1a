import PyProof.Rows.All
import Wide.All
import OpenK.AllK
import Wide.FinOn
import HandS.ForMost
import HandS.Exc
import HandS.Wide
import HandS.Deep
import HandS.CallSlots
import HandS.IsInst
import HandS.TupAny
import HandS.ExcOwn
import HandS.WordsExc
import HandS.Ends
import KE.KExcIs
import HandS.Iter
import PySem.Challenge.RW_standup_k03_quotients
set_option Elab.async false
set_option linter.all false
set_option exponentiation.threshold 100000
section
set_option linter.all false
set_option maxRecDepth 100000
/-! Ow1: plain data, results, and how data lies in the layer's heap. -/
namespace Ow
open PySem L2

/-- plain data -/
inductive D where
  | non | bl (b : Bool) | int (i : Int) | str (x : Str) | tup (xs : List D) | lst (xs : List D) | scr (ns : List Int)
  | dI (kvs : List (Int × D)) | dT (kvs : List (List Int × D)) | exc (c : Nat) (xs : List D)

/-- an error: its class's number, what it keeps -/
structure Err where
  c : Nat
  xs : List D
/-- what a piece of code comes to -/
inductive Res (α : Type) where
  | ok (a : α) | exc (e : Err) | stuck
def Res.bind {α β : Type} : Res α → (α → Res β) → Res β
  | .ok a, f => f a
  | .exc e, _ => .exc e
  | .stuck, _ => .stuck
instance : Monad Res where
  pure := .ok
  bind := Res.bind
@[simp] theorem ok_bind {α β : Type} (a : α) (f : α → Res β) : (Res.ok a >>= f) = f a := rfl
@[simp] theorem exc_bind {α β : Type} (e : Err) (f : α → Res β) : ((Res.exc e : Res α) >>= f) = .exc e := rfl
@[simp] theorem stuck_bind {α β : Type} (f : α → Res β) : ((Res.stuck : Res α) >>= f) = .stuck := rfl
@[simp] theorem pure_ok {α : Type} (a : α) : (pure a : Res α) = .ok a := rfl

mutual
def pureD : D → Bool
  | .non => true
  | .bl _ => true
  | .int _ => true
  | .str _ => true
  | .tup xs => pureDs xs
  | .exc _ xs => pureDs xs
  | .lst _ => false
  | .scr _ => false
  | .dI _ => false
  | .dT _ => false
def pureDs : List D → Bool
  | [] => true
  | d :: ds => pureD d && pureDs ds
end

theorem pureD_tup (xs : List D) : pureD (.tup xs) = pureDs xs := by rw [pureD]
theorem pureD_exc (c : Nat) (xs : List D) : pureD (.exc c xs) = pureDs xs := by rw [pureD]
theorem pureD_lst (xs : List D) : pureD (.lst xs) = false := by rw [pureD]
theorem pureD_scr (xs : List Int) : pureD (.scr xs) = false := by rw [pureD]
theorem pureD_dI (xs : List (Int × D)) : pureD (.dI xs) = false := by rw [pureD]
theorem pureD_dT (xs : List (List Int × D)) : pureD (.dT xs) = false := by rw [pureD]
theorem pureD_int (i : Int) : pureD (.int i) = true := by rw [pureD]
theorem pureD_bl (i : Bool) : pureD (.bl i) = true := by rw [pureD]
theorem pureD_non : pureD .non = true := by rw [pureD]
theorem pureD_str (x : Str) : pureD (.str x) = true := by rw [pureD]
theorem pureDs_nil : pureDs [] = true := by rw [pureDs]
theorem pureDs_cons (d : D) (ds : List D) : pureDs (d :: ds) = (pureD d && pureDs ds) := by rw [pureDs]

/-- the classes' places, and the name of what each keeps -/
structure Cl where
  at_ : Nat → Addr
  fld : Nat → Str

/-- an exception object that is held as a value -/
def ExV (cls : Value) (d : Option Addr) (a : Addr) : HO := .ext fun h => ∃ (oe : Obj) (vs : Array Value), h.get? a = some oe ∧ Zc cls d oe ∧ oe.data = .fields vs

/-! ### data in a heap -/
section
variable (K : PySem.W.Frag) (Y : Cl)
mutual
inductive Rep (H : Hp) : V → D → Prop
  | non : Rep H .non .non
  | bl {b : Bool} : Rep H (.bl b) (.bl b)
  | int {i : Int} : Rep H (.int i) (.int i)
  | str {x : Str} : Rep H (.str x) (.str x)
  | tup {p : Addr} {vs : List V} {ds : List D} : SqT K H p vs → Reps H vs ds → Rep H (.ref p) (.tup ds)
  | lst {p : Addr} {vs : List V} {ds : List D} : H p = some (.lst vs) → Reps H vs ds → Rep H (.ref p) (.lst ds)
  | scr {p : Addr} {ns : List Int} : SqL K H p (ns.map V.int) → Rep H (.ref p) (.scr ns)
  | dI {p : Addr} {kvs : List (Key × V)} {ds : List (Int × D)} : H p = some (.dK kvs) → RepI H kvs ds → Rep H (.ref p) (.dI ds)
  | dT {p : Addr} {kvs : List (List Key × V)} {ds : List (List Int × D)} : H p = some (.dT kvs) → RepT H kvs ds → Rep H (.ref p) (.dT ds)
  | exc0 {a : Addr} {c : Nat} : H a = some (ExV (.ref (Y.at_ c)) none a) → Rep H (.ref a) (.exc c [])
  | exc1 {a dd : Addr} {c : Nat} {v : V} {d : D} : H a = some (ExV (.ref (Y.at_ c)) (some dd) a) → H dd = some (.xd [(Y.fld c, v)]) → Rep H v d → Rep H (.ref a) (.exc c [d])
inductive Reps (H : Hp) : List V → List D → Prop
  | nil : Reps H [] []
  | cons {v : V} {d : D} {vs : List V} {ds : List D} : Rep H v d → Reps H vs ds → Reps H (v :: vs) (d :: ds)
inductive RepI (H : Hp) : List (Key × V) → List (Int × D) → Prop
  | nil : RepI H [] []
  | cons {i : Int} {v : V} {d : D} {kvs : List (Key × V)} {ds : List (Int × D)} : Rep H v d → pureD d = true → RepI H kvs ds → RepI H ((.inl i, v) :: kvs) ((i, d) :: ds)
inductive RepT (H : Hp) : List (List Key × V) → List (List Int × D) → Prop
  | nil : RepT H [] []
  | cons {is : List Int} {v : V} {d : D} {kvs : List (List Key × V)} {ds : List (List Int × D)} : Rep H v d → pureD d = true → RepT H kvs ds → RepT H ((is.map .inl, v) :: kvs) ((is, d) :: ds)
end
end

section
variable {K : PySem.W.Frag} {Y : Cl} {H H' : Hp}

theorem Same.sqT {a : Addr} {xs : List V} (e : Same H H') (h : SqT K H a xs) : SqT K H' a xs := by
  rcases h with (h | ⟨o, h⟩) | h
  · exact .inl (.inl (e _ _ h))
  · exact .inl (.inr ⟨o, e _ _ h⟩)
  · exact .inr h

mutual
theorem Rep.mono (e : Same H H') : ∀ {v : V} {d : D}, Rep K Y H v d → Rep K Y H' v d
  | _, _, .non => .non
  | _, _, .bl => .bl
  | _, _, .int => .int
  | _, _, .str => .str
  | _, _, .tup h r => .tup (Same.sqT e h) (Reps.mono e r)
  | _, _, .lst h r => .lst (e _ _ h) (Reps.mono e r)
  | _, _, .scr h => .scr (e.seq h)
  | _, _, .dI h r => .dI (e _ _ h) (RepI.mono e r)
  | _, _, .dT h r => .dT (e _ _ h) (RepT.mono e r)
  | _, _, .exc0 h => .exc0 (e _ _ h)
  | _, _, .exc1 h1 h2 r => .exc1 (e _ _ h1) (e _ _ h2) (Rep.mono e r)
theorem Reps.mono (e : Same H H') : ∀ {vs : List V} {ds : List D}, Reps K Y H vs ds → Reps K Y H' vs ds
  | _, _, .nil => .nil
  | _, _, .cons h r => .cons (Rep.mono e h) (Reps.mono e r)
theorem RepI.mono (e : Same H H') : ∀ {vs : List (Key × V)} {ds : List (Int × D)}, RepI K Y H vs ds → RepI K Y H' vs ds
  | _, _, .nil => .nil
  | _, _, .cons h p r => .cons (Rep.mono e h) p (RepI.mono e r)
theorem RepT.mono (e : Same H H') : ∀ {vs : List (List Key × V)} {ds : List (List Int × D)}, RepT K Y H vs ds → RepT K Y H' vs ds
  | _, _, .nil => .nil
  | _, _, .cons h p r => .cons (Rep.mono e h) p (RepT.mono e r)
end

theorem Reps.length : ∀ {vs : List V} {ds : List D}, Reps K Y H vs ds → vs.length = ds.length
  | _, _, .nil => rfl
  | _, _, .cons _ r => congrArg (· + 1) (Reps.length r)
theorem Reps.get : ∀ {vs : List V} {ds : List D} {i : Nat} {d : D}, Reps K Y H vs ds → ds[i]? = some d → ∃ v, vs[i]? = some v ∧ Rep K Y H v d
  | _, _, i, _, .nil, e => by simp at e
  | v :: _, _, 0, d, .cons h _, e => by
    have e' := Option.some.inj e
    subst e'
    exact ⟨v, rfl, h⟩
  | _, _, i + 1, d, .cons _ r, e => Reps.get (i := i) r e
theorem Reps.append : ∀ {vs ws : List V} {ds es : List D}, Reps K Y H vs ds → Reps K Y H ws es → Reps K Y H (vs ++ ws) (ds ++ es)
  | _, _, _, _, .nil, s => s
  | _, _, _, _, .cons h r, s => .cons h (Reps.append r s)
theorem Reps.take : ∀ (n : Nat) {vs : List V} {ds : List D}, Reps K Y H vs ds → Reps K Y H (vs.take n) (ds.take n)
  | 0, _, _, _ => .nil
  | _ + 1, _, _, .nil => .nil
  | n + 1, _, _, .cons h r => .cons h (Reps.take n r)
theorem Reps.drop : ∀ (n : Nat) {vs : List V} {ds : List D}, Reps K Y H vs ds → Reps K Y H (vs.drop n) (ds.drop n)
  | 0, _, _, r => r
  | _ + 1, _, _, .nil => .nil
  | n + 1, _, _, .cons _ r => Reps.drop n r
theorem Reps.set {v : V} {d : D} (h0 : Rep K Y H v d) : ∀ (i : Nat) {vs : List V} {ds : List D}, Reps K Y H vs ds → Reps K Y H (vs.set i v) (ds.set i d)
  | _, _, _, .nil => .nil
  | 0, _, _, .cons _ r => .cons h0 r
  | i + 1, _, _, .cons h r => .cons h (Reps.set h0 i r)
theorem Reps.eraseIdx : ∀ (i : Nat) {vs : List V} {ds : List D}, Reps K Y H vs ds → Reps K Y H (vs.eraseIdx i) (ds.eraseIdx i)
  | _, _, _, .nil => .nil
  | 0, _, _, .cons _ r => r
  | i + 1, _, _, .cons h r => .cons h (Reps.eraseIdx i r)
theorem Reps.insertIdx {v : V} {d : D} (h0 : Rep K Y H v d) : ∀ (i : Nat) {vs : List V} {ds : List D}, Reps K Y H vs ds → Reps K Y H (vs.insertIdx i v) (ds.insertIdx i d)
  | 0, _, _, r => .cons h0 r
  | i + 1, _, _, .nil => .nil
  | i + 1, _, _, .cons h r => .cons h (Reps.insertIdx h0 i r)
theorem Reps.reverse : ∀ {vs : List V} {ds : List D}, Reps K Y H vs ds → Reps K Y H vs.reverse ds.reverse
  | _, _, .nil => .nil
  | _, _, .cons h r => by
    rw [List.reverse_cons, List.reverse_cons]
    exact (Reps.reverse r).append (.cons h .nil)
theorem Reps.ints : ∀ {vs : List V} (ns : List Int), Reps K Y H vs (ns.map D.int) → vs = ns.map V.int
  | _, [], .nil => rfl
  | _, _ :: ns, .cons .int r => by
    rw [Reps.ints ns r]
    rfl
theorem Reps.of_ints : ∀ (ns : List Int), Reps K Y H (ns.map V.int) (ns.map D.int)
  | [] => .nil
  | _ :: ns => .cons .int (Reps.of_ints ns)

/-! ### what never changes: all but lists, dicts, sets, instances -/
def fixO : HO → Bool
  | .lst _ => false
  | .dK _ => false
  | .dT _ => false
  | .set _ _ => false
  | .ins _ _ _ => false
  | _ => true
/-- what never changes is kept -/
def Fix (H H' : Hp) : Prop := ∀ a o, H a = some o → fixO o = true → H' a = some o
theorem Same.fix (e : Same H H') : Fix H H' := fun a o h _ => e a o h
theorem Fix.sqT {a : Addr} {xs : List V} (e : Fix H H') (h : SqT K H a xs) : SqT K H' a xs := by
  rcases h with (h | ⟨o, h⟩) | h
  · exact .inl (.inl (e _ _ h rfl))
  · exact .inl (.inr ⟨o, e _ _ h rfl⟩)
  · exact .inr h
mutual
theorem Rep.fix (e : Fix H H') : ∀ {v : V} {d : D}, Rep K Y H v d → pureD d = true → Rep K Y H' v d
  | _, _, .non, _ => .non
  | _, _, .bl, _ => .bl
  | _, _, .int, _ => .int
  | _, _, .str, _ => .str
  | _, _, .tup h r, p => .tup (e.sqT h) (Reps.fix e r (by rw [pureD_tup] at p; exact p))
  | _, _, .lst _ _, p => by rw [pureD_lst] at p; cases p
  | _, _, .scr _, p => by rw [pureD_scr] at p; cases p
  | _, _, .dI _ _, p => by rw [pureD_dI] at p; cases p
  | _, _, .dT _ _, p => by rw [pureD_dT] at p; cases p
  | _, _, .exc0 h, _ => .exc0 (e _ _ h rfl)
  | _, _, .exc1 h1 h2 r, p => .exc1 (e _ _ h1 rfl) (e _ _ h2 rfl) (Rep.fix e r (by rw [pureD_exc, pureDs_cons] at p; exact (Bool.and_eq_true_iff.mp p).1))
theorem Reps.fix (e : Fix H H') : ∀ {vs : List V} {ds : List D}, Reps K Y H vs ds → pureDs ds = true → Reps K Y H' vs ds
  | _, _, .nil, _ => .nil
  | _, _, .cons h r, p => by
    rw [pureDs_cons] at p
    have q := Bool.and_eq_true_iff.mp p
    exact .cons (Rep.fix e h q.1) (Reps.fix e r q.2)
end
theorem RepI.fix (e : Fix H H') : ∀ {vs : List (Key × V)} {ds : List (Int × D)}, RepI K Y H vs ds → RepI K Y H' vs ds
  | _, _, .nil => .nil
  | _, _, .cons h p r => .cons (Rep.fix e h p) p (RepI.fix e r)
theorem RepT.fix (e : Fix H H') : ∀ {vs : List (List Key × V)} {ds : List (List Int × D)}, RepT K Y H vs ds → RepT K Y H' vs ds
  | _, _, .nil => .nil
  | _, _, .cons h p r => .cons (Rep.fix e h p) p (RepT.fix e r)
end

/-! ### data that a slot owns: the lists' and dicts' places, each once -/
section
variable (K : PySem.W.Frag) (Y : Cl)
mutual
inductive Own (H : Hp) : V → D → List Addr → Prop
  | pur {v : V} {d : D} : pureD d = true → Rep K Y H v d → Own H v d []
  | tup {p : Addr} {vs : List V} {ds : List D} {fp : List Addr} : SqT K H p vs → Owns H vs ds fp → Own H (.ref p) (.tup ds) fp
  | lst {p : Addr} {vs : List V} {ds : List D} {fp : List Addr} : H p = some (.lst vs) → Owns H vs ds fp → Own H (.ref p) (.lst ds) (p :: fp)
  | dI {p : Addr} {kvs : List (Key × V)} {ds : List (Int × D)} : H p = some (.dK kvs) → RepI K Y H kvs ds → Own H (.ref p) (.dI ds) [p]
  | dT {p : Addr} {kvs : List (List Key × V)} {ds : List (List Int × D)} : H p = some (.dT kvs) → RepT K Y H kvs ds → Own H (.ref p) (.dT ds) [p]
inductive Owns (H : Hp) : List V → List D → List Addr → Prop
  | nil : Owns H [] [] []
  | cons {v : V} {d : D} {vs : List V} {ds : List D} {f g : List Addr} : Own H v d f → Owns H vs ds g → Owns H (v :: vs) (d :: ds) (f ++ g)
end
end
section
variable {K : PySem.W.Frag} {Y : Cl} {H H' : Hp}
mutual
theorem Own.rep : ∀ {v : V} {d : D} {fp : List Addr}, Own K Y H v d fp → Rep K Y H v d
  | _, _, _, .pur _ r => r
  | _, _, _, .tup h r => .tup h (Owns.reps r)
  | _, _, _, .lst h r => .lst h (Owns.reps r)
  | _, _, _, .dI h r => .dI h r
  | _, _, _, .dT h r => .dT h r
theorem Owns.reps : ∀ {vs : List V} {ds : List D} {fp : List Addr}, Owns K Y H vs ds fp → Reps K Y H vs ds
  | _, _, _, .nil => .nil
  | _, _, _, .cons h r => .cons (Own.rep h) (Owns.reps r)
end
mutual
theorem Own.there : ∀ {v : V} {d : D} {fp : List Addr}, Own K Y H v d fp → ∀ p ∈ fp, ∃ o, H p = some o ∧ fixO o = false
  | _, _, _, .pur _ _, p, hp => by cases hp
  | _, _, _, .tup _ r, p, hp => Owns.there r p hp
  | _, _, _, .lst h r, p, hp => by
    rcases List.mem_cons.mp hp with rfl | hp
    · exact ⟨_, h, rfl⟩
    · exact Owns.there r p hp
  | _, _, _, .dI h _, p, hp => by
    have e := List.mem_singleton.mp hp
    subst e
    exact ⟨_, h, rfl⟩
  | _, _, _, .dT h _, p, hp => by
    have e := List.mem_singleton.mp hp
    subst e
    exact ⟨_, h, rfl⟩
theorem Owns.there : ∀ {vs : List V} {ds : List D} {fp : List Addr}, Owns K Y H vs ds fp → ∀ p ∈ fp, ∃ o, H p = some o ∧ fixO o = false
  | _, _, _, .nil, p, hp => by cases hp
  | _, _, _, .cons h r, p, hp => by
    rcases List.mem_append.mp hp with hp | hp
    · exact Own.there h p hp
    · exact Owns.there r p hp
end
mutual
theorem Own.frame (e : Fix H H') : ∀ {v : V} {d : D} {fp : List Addr}, Own K Y H v d fp → (∀ p ∈ fp, H' p = H p) → Own K Y H' v d fp
  | _, _, _, .pur p r, _ => .pur p (Rep.fix e r p)
  | _, _, _, .tup h r, k => .tup (e.sqT h) (Owns.frame e r k)
  | _, _, _, .lst h r, k => .lst ((k _ List.mem_cons_self).trans h) (Owns.frame e r fun p hp => k p (List.mem_cons_of_mem _ hp))
  | _, _, _, .dI h r, k => .dI ((k _ List.mem_cons_self).trans h) (RepI.fix e r)
  | _, _, _, .dT h r, k => .dT ((k _ List.mem_cons_self).trans h) (RepT.fix e r)
theorem Owns.frame (e : Fix H H') : ∀ {vs : List V} {ds : List D} {fp : List Addr}, Owns K Y H vs ds fp → (∀ p ∈ fp, H' p = H p) → Owns K Y H' vs ds fp
  | _, _, _, .nil, _ => .nil
  | _, _, _, .cons h r, k => .cons (Own.frame e h fun p hp => k p (List.mem_append_left _ hp)) (Owns.frame e r fun p hp => k p (List.mem_append_right _ hp))
end
theorem Own.mono (e : Same H H') {v : V} {d : D} {fp : List Addr} (h : Own K Y H v d fp) : Own K Y H' v d fp := h.frame (Same.fix e) fun p hp => by
  obtain ⟨o, ho, _⟩ := h.there p hp
  rw [ho, e p o ho]
theorem Owns.mono (e : Same H H') {v : List V} {d : List D} {fp : List Addr} (h : Owns K Y H v d fp) : Owns K Y H' v d fp := h.frame (Same.fix e) fun p hp => by
  obtain ⟨o, ho, _⟩ := h.there p hp
  rw [ho, e p o ho]
theorem Owns.append : ∀ {vs ws : List V} {ds es : List D} {f g : List Addr}, Owns K Y H vs ds f → Owns K Y H ws es g → Owns K Y H (vs ++ ws) (ds ++ es) (f ++ g)
  | _, _, _, _, _, _, .nil, s => s
  | _, _, _, _, _, _, .cons h r, s => by
    rw [List.append_assoc]
    exact .cons h (Owns.append r s)
theorem Owns.one {v : V} {d : D} {f : List Addr} (h : Own K Y H v d f) : Owns K Y H [v] [d] f := by
  have := Owns.cons h .nil
  rwa [List.append_nil] at this
theorem Owns.pur : ∀ {vs : List V} {ds : List D}, Reps K Y H vs ds → pureDs ds = true → Owns K Y H vs ds []
  | _, _, .nil, _ => .nil
  | _, _, .cons h r, p => by
    rw [pureDs_cons] at p
    have q := Bool.and_eq_true_iff.mp p
    exact .cons (f := []) (g := []) (.pur q.1 h) (Owns.pur r q.2)
theorem pureDs_append : ∀ (xs ys : List D), pureDs (xs ++ ys) = (pureDs xs && pureDs ys)
  | [], ys => by simp [pureDs_nil]
  | x :: xs, ys => by
    rw [List.cons_append, pureDs_cons, pureDs_cons, pureDs_append xs ys, Bool.and_assoc]
theorem pureDs_iff : ∀ {ds : List D}, pureDs ds = true ↔ ∀ d ∈ ds, pureD d = true
  | [] => by simp [pureDs_nil]
  | d :: ds => by
    rw [pureDs_cons, Bool.and_eq_true, pureDs_iff (ds := ds)]
    simp
end
end Ow
end
section
set_option linter.all false
set_option maxRecDepth 100000
set_option maxHeartbeats 1000000
/-! Ow2: expressions: a piece of syntax and the plain function of the slots' data that it comes to. -/
namespace Ow
open PySem L2 PySem.Spec PyProof.Rows

abbrev St := L2.St
/-- the slots' data -/
abbrev En := List (Option D)
def EnOk (K : PySem.W.Frag) (Y : Cl) (H : Hp) (σ : St) (en : En) : Prop := ∀ (i : Nat) (d : D), en[i]? = some (some d) → ∃ v, σ[i]? = some (some v) ∧ Rep K Y H v d
theorem EnOk.mono {K : PySem.W.Frag} {Y : Cl} {H H' : Hp} {σ : St} {en : En} (h : EnOk K Y H σ en) (e : Same H H') : EnOk K Y H' σ en := fun i d q => by
  obtain ⟨v, a, b⟩ := h i d q
  exact ⟨v, a, b.mono e⟩
/-- how an error lies behind a raise -/
def ExRep (K : PySem.W.Frag) (Y : Cl) (H : Hp) (e : Err) (cls : Value) (d : Option Addr) : Prop :=
  cls = .ref (Y.at_ e.c) ∧ ((e.xs = [] ∧ d = none) ∨ ∃ x dd v, e.xs = [x] ∧ d = some dd ∧ H dd = some (.xd [(Y.fld e.c, v)]) ∧ Rep K Y H v x)
theorem ExRep.mono {K : PySem.W.Frag} {Y : Cl} {H H' : Hp} {e : Err} {cls : Value} {d : Option Addr} (h : ExRep K Y H e cls d) (s : Same H H') : ExRep K Y H' e cls d := by
  obtain ⟨h1, h2⟩ := h
  refine ⟨h1, ?_⟩
  rcases h2 with h2 | ⟨x, dd, v, a, b, c, r⟩
  · exact .inl h2
  · exact .inr ⟨x, dd, v, a, b, s _ _ c, r.mono s⟩
/-- what is wished of errors: none may come, or by slots -/
abbrev Wh := Option WX
def ExW (K : PySem.W.Frag) (Y : Cl) (W : Wh) (σ : St) (H : Hp) (e : Err) : Prop := ∃ w, W = some w ∧ ∀ cls d H', Same H H' → ExRep K Y H' e cls d → w cls d σ H'
theorem ExW.mono {K : PySem.W.Frag} {Y : Cl} {W : Wh} {σ : St} {H H' : Hp} {e : Err} (s : Same H H') (h : ExW K Y W σ H e) : ExW K Y W σ H' e := by
  obtain ⟨w, a, b⟩ := h
  exact ⟨w, a, fun cls d H'' s' r => b cls d H'' (s.trans s') r⟩
def WPr {α : Type} (K : PySem.W.Frag) (Y : Cl) (W : Wh) (σ : St) (H : Hp) (r : Res α) (Q : α → Prop) : Prop :=
  match r with
  | .ok a => Q a
  | .exc e => ExW K Y W σ H e
  | .stuck => False
section
variable {K : PySem.W.Frag} {Y : Cl} {W : Wh} {σ : St} {H H' : Hp}
theorem WPr.imp {α : Type} {r : Res α} {Q Q' : α → Prop} (h : WPr K Y W σ H r Q) (s : Same H H') (f : ∀ a, Q a → Q' a) : WPr K Y W σ H' r Q' := by
  cases r with
  | ok a => exact f a h
  | exc e => exact ExW.mono s h
  | stuck => exact h
theorem WPr.bind {α β : Type} {r : Res α} {g : α → Res β} {Q : β → Prop} (h : WPr K Y W σ H (r >>= g) Q) : WPr K Y W σ H r fun a => WPr K Y W σ H (g a) Q := by
  cases r with
  | ok a => exact h
  | exc e => exact h
  | stuck => exact h
end

/-- read only (r): a value that stands for the data now. new (n): one that nobody else knows -/
inductive Kd where
  | r | n
def Po (K : PySem.W.Frag) (Y : Cl) (k : Kd) (d : D) (H : Hp) (Q : VK) : Prop :=
  match k with
  | .r => ∀ v H', Same H H' → Rep K Y H' v d → Q v H'
  | .n => ∀ v H' fp, Same H H' → Own K Y H' v d fp → fp.Nodup → (∀ p ∈ fp, H p = none) → Q v H'
section
variable {K : PySem.W.Frag} {Y : Cl} {W : Wh} {σ : St} {H H' : Hp} {k : Kd} {d : D} {Q : VK}
theorem Po.mono (h : Po K Y k d H Q) (s : Same H H') : Po K Y k d H' Q := by
  cases k with
  | r => exact fun v H2 s2 r => h v H2 (s.trans s2) r
  | n => exact fun v H2 fp s2 r nd fr => h v H2 fp (s.trans s2) r nd fun p hp => s.free (fr p hp)
/-- pure data -/
theorem Po.pure {v : V} (h : Po K Y k d H Q) (s : Same H H') (r : Rep K Y H' v d) (p : pureD d = true) : Q v H' := by
  cases k with
  | r => exact h v H' s r
  | n => exact h v H' [] s (.pur p r) .nil (fun _ z => nomatch z)
/-- a reader takes new things too -/
theorem Po.toN (h : Po K Y .r d H Q) : Po K Y .n d H Q := fun v H' fp s r _ _ => h v H' s r.rep
end

def tJ (K : PySem.W.Frag) (Y : Cl) (W : Wh) (k : Kd) (f : En → Res D) : TE := fun σ H Q => ∃ en, EnOk K Y H σ en ∧ WPr K Y W σ H (f en) fun d => Po K Y k d H Q
def J (X : Cx) (Y : Cl) (W : Wh) (k : Kd) (e : Expr) (f : En → Res D) : Prop := PE X e (tJ X.K Y W k f)
def tT (K : PySem.W.Frag) (Y : Cl) (W : Wh) (f : En → Res Bool) : TT := fun σ H Q => ∃ en, EnOk K Y H σ en ∧ WPr K Y W σ H (f en) fun b => ∀ H', Same H H' → Q b H'
def T (X : Cx) (Y : Cl) (W : Wh) (e : Expr) (f : En → Res Bool) : Prop := PT X e (tT X.K Y W f)
def tA (K : PySem.W.Frag) (Y : Cl) (W : Wh) (n : Nat) (f : En → Res (List D)) : TA := fun σ H Q => ∃ en, EnOk K Y H σ en ∧ WPr K Y W σ H (f en) fun ds => ∀ vs H', Same H H' → Reps K Y H' vs ds → vs.length = n → Q vs H'
def A (X : Cx) (Y : Cl) (W : Wh) (es : List Expr) (f : En → Res (List D)) : Prop := PA X es (tA X.K Y W es.length f)

theorem PE.imp {X : Cx} {e : Expr} {t t' : TE} (h : PE X e t) (f : ∀ σ H Q, t' σ H Q → t σ H Q) : PE X e t' := ⟨fun pins s σ H Q I q => h.run pins s σ H Q I (f σ H Q q)⟩
theorem PT.imp {X : Cx} {e : Expr} {t t' : TT} (h : PT X e t) (f : ∀ σ H Q, t' σ H Q → t σ H Q) : PT X e t' := ⟨fun pins s σ H Q I q => h.run pins s σ H Q I (f σ H Q q)⟩
theorem PA.imp {X : Cx} {e : List Expr} {t t' : TA} (h : PA X e t) (f : ∀ σ H Q, t' σ H Q → t σ H Q) : PA X e t' := ⟨fun pos pins s σ H Q I q => h.run pos pins s σ H Q I (f σ H Q q)⟩
theorem PS.imp {X : Cx} {e : Stmt} {t t' : TS} (h : PS X e t) (f : ∀ D σ H, t' D σ H → t D σ H) : PS X e t' := ⟨fun pins s σ H D I q => h.run pins s σ H D I (f D σ H q)⟩
theorem PSs.imp {X : Cx} {e : List Stmt} {t t' : TS} (h : PSs X e t) (f : ∀ D σ H, t' D σ H → t D σ H) : PSs X e t' := ⟨fun pins s σ H D I q => h.run pins s σ H D I (f D σ H q)⟩

/-! ### the functions' words -/
def xVar (i : Nat) : En → Res D := fun en => match en[i]? with
  | some (some d) => .ok d
  | _ => .stuck
def xC (d : D) : En → Res D := fun _ => .ok d
def x2 (op : D → D → Res D) (f g : En → Res D) : En → Res D := fun en => f en >>= fun x => g en >>= fun y => op x y
def x1 (op : D → Res D) (f : En → Res D) : En → Res D := fun en => f en >>= op
/-- new out of pure -/
def xP (f : En → Res D) : En → Res D := fun en => f en >>= fun d => if pureD d = true then .ok d else .stuck
def tBl (f : En → Res D) : En → Res Bool := fun en => f en >>= fun d => match d with
  | .bl b => .ok b
  | _ => .stuck
def tAn (f g : En → Res Bool) : En → Res Bool := fun en => f en >>= fun b => if b = true then g en else .ok false
def tOr' (f g : En → Res Bool) : En → Res Bool := fun en => f en >>= fun b => if b = true then .ok true else g en
def tNo (f : En → Res Bool) : En → Res Bool := fun en => f en >>= fun b => .ok (!b)
def aNil : En → Res (List D) := fun _ => .ok []
def aCons (f : En → Res D) (g : En → Res (List D)) : En → Res (List D) := fun en => f en >>= fun d => g en >>= fun ds => .ok (d :: ds)

section
variable {X : Cx} {Y : Cl} {W : Wh} {k : Kd} {a b c : Expr} {fa fb fc : En → Res D} {pos : Pos}

theorem j_var (i : Nat) {x : Str} {pos : Pos} (hN : X.N[i]? = some x := by rfl) (hv : Vis X.env.scope x := by first | exact Or.inl rfl | exact Or.inr (Or.inl rfl) | exact Or.inr (Or.inr rfl)) (hd : (x == ("__debug__" : Str)) = false := by decide)
    (hcd : (x == ("__classdict__" : Str)) = false := by decide) : J X Y W .r (.Name x pos) (xVar i) :=
  PE.imp (pe_var hN hv hd hcd) fun σ H Q ⟨en, he, h⟩ => by
    unfold xVar at h
    cases q : en[i]? with
    | none =>
      simp only [q] at h
      exact h.elim
    | some o =>
      cases o with
      | none =>
        simp only [q] at h
        exact h.elim
      | some d =>
        simp only [q] at h
        obtain ⟨v, hv, r⟩ := he i d q
        exact ⟨v, hv, h v H (Same.refl H) r⟩
theorem j_int {i j pos} : J X Y W k (.Constant (.int i) j pos) (xC (.int i)) := PE.imp pe_int fun σ H Q ⟨en, he, h⟩ => Po.pure h (Same.refl H) .int (pureD_int i)
theorem j_bl {i j pos} : J X Y W k (.Constant (.bool i) j pos) (xC (.bl i)) := PE.imp pe_bl fun σ H Q ⟨en, he, h⟩ => Po.pure h (Same.refl H) .bl (pureD_bl i)
theorem j_non {j pos} : J X Y W k (.Constant .none j pos) (xC .non) := PE.imp pe_non fun σ H Q ⟨en, he, h⟩ => Po.pure h (Same.refl H) .non pureD_non
theorem j_str {x j pos} : J X Y W k (.Constant (.str x) j pos) (xC (.str x)) := PE.imp pe_str fun σ H Q ⟨en, he, h⟩ => Po.pure h (Same.refl H) .str (pureD_str x)
theorem j_n (h : J X Y W .n a fa) : J X Y W .r a fa := PE.imp h fun σ H Q ⟨en, he, h⟩ => ⟨en, he, h.imp (Same.refl H) fun d p => p.toN⟩
theorem j_p (h : J X Y W .r a fa) : J X Y W .n a (xP fa) := PE.imp h fun σ H Q ⟨en, he, h⟩ => ⟨en, he, (WPr.bind h).imp (Same.refl H) fun d p => by
  by_cases hd : pureD d = true
  · rw [if_pos hd] at p
    exact fun v H' s r => p v H' [] s (.pur hd r) .nil (fun _ z => nomatch z)
  · rw [if_neg hd] at p
    exact p.elim⟩
/-- pure data of known form -/
theorem j_pure (h : J X Y W .r a fa) (hp : ∀ en d, fa en = .ok d → pureD d = true) : J X Y W .n a fa := PE.imp h fun σ H Q ⟨en, he, h⟩ => ⟨en, he, by
  cases e : fa en with
  | ok d =>
    rw [e] at h
    exact fun v H' s r => h v H' [] s (.pur (hp en d e) r) .nil (fun _ z => nomatch z)
  | exc x => rw [e] at h; exact h
  | stuck => rw [e] at h; exact h⟩

/-- an operation by values is the plain one -/
def Op2 (K : PySem.W.Frag) (Y : Cl) (k : Kd) (r : R2) (op : D → D → Res D) : Prop := ∀ (H : Hp) (x y : V) (d e : D) (Q : VK), Rep K Y H x d → Rep K Y H y e → (∃ z, op d e = .ok z ∧ Po K Y k z H Q) → r x y H Q
def Op1 (K : PySem.W.Frag) (Y : Cl) (k : Kd) (r : V → Hp → VK → Prop) (op : D → Res D) : Prop := ∀ (H : Hp) (x : V) (d : D) (Q : VK), Rep K Y H x d → (∃ z, op d = .ok z ∧ Po K Y k z H Q) → r x H Q
/-- operations raise nothing -/
def Calm2 (op : D → D → Res D) : Prop := ∀ d e x, op d e ≠ .exc x
def Calm1 (op : D → Res D) : Prop := ∀ d x, op d ≠ .exc x
theorem WPr.calm {K : PySem.W.Frag} {α : Type} {σ : St} {H : Hp} {r : Res α} {Q : α → Prop} (hc : ∀ x, r ≠ .exc x) (h : WPr K Y W σ H r Q) : ∃ z, r = .ok z ∧ Q z := by
  cases r with
  | ok z => exact ⟨z, rfl, h⟩
  | exc e => exact absurd rfl (hc e)
  | stuck => exact h.elim
theorem two {σ : St} {H : Hp} {Q : VK} {op : D → D → Res D} {r : R2} (hr : Op2 X.K Y k r op) (hc : Calm2 op) (h : tJ X.K Y W k (x2 op fa fb) σ H Q) : tJ X.K Y W .r fa σ H fun x H1 => tJ X.K Y W .r fb σ H1 fun y H2 => r x y H2 Q := by
  obtain ⟨en, he, h⟩ := h
  refine ⟨en, he, (WPr.bind h).imp (Same.refl H) fun d p => ?_⟩
  intro v H1 s1 r1
  refine ⟨en, he.mono s1, (WPr.bind p).imp s1 fun e q => ?_⟩
  intro y H2 s2 r2
  obtain ⟨z, ez, pz⟩ := WPr.calm (hc d e) q
  exact hr H2 v y d e Q (r1.mono s2) r2 ⟨z, ez, pz.mono (s1.trans s2)⟩
theorem j_op {op : Operator} {r : R2} {o : D → D → Res D} (ho : OpR X (binaryOp op) r) (hr : Op2 X.K Y k r o) (hc : Calm2 o) (ha : J X Y W .r a fa) (hb : J X Y W .r b fb) : J X Y W k (.BinOp a op b pos) (x2 o fa fb) :=
  PE.imp (pe_op ho ha hb) fun σ H Q h => two hr hc h
theorem j_cmp {op : CmpOp} {r : R2} {o : D → D → Res D} (ho : OpR X (compareOp op) r) (hr : Op2 X.K Y k r o) (hc : Calm2 o) (ha : J X Y W .r a fa) (hb : J X Y W .r b fb) (hm : behindInMarks op b = false) : J X Y W k (.Compare a [op] [b] pos) (x2 o fa fb) :=
  PE.imp (pe_cmpR ho ha hb hm) fun σ H Q h => two hr hc h
theorem t_cmp {op : CmpOp} {r : R2} {o : D → D → Res D} (ho : OpR X (compareOp op) r) (hr : Op2 X.K Y .r r o) (hc : Calm2 o) (ha : J X Y W .r a fa) (hb : J X Y W .r b fb) (hm : behindInMarks op b = false) : T X Y W (.Compare a [op] [b] pos) (tBl (x2 o fa fb)) :=
  PT.imp (pt_cmpR ho ha hb hm) fun σ H Q ⟨en, he, h⟩ => by
    refine two hr hc ⟨en, he, (WPr.bind h).imp (Same.refl H) fun d p => ?_⟩
    intro v H' s r
    cases r with
    | bl => exact ⟨_, rfl, p H' s⟩
    | _ => exact p.elim
theorem j_un {op : UnaryOp} {r : V → Hp → VK → Prop} {o : D → Res D} (ho : UnR X (unaryOp op) r) (hr : Op1 X.K Y k r o) (hc : Calm1 o) (ha : J X Y W .r a fa) : J X Y W k (.UnaryOp op a pos) (x1 o fa) :=
  PE.imp (pe_un ho ha) fun σ H Q ⟨en, he, h⟩ => ⟨en, he, (WPr.bind h).imp (Same.refl H) fun d p => by
    intro v H1 s1 r1
    obtain ⟨z, ez, pz⟩ := WPr.calm (hc d) p
    exact hr H1 v d Q r1 ⟨z, ez, pz.mono s1⟩⟩
theorem j_ix {r : R2} {o : D → D → Res D} (hi : IxR X r) (hr : Op2 X.K Y k r o) (hc : Calm2 o) (ha : J X Y W .r a fa) (hb : J X Y W .r b fb) (hs : PlainIx b) : J X Y W k (.Subscript a b pos) (x2 o fa fb) :=
  PE.imp (pe_ix hi ha hb hs) fun σ H Q h => two hr hc h

/-! ### tests -/
variable {ga gb : En → Res Bool} {rest : List Expr}
theorem t_val {e : Expr} (h : J X Y W .r e fa) (he : ∀ whole, isTrue e X.env whole = (do let v ← whole; standAt e.pos; holding [v] (truthy v)) := by intro _; rfl) : T X Y W e (tBl fa) :=
  PT.imp (pt_val h he) fun σ H Q ⟨en, he, h⟩ => ⟨en, he, (WPr.bind h).imp (Same.refl H) fun d p => by
    intro v H' s r
    cases r with
    | bl => exact ⟨_, rfl, p H' s⟩
    | _ => exact p.elim⟩
def Tw (X : Cx) (Y : Cl) (W : Wh) (e : Expr) (f : En → Res Bool) : Prop := PW X e (tT X.K Y W f)
theorem PW.imp {X : Cx} {e : Expr} {t t' : TT} (h : PW X e t) (f : ∀ σ H Q, t' σ H Q → t σ H Q) : PW X e t' := ⟨fun wh pins s σ H Q I q => h.run wh pins s σ H Q I (f σ H Q q)⟩
theorem t_w {e : Expr} (h : Tw X Y W e ga) : T X Y W e ga := PW.pt h
theorem w_and1 (h : T X Y W a ga) : Tw X Y W (.BoolOp .And [a] pos) ga := pw_and1 h
theorem w_or1 (h : T X Y W a ga) : Tw X Y W (.BoolOp .Or [a] pos) ga := pw_or1 h
theorem w_and (ha : T X Y W a ga) (hb : Tw X Y W (.BoolOp .And (b :: rest) pos) gb) : Tw X Y W (.BoolOp .And (a :: b :: rest) pos) (tAn ga gb) :=
  PW.imp (pw_and ha hb) fun σ H Q ⟨en, he, h⟩ => ⟨en, he, (WPr.bind h).imp (Same.refl H) fun c p => by
    intro H' s
    cases c with
    | true =>
      rw [if_pos rfl] at p ⊢
      exact ⟨en, he.mono s, p.imp s fun b q H2 s2 => q H2 (s.trans s2)⟩
    | false =>
      rw [if_neg Bool.false_ne_true] at p ⊢
      exact p H' s⟩
theorem w_or (ha : T X Y W a ga) (hb : Tw X Y W (.BoolOp .Or (b :: rest) pos) gb) : Tw X Y W (.BoolOp .Or (a :: b :: rest) pos) (tOr' ga gb) :=
  PW.imp (pw_or ha hb) fun σ H Q ⟨en, he, h⟩ => ⟨en, he, (WPr.bind h).imp (Same.refl H) fun c p => by
    intro H' s
    cases c with
    | false =>
      rw [if_neg Bool.false_ne_true] at p ⊢
      exact ⟨en, he.mono s, p.imp s fun b q H2 s2 => q H2 (s.trans s2)⟩
    | true =>
      rw [if_pos rfl] at p ⊢
      exact p H' s⟩
theorem t_not (ha : T X Y W a ga) : T X Y W (.UnaryOp .Not a pos) (tNo ga) :=
  PT.imp (pt_not ha) fun σ H Q ⟨en, he, h⟩ => ⟨en, he, (WPr.bind h).imp (Same.refl H) fun c p H' s => p H' s⟩
/-- and, or, not as values: the operands bools -/
def xAn (f g : En → Res D) : En → Res D := fun en => f en >>= fun d => match d with
  | .bl b => if b = true then g en else .ok (.bl false)
  | _ => .stuck
def xOr (f g : En → Res D) : En → Res D := fun en => f en >>= fun d => match d with
  | .bl b => if b = true then .ok (.bl true) else g en
  | _ => .stuck
def xNo (f : En → Res D) : En → Res D := fun en => f en >>= fun d => match d with
  | .bl b => .ok (.bl (!b))
  | _ => .stuck
theorem j_one {op} (h : J X Y W k a fa) : J X Y W k (.BoolOp op [a] pos) fa := pe_one h
theorem j_and (ha : J X Y W .r a fa) (hb : J X Y W k (.BoolOp .And (b :: rest) pos) fb) : J X Y W k (.BoolOp .And (a :: b :: rest) pos) (xAn fa fb) :=
  PE.imp (pe_and ha hb) fun σ H Q ⟨en, he, h⟩ => ⟨en, he, (WPr.bind h).imp (Same.refl H) fun d p => by
    intro v H' s r
    cases r with
    | @bl c =>
      refine ⟨c, rfl, ?_⟩
      cases c with
      | true =>
        rw [if_pos rfl]
        exact ⟨en, he.mono s, WPr.imp (show WPr X.K Y W σ H (fb en) _ from p) s fun d q => q.mono s⟩
      | false =>
        rw [if_neg Bool.false_ne_true]
        exact Po.pure (show Po X.K Y k (.bl false) H Q from p) s .bl (pureD_bl _)
    | _ => exact p.elim⟩
theorem j_or (ha : J X Y W .r a fa) (hb : J X Y W k (.BoolOp .Or (b :: rest) pos) fb) : J X Y W k (.BoolOp .Or (a :: b :: rest) pos) (xOr fa fb) :=
  PE.imp (pe_or ha hb) fun σ H Q ⟨en, he, h⟩ => ⟨en, he, (WPr.bind h).imp (Same.refl H) fun d p => by
    intro v H' s r
    cases r with
    | @bl c =>
      refine ⟨c, rfl, ?_⟩
      cases c with
      | false =>
        rw [if_neg Bool.false_ne_true]
        exact ⟨en, he.mono s, WPr.imp (show WPr X.K Y W σ H (fb en) _ from p) s fun d q => q.mono s⟩
      | true =>
        rw [if_pos rfl]
        exact Po.pure (show Po X.K Y k (.bl true) H Q from p) s .bl (pureD_bl _)
    | _ => exact p.elim⟩
theorem j_not (ha : J X Y W .r a fa) : J X Y W k (.UnaryOp .Not a pos) (xNo fa) :=
  PE.imp (pe_not ha) fun σ H Q ⟨en, he, h⟩ => ⟨en, he, (WPr.bind h).imp (Same.refl H) fun d p => by
    intro v H' s r
    cases r with
    | @bl c => exact ⟨c, rfl, Po.pure (show Po X.K Y k (.bl (!c)) H Q from p) s .bl (pureD_bl _)⟩
    | _ => exact p.elim⟩
def xIf (t : En → Res Bool) (f g : En → Res D) : En → Res D := fun en => t en >>= fun b => if b = true then f en else g en
theorem j_if (hc : T X Y W c ga) (ha : J X Y W k a fa) (hb : J X Y W k b fb) : J X Y W k (.IfExp c a b pos) (xIf ga fa fb) :=
  PE.imp (pe_ifExp hc ha hb) fun σ H Q ⟨en, he, h⟩ => ⟨en, he, (WPr.bind h).imp (Same.refl H) fun d p H' s => by
    cases d with
    | true =>
      rw [if_pos rfl] at p ⊢
      exact ⟨en, he.mono s, p.imp s fun d q => q.mono s⟩
    | false =>
      rw [if_neg Bool.false_ne_true] at p ⊢
      exact ⟨en, he.mono s, p.imp s fun d q => q.mono s⟩⟩

/-! ### arguments, displays -/
variable {es : List Expr} {fs : En → Res (List D)}
theorem a_nil : A X Y W [] aNil := PA.imp pa_nil fun σ H Q ⟨en, he, h⟩ => h [] H (Same.refl H) .nil rfl
theorem a_cons (ha : J X Y W .r a fa) (hr : A X Y W es fs) (hs : starEach (a :: es) X.env = (false, eval a X.env) :: starEach es X.env := by rfl) : A X Y W (a :: es) (aCons fa fs) :=
  PA.imp (pa_cons ha hr hs) fun σ H Q ⟨en, he, h⟩ => ⟨en, he, (WPr.bind h).imp (Same.refl H) fun d p => by
    intro v H1 s1 r1
    refine ⟨en, he.mono s1, (WPr.bind p).imp s1 fun ds q => ?_⟩
    intro vs H2 s2 r2 l2
    exact q (v :: vs) H2 (s1.trans s2) (.cons (r1.mono s2) r2) (congrArg (· + 1) l2)⟩
/-- arguments that are new, each with its places -/
def tAn' (K : PySem.W.Frag) (Y : Cl) (W : Wh) (f : En → Res (List D)) : TA := fun σ H Q => ∃ en, EnOk K Y H σ en ∧ WPr K Y W σ H (f en) fun ds => ∀ vs H' fp, Same H H' → Owns K Y H' vs ds fp → fp.Nodup → (∀ p ∈ fp, H p = none) → Q vs H'
def An (X : Cx) (Y : Cl) (W : Wh) (es : List Expr) (f : En → Res (List D)) : Prop := PA X es (tAn' X.K Y W f)
theorem an_nil : An X Y W [] aNil := PA.imp pa_nil fun σ H Q ⟨en, he, h⟩ => h [] H [] (Same.refl H) .nil .nil (fun _ z => nomatch z)
theorem an_cons (ha : J X Y W .n a fa) (hr : An X Y W es fs) (hs : starEach (a :: es) X.env = (false, eval a X.env) :: starEach es X.env := by rfl) : An X Y W (a :: es) (aCons fa fs) :=
  PA.imp (pa_cons ha hr hs) fun σ H Q ⟨en, he, h⟩ => ⟨en, he, (WPr.bind h).imp (Same.refl H) fun d p => by
    intro v H1 f1 s1 r1 n1 e1
    refine ⟨en, he.mono s1, (WPr.bind p).imp s1 fun ds q => ?_⟩
    intro vs H2 f2 s2 r2 n2 e2
    refine q (v :: vs) H2 (f1 ++ f2) (s1.trans s2) (.cons (r1.mono s2) r2) ?_ ?_
    · refine List.nodup_append.mpr ⟨n1, n2, fun x hx y hy z => ?_⟩
      subst z
      obtain ⟨o, ho, _⟩ := r1.there x hx
      rw [e2 x hy] at ho
      cases ho
    · intro x hx
      rcases List.mem_append.mp hx with hx | hx
      · exact e1 x hx
      · exact s1.free (e2 x hx)⟩
def szOk (n : Nat) : Bool := decide (n ≤ 16777215)
theorem szOk_le {n : Nat} (h : szOk n = true) : n ≤ sizeLine := by
  have := of_decide_eq_true h
  rw [sizeLine_eq]
  omega
theorem szOk_lt {n : Nat} (h : szOk n = true) : n < sizeLine := by
  have := of_decide_eq_true h
  rw [sizeLine_eq]
  omega
def xTup (f : En → Res (List D)) : En → Res D := fun en => f en >>= fun ds => if szOk ds.length = true then .ok (.tup ds) else .stuck
def xLst (f : En → Res (List D)) : En → Res D := fun en => f en >>= fun ds => if szOk ds.length = true then .ok (.lst ds) else .stuck
theorem Owns.length {K : PySem.W.Frag} {H : Hp} {vs : List V} {ds : List D} {fp : List Addr} (h : Owns K Y H vs ds fp) : vs.length = ds.length := h.reps.length
theorem j_tup {x1} (h : A X Y W es fs) : J X Y W .r (.Tuple es x1 pos) (xTup fs) :=
  PE.imp (pe_tup h) fun σ H Q ⟨en, he, h⟩ => ⟨en, he, (WPr.bind h).imp (Same.refl H) fun ds p => by
    intro vs H' s r _
    by_cases hz : szOk ds.length = true
    · rw [if_pos hz] at p
      refine ⟨by rw [r.length]; exact szOk_le hz, fun q hq => ?_⟩
      have s2 : Same H' (upd H' q (.tup vs)) := fun b o e => by rw [upd_ne (ne_of_none e hq)]; exact e
      exact p (.ref q) _ (s.trans s2) (.tup (SqT.of upd_same) (r.mono s2))
    · rw [if_neg hz] at p
      exact p.elim⟩
theorem jn_tup {x1} (h : An X Y W es fs) : J X Y W .n (.Tuple es x1 pos) (xTup fs) :=
  PE.imp (pe_tup h) fun σ H Q ⟨en, he, h⟩ => ⟨en, he, (WPr.bind h).imp (Same.refl H) fun ds p => by
    intro vs H' fp s r nd fr
    by_cases hz : szOk ds.length = true
    · rw [if_pos hz] at p
      refine ⟨by rw [r.length]; exact szOk_le hz, fun q hq => ?_⟩
      have s2 : Same H' (upd H' q (.tup vs)) := fun b o e => by rw [upd_ne (ne_of_none e hq)]; exact e
      exact p (.ref q) _ fp (s.trans s2) (.tup (SqT.of upd_same) (r.mono s2)) nd fr
    · rw [if_neg hz] at p
      exact p.elim⟩
theorem j_lst (h : A X Y W es fs) : J X Y W .r (.List es pos) (xLst fs) :=
  PE.imp (pe_lst h) fun σ H Q ⟨en, he, h⟩ => ⟨en, he, (WPr.bind h).imp (Same.refl H) fun ds p => by
    intro vs H' s r _
    by_cases hz : szOk ds.length = true
    · rw [if_pos hz] at p
      refine ⟨by rw [r.length]; exact szOk_le hz, fun q hq => ?_⟩
      have s2 : Same H' (upd H' q (.lst vs)) := fun b o e => by rw [upd_ne (ne_of_none e hq)]; exact e
      exact p (.ref q) _ (s.trans s2) (.lst upd_same (r.mono s2))
    · rw [if_neg hz] at p
      exact p.elim⟩
theorem jn_lst (h : An X Y W es fs) : J X Y W .n (.List es pos) (xLst fs) :=
  PE.imp (pe_lst h) fun σ H Q ⟨en, he, h⟩ => ⟨en, he, (WPr.bind h).imp (Same.refl H) fun ds p => by
    intro vs H' fp s r nd fr
    by_cases hz : szOk ds.length = true
    · rw [if_pos hz] at p
      refine ⟨by rw [r.length]; exact szOk_le hz, fun q hq => ?_⟩
      have s2 : Same H' (upd H' q (.lst vs)) := fun b o e => by rw [upd_ne (ne_of_none e hq)]; exact e
      refine p (.ref q) _ (q :: fp) (s.trans s2) (.lst upd_same (r.mono s2)) ?_ ?_
      · refine List.nodup_cons.mpr ⟨fun hm => ?_, nd⟩
        obtain ⟨o, ho, _⟩ := r.there q hm
        rw [hq] at ho
        cases ho
      · intro x hx
        rcases List.mem_cons.mp hx with rfl | hx
        · exact s.free hq
        · exact fr x hx
    · rw [if_neg hz] at p
      exact p.elim⟩
end
end Ow
end
section
set_option linter.all false
set_option maxRecDepth 100000
set_option maxHeartbeats 1000000
/-! Ow3: the operations. -/
namespace Ow
open PySem L2 PySem.Spec
theorem opI' {X : Cx} {f : Value → Value → Sem Value} {C : Int → Int → Prop} {g : Int → Int → Int}
    (rule : ∀ (i j : Int) (t u : Tok) (s : Shared) (Q : Value → Shared → Prop) (E : Value → Shared → Prop), C i j → Q (.int (g i j) s.toks) { s with toks := s.toks + 1 } → wpAny (model X.prog X.w) X.A (f (.int i t) (.int j u)) Q E s) :
    OpR X f (rI C fun i j => .int (g i j)) := opI rule
def CDivZ (_ j : Int) : Prop := j ≠ 0 ∧ j.natAbs.log2 < 9000
theorem op_fdivZ {X : Cx} : OpR X (binaryOp .FloorDiv) (rI CDivZ fun i j => .int (i.fdiv j)) := opI fun i j _ _ _ _ _ hc q =>
  PyProof.Rows.floordiv_int hc.1 q (.inl (PyProof.noPylong_of_log2 hc.2))

/-- two ints -/
def oI (c : Int → Int → Bool) (g : Int → Int → D) : D → D → Res D
  | .int i, .int j => if c i j = true then .ok (g i j) else .stuck
  | _, _ => .stuck
theorem oI_calm (c : Int → Int → Bool) (g : Int → Int → D) : Calm2 (oI c g) := fun d e x => by
  unfold oI
  split
  · split <;> exact fun h => nomatch h
  · exact fun h => nomatch h
section
variable {K : PySem.W.Frag} {Y : Cl} {k : Kd}
theorem op2_I {C : Int → Int → Prop} {c : Int → Int → Bool} {g : Int → Int → V} {gd : Int → Int → D} (hc : ∀ i j, c i j = true → C i j) (hg : ∀ i j H, Rep K Y H (g i j) (gd i j)) (hp : ∀ i j, pureD (gd i j) = true) : Op2 K Y k (rI C g) (oI c gd) := by
  intro H x y d e Q rx ry ⟨z, hz, po⟩
  unfold oI at hz
  split at hz
  · split at hz
    · rename_i i j h
      cases hz
      cases rx
      cases ry
      exact ⟨i, j, rfl, rfl, hc i j h, po.pure (Same.refl H) (hg i j H) (hp i j)⟩
    · cases hz
  · cases hz
theorem op2_I0 {g : Int → Int → V} {gd : Int → Int → D} (hg : ∀ i j H, Rep K Y H (g i j) (gd i j)) (hp : ∀ i j, pureD (gd i j) = true) : Op2 K Y k (rI0 g) (oI (fun _ _ => true) gd) := by
  intro H x y d e Q rx ry ⟨z, hz, po⟩
  unfold oI at hz
  split at hz
  · rename_i i j
    rw [if_pos rfl] at hz
    cases hz
    cases rx
    cases ry
    exact ⟨i, j, rfl, rfl, po.pure (Same.refl H) (hg i j H) (hp i j)⟩
  · cases hz
end
abbrev iI (f : Int → Int → Int) : Int → Int → D := fun i j => .int (f i j)
abbrev iB (f : Int → Int → Bool) : Int → Int → D := fun i j => .bl (f i j)
def tru2 : Int → Int → Bool := fun _ _ => true
def cMul (i j : Int) : Bool := decide (i.natAbs.log2 + j.natAbs.log2 < 1000000)
def cDiv (_ j : Int) : Bool := decide (j ≠ 0) && decide (j.natAbs.log2 < 9000)
def cMod (_ j : Int) : Bool := decide (j ≠ 0)
def cPow (i j : Int) : Bool := decide (0 ≤ j) && (decide (j ≤ 1000000) && decide (i.natAbs < 18446744073709551616))
def oAdd := oI (fun _ _ => true) (iI (· + ·))
def oSub := oI (fun _ _ => true) (iI (· - ·))
def oMul := oI cMul (iI (· * ·))
def oDiv := oI cDiv (iI Int.fdiv)
def oMod := oI cMod (iI Int.fmod)
def oPow := oI cPow (iI fun i j => i ^ j.toNat)
def oLt := oI (fun _ _ => true) (iB fun i j => decide (i < j))
def oLe := oI (fun _ _ => true) (iB fun i j => decide (i ≤ j))
def oGt := oI (fun _ _ => true) (iB fun i j => decide (j < i))
def oGe := oI (fun _ _ => true) (iB fun i j => decide (j ≤ i))
section
variable {X : Cx} {Y : Cl} {W : Wh} {k : Kd} {a b : Expr} {fa fb : En → Res D} {pos : Pos}
theorem rI_ints {K : PySem.W.Frag} {H : Hp} (g : Int → Int → Int) : ∀ i j, Rep K Y H (.int (g i j)) (.int (g i j)) := fun _ _ => .int
theorem j_add (ha : J X Y W .r a fa) (hb : J X Y W .r b fb) : J X Y W k (.BinOp a .Add b pos) (x2 oAdd fa fb) := j_op op_add (op2_I0 (fun _ _ _ => .int) fun _ _ => pureD_int _) (oI_calm _ _) ha hb
theorem j_sub (ha : J X Y W .r a fa) (hb : J X Y W .r b fb) : J X Y W k (.BinOp a .Sub b pos) (x2 oSub fa fb) := j_op op_sub (op2_I0 (fun _ _ _ => .int) fun _ _ => pureD_int _) (oI_calm _ _) ha hb
theorem j_mul (ha : J X Y W .r a fa) (hb : J X Y W .r b fb) : J X Y W k (.BinOp a .Mult b pos) (x2 oMul fa fb) :=
  j_op op_mulW (op2_I (fun i j h => (of_decide_eq_true h : i.natAbs.log2 + j.natAbs.log2 < 1000000)) (fun _ _ _ => .int) fun _ _ => pureD_int _) (oI_calm _ _) ha hb
theorem j_div (ha : J X Y W .r a fa) (hb : J X Y W .r b fb) : J X Y W k (.BinOp a .FloorDiv b pos) (x2 oDiv fa fb) :=
  j_op op_fdivZ (op2_I (fun i j h => by
    have h' := Bool.and_eq_true_iff.mp h
    exact ⟨of_decide_eq_true h'.1, of_decide_eq_true h'.2⟩) (fun _ _ _ => .int) fun _ _ => pureD_int _) (oI_calm _ _) ha hb
theorem j_mod (ha : J X Y W .r a fa) (hb : J X Y W .r b fb) : J X Y W k (.BinOp a .Mod b pos) (x2 oMod fa fb) :=
  j_op op_modN (op2_I (fun i j h => of_decide_eq_true h) (fun _ _ _ => .int) fun _ _ => pureD_int _) (oI_calm _ _) ha hb
theorem j_pow (ha : J X Y W .r a fa) (hb : J X Y W .r b fb) : J X Y W k (.BinOp a .Pow b pos) (x2 oPow fa fb) :=
  j_op op_pow (op2_I (fun i j h => by
    have h' := Bool.and_eq_true_iff.mp h
    have h2 := Bool.and_eq_true_iff.mp h'.2
    exact ⟨of_decide_eq_true h'.1, of_decide_eq_true h2.1, of_decide_eq_true h2.2⟩) (fun _ _ _ => .int) fun _ _ => pureD_int _) (oI_calm _ _) ha hb
theorem j_lt (ha : J X Y W .r a fa) (hb : J X Y W .r b fb) : J X Y W k (.Compare a [.Lt] [b] pos) (x2 oLt fa fb) := j_cmp op_lt (op2_I0 (fun _ _ _ => .bl) fun _ _ => pureD_bl _) (oI_calm _ _) ha hb (nomark _)
theorem j_le (ha : J X Y W .r a fa) (hb : J X Y W .r b fb) : J X Y W k (.Compare a [.LtE] [b] pos) (x2 oLe fa fb) := j_cmp op_le (op2_I0 (fun _ _ _ => .bl) fun _ _ => pureD_bl _) (oI_calm _ _) ha hb (nomark _)
theorem j_gt (ha : J X Y W .r a fa) (hb : J X Y W .r b fb) : J X Y W k (.Compare a [.Gt] [b] pos) (x2 oGt fa fb) := j_cmp op_gt (op2_I0 (fun _ _ _ => .bl) fun _ _ => pureD_bl _) (oI_calm _ _) ha hb (nomark _)
theorem j_ge (ha : J X Y W .r a fa) (hb : J X Y W .r b fb) : J X Y W k (.Compare a [.GtE] [b] pos) (x2 oGe fa fb) := j_cmp op_ge (op2_I0 (fun _ _ _ => .bl) fun _ _ => pureD_bl _) (oI_calm _ _) ha hb (nomark _)
theorem t_lt (ha : J X Y W .r a fa) (hb : J X Y W .r b fb) : T X Y W (.Compare a [.Lt] [b] pos) (tBl (x2 oLt fa fb)) := t_cmp op_lt (op2_I0 (fun _ _ _ => .bl) fun _ _ => pureD_bl _) (oI_calm _ _) ha hb (nomark _)
theorem t_le (ha : J X Y W .r a fa) (hb : J X Y W .r b fb) : T X Y W (.Compare a [.LtE] [b] pos) (tBl (x2 oLe fa fb)) := t_cmp op_le (op2_I0 (fun _ _ _ => .bl) fun _ _ => pureD_bl _) (oI_calm _ _) ha hb (nomark _)
theorem t_gt (ha : J X Y W .r a fa) (hb : J X Y W .r b fb) : T X Y W (.Compare a [.Gt] [b] pos) (tBl (x2 oGt fa fb)) := t_cmp op_gt (op2_I0 (fun _ _ _ => .bl) fun _ _ => pureD_bl _) (oI_calm _ _) ha hb (nomark _)
theorem t_ge (ha : J X Y W .r a fa) (hb : J X Y W .r b fb) : T X Y W (.Compare a [.GtE] [b] pos) (tBl (x2 oGe fa fb)) := t_cmp op_ge (op2_I0 (fun _ _ _ => .bl) fun _ _ => pureD_bl _) (oI_calm _ _) ha hb (nomark _)
def oNeg : D → Res D
  | .int i => .ok (.int (-i))
  | _ => .stuck
theorem oNeg_calm : Calm1 oNeg := fun d x => by
  unfold oNeg
  split <;> exact fun h => nomatch h
theorem j_neg (ha : J X Y W .r a fa) : J X Y W k (.UnaryOp .USub a pos) (x1 oNeg fa) := j_un un_neg (fun H x d Q rx ⟨z, hz, po⟩ => by
  unfold oNeg at hz
  split at hz
  · cases hz
    cases rx
    exact ⟨_, rfl, po.pure (Same.refl H) .int (pureD_int _)⟩
  · cases hz) oNeg_calm ha

/-! ### == of data at any depth -/
mutual
def toP : D → PyData
  | .non => .none
  | .bl b => .bool b
  | .int i => .int i
  | .str x => .str x
  | .tup xs => .tuple (toPs xs)
  | .lst xs => .list (toPs xs)
  | .scr ns => .list (ns.map .int)
  | .dI _ => .dict []
  | .dT _ => .dict []
  | .exc _ _ => .dict []
def toPs : List D → List PyData
  | [] => []
  | d :: ds => toP d :: toPs ds
end
def shp (d : D) : Bool := SeqAt.shaped (toP d)
theorem dpAll_ints {K : PySem.W.Frag} {H : Hp} : ∀ ns : List Int, DpAll K H (ns.map V.int) (ns.map PyData.int)
  | [] => .nil
  | n :: ns => .cons (.int n) (dpAll_ints ns)
mutual
theorem Rep.dp {K : PySem.W.Frag} {Y : Cl} {H : Hp} : ∀ {v : V} {d : D}, Rep K Y H v d → (toP d).canLay0 = true → Dp K H v (toP d)
  | _, _, .non, _ => by rw [toP]; exact .non
  | _, _, .bl, _ => by rw [toP]; exact .bl _
  | _, _, .int, _ => by rw [toP]; exact .int _
  | _, _, .str, _ => by rw [toP]; exact .str _
  | _, _, .tup h r, c => by
    rw [toP] at c ⊢
    rw [PyData.canLay0] at c
    exact .tup h (Reps.dp r c)
  | _, _, .lst h r, c => by
    rw [toP] at c ⊢
    rw [PyData.canLay0] at c
    exact .lst (SqL.of h) (Reps.dp r c)
  | _, _, .scr h, c => by
    rw [toP]
    exact .lst h (dpAll_ints _)
  | _, _, .dI _ _, c => by rw [toP, PyData.canLay0] at c; cases c
  | _, _, .dT _ _, c => by rw [toP, PyData.canLay0] at c; cases c
  | _, _, .exc0 _, c => by rw [toP, PyData.canLay0] at c; cases c
  | _, _, .exc1 _ _ _, c => by rw [toP, PyData.canLay0] at c; cases c
theorem Reps.dp {K : PySem.W.Frag} {Y : Cl} {H : Hp} : ∀ {vs : List V} {ds : List D}, Reps K Y H vs ds → PyData.canLayAll0 (toPs ds) = true → DpAll K H vs (toPs ds)
  | _, _, .nil, _ => by rw [toPs]; exact .nil
  | _, _, .cons h r, c => by
    rw [toPs] at c ⊢
    rw [PyData.canLayAll0] at c
    have c' := Bool.and_eq_true_iff.mp c
    exact .cons (Rep.dp h c'.1) (Reps.dp r c'.2)
end
theorem shp_lay {d : D} (h : shp d = true) : (toP d).canLay0 = true := SeqAt.canLay_of_shaped h
def oEq : D → D → Res D := fun d e => if (shp d && shp e) = true then .ok (.bl (PyData.eqv (toP d) (toP e))) else .stuck
def oNe : D → D → Res D := fun d e => if (shp d && shp e) = true then .ok (.bl (!PyData.eqv (toP d) (toP e))) else .stuck
theorem ite_calm {α : Type} {c : Prop} [Decidable c] {r : α} {x : Err} : (if c then Res.ok r else .stuck) ≠ .exc x := by
  split <;> exact fun h => nomatch h
theorem oEq_calm : Calm2 oEq := fun d e x => ite_calm
theorem oNe_calm : Calm2 oNe := fun d e x => ite_calm
theorem op2_eq : Op2 X.K Y k (rEqD X.K) oEq := by
  intro H x y d e Q rx ry ⟨z, hz, po⟩
  unfold oEq at hz
  split at hz
  · rename_i hs
    have hs' := Bool.and_eq_true_iff.mp hs
    cases hz
    exact ⟨_, _, rx.dp (shp_lay hs'.1), ry.dp (shp_lay hs'.2), hs'.1, hs'.2, po.pure (Same.refl H) .bl (pureD_bl _)⟩
  · cases hz
theorem op2_ne : Op2 X.K Y k (rNeD X.K) oNe := by
  intro H x y d e Q rx ry ⟨z, hz, po⟩
  unfold oNe at hz
  split at hz
  · rename_i hs
    have hs' := Bool.and_eq_true_iff.mp hs
    cases hz
    exact ⟨_, _, rx.dp (shp_lay hs'.1), ry.dp (shp_lay hs'.2), hs'.1, hs'.2, po.pure (Same.refl H) .bl (pureD_bl _)⟩
  · cases hz
theorem j_eq {n : Nat} (hr : Room n X.A) (ha : J X Y W .r a fa) (hb : J X Y W .r b fb) : J X Y W k (.Compare a [.Eq] [b] pos) (x2 oEq fa fb) := j_cmp (op_eqD hr.units) op2_eq oEq_calm ha hb (nomark _)
theorem j_ne {n : Nat} (hr : Room n X.A) (ha : J X Y W .r a fa) (hb : J X Y W .r b fb) : J X Y W k (.Compare a [.NotEq] [b] pos) (x2 oNe fa fb) := j_cmp (op_neD hr.units) op2_ne oNe_calm ha hb (nomark _)
theorem t_eq {n : Nat} (hr : Room n X.A) (ha : J X Y W .r a fa) (hb : J X Y W .r b fb) : T X Y W (.Compare a [.Eq] [b] pos) (tBl (x2 oEq fa fb)) := t_cmp (op_eqD hr.units) op2_eq oEq_calm ha hb (nomark _)
theorem t_ne {n : Nat} (hr : Room n X.A) (ha : J X Y W .r a fa) (hb : J X Y W .r b fb) : T X Y W (.Compare a [.NotEq] [b] pos) (tBl (x2 oNe fa fb)) := t_cmp (op_neD hr.units) op2_ne oNe_calm ha hb (nomark _)
/-! ### is None -/
def isNon : D → Bool
  | .non => true
  | _ => false
def oIsN : D → D → Res D := fun d _ => .ok (.bl (isNon d))
def oNotN : D → D → Res D := fun d _ => .ok (.bl (!isNon d))
theorem rep_non {K : PySem.W.Frag} {H : Hp} {x : V} {d : D} (r : Rep K Y H x d) : decide (x = .non) = isNon d := by
  cases r <;> simp [isNon]
theorem xC_ok {d : D} {en : En} : xC d en = .ok d := rfl
theorem t_isN {j pos'} (ha : J X Y W .r a fa) : T X Y W (.Compare a [.Is] [.Constant .none j pos'] pos) (tBl (x1 (fun d => .ok (.bl (isNon d))) fa)) :=
  PT.imp (pt_cmp (pc_isN ha)) fun σ H Q ⟨en, he, h⟩ => ⟨en, he, (WPr.bind (WPr.bind h)).imp (Same.refl H) fun d p => by
    intro v H' s r
    exact ⟨_, rfl, by rw [rep_non r]; exact p H' s⟩⟩
theorem t_notN {j pos'} (ha : J X Y W .r a fa) : T X Y W (.Compare a [.IsNot] [.Constant .none j pos'] pos) (tBl (x1 (fun d => .ok (.bl (!isNon d))) fa)) :=
  PT.imp (pt_cmp (pc_notN ha)) fun σ H Q ⟨en, he, h⟩ => ⟨en, he, (WPr.bind (WPr.bind h)).imp (Same.refl H) fun d p => by
    intro v H' s r
    exact ⟨_, rfl, by rw [rep_non r]; exact p H' s⟩⟩
theorem j_isN {j pos'} (ha : J X Y W .r a fa) : J X Y W k (.Compare a [.Is] [.Constant .none j pos'] pos) (x1 (fun d => .ok (.bl (isNon d))) fa) :=
  PE.imp (pe_cmp (pc_isN ha)) fun σ H Q ⟨en, he, h⟩ => ⟨en, he, (WPr.bind h).imp (Same.refl H) fun d p => by
    intro v H' s r
    exact by rw [rep_non r]; exact Po.pure (show Po X.K Y k (.bl (isNon d)) H Q from p) s .bl (pureD_bl _)⟩
theorem j_notN {j pos'} (ha : J X Y W .r a fa) : J X Y W k (.Compare a [.IsNot] [.Constant .none j pos'] pos) (x1 (fun d => .ok (.bl (!isNon d))) fa) :=
  PE.imp (pe_cmp (pc_notN ha)) fun σ H Q ⟨en, he, h⟩ => ⟨en, he, (WPr.bind h).imp (Same.refl H) fun d p => by
    intro v H' s r
    exact by rw [rep_non r]; exact Po.pure (show Po X.K Y k (.bl (!isNon d)) H Q from p) s .bl (pureD_bl _)⟩

/-! ### items -/
theorem atI_map {α β : Type} (f : α → β) (xs : List α) (i : Int) : atI (xs.map f) i = (atI xs i).map f := by
  unfold atI
  rw [List.length_map]
  cases ixN xs.length i with
  | none => rfl
  | some j => simp
theorem Reps.at {K : PySem.W.Frag} {H : Hp} {vs : List V} {ds : List D} {i : Int} {d : D} (r : Reps K Y H vs ds) (h : atI ds i = some d) : ∃ v, atI vs i = some v ∧ Rep K Y H v d := by
  unfold atI at h ⊢
  rw [r.length]
  cases q : ixN ds.length i with
  | none => rw [q] at h; cases h
  | some j =>
    rw [q] at h
    exact r.get (i := j) h
def oIx : D → D → Res D
  | .lst ds, .int i => match atI ds i with
    | some d => .ok d
    | none => .stuck
  | .tup ds, .int i => match atI ds i with
    | some d => .ok d
    | none => .stuck
  | .scr ns, .int i => match atI ns i with
    | some n => .ok (.int n)
    | none => .stuck
  | _, _ => .stuck
theorem oIx_calm : Calm2 oIx := fun d e x => by
  unfold oIx
  split <;> first | (split <;> exact fun h => nomatch h) | exact fun h => nomatch h
theorem op2_ix : Op2 X.K Y .r (fun x y H Q => rIxL X.K x y H Q ∨ rIxT X.K x y H Q) oIx := by
  intro H x y d e Q rx ry ⟨z, hz, po⟩
  unfold oIx at hz
  split at hz
  · split at hz
    · rename_i h
      cases hz
      cases ry
      cases rx with
      | lst hp r =>
        obtain ⟨v, hv, rv⟩ := r.at h
        exact .inl ⟨_, _, _, v, rfl, rfl, SqL.of hp, hv, po v H (Same.refl H) rv⟩
    · cases hz
  · split at hz
    · rename_i h
      cases hz
      cases ry
      cases rx with
      | tup hp r =>
        obtain ⟨v, hv, rv⟩ := r.at h
        exact .inr ⟨_, _, _, v, rfl, rfl, hp, hv, po v H (Same.refl H) rv⟩
    · cases hz
  · split at hz
    · rename_i h
      cases hz
      cases ry
      cases rx with
      | scr hp =>
        exact .inl ⟨_, _, _, _, rfl, rfl, hp, by rw [atI_map, h]; rfl, po _ H (Same.refl H) .int⟩
    · cases hz
  · cases hz
theorem j_at (ha : J X Y W .r a fa) (hb : J X Y W .r b fb) (hs : PlainIx b := by exact fun _ _ => rfl) : J X Y W .r (.Subscript a b pos) (x2 oIx fa fb) := j_ix (ix_list.or ix_tup) op2_ix oIx_calm ha hb hs
/-- an item of a new thing -/
theorem Owns.get {K : PySem.W.Frag} {H : Hp} : ∀ {vs : List V} {ds : List D} {fp : List Addr} {i : Nat} {d : D}, Owns K Y H vs ds fp → ds[i]? = some d → ∃ v g, vs[i]? = some v ∧ Own K Y H v d g ∧ g.Sublist fp
  | _, _, _, i, _, .nil, e => by simp at e
  | v :: _, _, _, 0, d, .cons h _, e => by
    have e' := Option.some.inj e
    subst e'
    exact ⟨v, _, rfl, h, List.sublist_append_left _ _⟩
  | _, _, _, i + 1, d, .cons _ r, e => by
    obtain ⟨v, g, h1, h2, h3⟩ := Owns.get (i := i) r e
    exact ⟨v, g, h1, h2, h3.trans (List.sublist_append_right _ _)⟩
theorem Owns.at {K : PySem.W.Frag} {H : Hp} {vs : List V} {ds : List D} {fp : List Addr} {i : Int} {d : D} (r : Owns K Y H vs ds fp) (h : atI ds i = some d) : ∃ v g, atI vs i = some v ∧ Own K Y H v d g ∧ g.Sublist fp := by
  unfold atI at h ⊢
  rw [r.length]
  cases q : ixN ds.length i with
  | none => rw [q] at h; cases h
  | some j =>
    rw [q] at h
    exact r.get (i := j) h
theorem Own.item {K : PySem.W.Frag} {H : Hp} {p : Addr} {ds : List D} {fp : List Addr} {i : Int} {d : D} (r : Own K Y H (.ref p) (.tup ds) fp) (h : atI ds i = some d) : ∃ vs v g, SqT K H p vs ∧ atI vs i = some v ∧ Own K Y H v d g ∧ g.Sublist fp := by
  cases r with
  | pur hp r =>
    cases r with
    | tup hq r =>
      obtain ⟨v, hv, rv⟩ := r.at h
      refine ⟨_, v, [], hq, hv, .pur ?_ rv, List.nil_sublist _⟩
      rw [pureD_tup] at hp
      unfold atI at h
      obtain ⟨j, hj, e⟩ := Option.bind_eq_some_iff.mp h
      exact pureDs_iff.mp hp d (List.mem_of_getElem? e)
  | tup hq r =>
    obtain ⟨v, g, hv, rv, hs⟩ := r.at h
    exact ⟨_, v, g, hq, hv, rv, hs⟩
theorem Own.vref {K : PySem.W.Frag} {H : Hp} {v : V} {ds : List D} {fp : List Addr} (r : Own K Y H v (.tup ds) fp) : ∃ p, v = .ref p := by
  cases r with
  | pur hp r => cases r; exact ⟨_, rfl⟩
  | tup hq r => exact ⟨_, rfl⟩
theorem jn_at (ha : J X Y W .n a fa) (hb : J X Y W .r b fb) (hs : PlainIx b := by exact fun _ _ => rfl) : J X Y W .n (.Subscript a b pos) (x2 oIx fa fb) :=
  PE.imp (pe_ix (ix_list.or ix_tup) ha hb hs) fun σ H Q ⟨en, he, h⟩ => by
    refine ⟨en, he, (WPr.bind h).imp (Same.refl H) fun d p => ?_⟩
    intro v H1 f1 s1 r1 n1 e1
    refine ⟨en, he.mono s1, (WPr.bind p).imp s1 fun e q => ?_⟩
    intro y H2 s2 ry
    obtain ⟨z, hz, po⟩ := WPr.calm (oIx_calm d e) q
    have r2 := r1.mono s2
    unfold oIx at hz
    split at hz
    · split at hz
      · rename_i h
        cases hz
        cases ry
        cases r2 with
        | pur hp _ => rw [pureD_lst] at hp; cases hp
        | lst hp r =>
          obtain ⟨v, g, hv, rv, hsub⟩ := r.at h
          exact .inl ⟨_, _, _, v, rfl, rfl, SqL.of hp, hv, po v H2 g (s1.trans s2) rv ((List.nodup_cons.mp n1).2.sublist hsub) fun p hp => e1 p (List.mem_cons_of_mem _ (hsub.subset hp))⟩
      · cases hz
    · split at hz
      · rename_i h
        cases hz
        cases ry
        obtain ⟨p, rfl⟩ := r2.vref
        obtain ⟨vs, v, g, hq, hv, rv, hsub⟩ := r2.item h
        exact .inr ⟨_, _, _, v, rfl, rfl, hq, hv, po v H2 g (s1.trans s2) rv (n1.sublist hsub) fun p hp => e1 p (hsub.subset hp)⟩
      · cases hz
    · split at hz
      · cases r2 with
        | pur hp _ => rw [pureD_scr] at hp; cases hp
      · cases hz
    · cases hz

/-! ### built-in calls of one and two values -/
theorem j_cb1 {r : List V → Hp → VK → Prop} {o : D → Res D} {id : String} {x : Str} {p : Pos} (hc : CallR X (.builtin id) r) (hr : ∀ H v d Q, Rep X.K Y H v d → (∃ z, o d = .ok z ∧ Po X.K Y k z H Q) → r [v] H Q) (hm : Calm1 o)
    (hg : Gl X x) (hmg : X.mg x = none) (hv : bootBuiltins x = some (.builtin id)) (ha : J X Y W .r a fa) (hn : x ≠ "__name__" := by decide) (hdb : (x == ("__debug__" : Str)) = false := by decide)
    (hs : starEach (a :: []) X.env = (false, eval a X.env) :: starEach [] X.env := by rfl) (hpl : (backTo pos (starEach [] X.env)).any (·.1) = false := by rfl) : J X Y W k (.Call (.Name x p) [a] [] pos) (x1 o fa) :=
  PE.imp (pe_callB hc hg hmg hv (pa_cons ha pa_nil hs) hn hdb hs hpl) fun σ H Q ⟨en, he, h⟩ => ⟨en, he, (WPr.bind h).imp (Same.refl H) fun d p => by
    intro v H1 s1 r1
    obtain ⟨z, ez, pz⟩ := WPr.calm (hm d) p
    exact hr H1 v d Q r1 ⟨z, ez, pz.mono s1⟩⟩
end
end Ow
end
section
set_option linter.all false
set_option maxRecDepth 100000
set_option maxHeartbeats 1000000
/-! Ow4: statements: slots that own, share, or stand for an item of another slot's list. -/
namespace Ow
open PySem L2 PySem.Spec

inductive Slot where
  | un | own (d : D) | fz (d : D) | ali (s j : Nat)
def Slot.dat (S : List Slot) : Slot → Option D
  | .un => none
  | .own d => some d
  | .fz d => some d
  | .ali s j => match S[s]? with
    | some (.own (.lst ds)) => ds[j]?
    | _ => none
def en (S : List Slot) : En := S.map (Slot.dat S)
def Slot.kill (i : Nat) : Slot → Slot
  | .ali s j => if s = i then .un else .ali s j
  | x => x
def setS (S : List Slot) (i : Nat) (x : Slot) : List Slot := (S.map (Slot.kill i)).set i x
/-- a value for a slot -/
def mk (d : D) : Slot := if pureD d = true then .fz d else .own d

section
variable (K : PySem.W.Frag) (Y : Cl)
def SlotOk (G : Hp) (w : Addr → Nat) (fp : Nat → List Addr) (S : List Slot) (σ : St) (H : Hp) (i : Nat) : Slot → Prop
  | .un => True
  | .own d => ∃ v, σ[i]? = some (some v) ∧ Own K Y H v d (fp i) ∧ (fp i).Nodup ∧ ∀ p ∈ fp i, w p = i ∧ G p = none
  | .fz d => ∃ v, σ[i]? = some (some v) ∧ Rep K Y G v d
  | .ali s j => ∃ ds p vs v, S[s]? = some (.own (.lst ds)) ∧ j < ds.length ∧ σ[s]? = some (some (.ref p)) ∧ H p = some (.lst vs) ∧ vs[j]? = some v ∧ σ[i]? = some (some v)
structure SatW (F : Hp) (S : List Slot) (σ : St) (H G : Hp) (w : Addr → Nat) (fp : Nat → List Addr) : Prop where
  fg : Same F G
  gh : Same G H
  fx : ∀ p o, H p = some o → fixO o = true → G p = some o
  len : S.length = σ.length
  ok : ∀ i x, S[i]? = some x → SlotOk K Y G w fp S σ H i x
def Sat (F : Hp) (S : List Slot) (σ : St) (H : Hp) : Prop := ∃ G w fp, SatW K Y F S σ H G w fp
end

section
variable {K : PySem.W.Frag} {Y : Cl} {F H H' : Hp} {S : List Slot} {σ : St}
theorem Sat.same (h : Sat K Y F S σ H) : Same F H := by
  obtain ⟨G, w, fp, s⟩ := h
  exact s.fg.trans s.gh
theorem Sat.len (h : Sat K Y F S σ H) : S.length = σ.length := by
  obtain ⟨G, w, fp, s⟩ := h
  exact s.len
theorem Own.lst_inv {p : Addr} {ds : List D} {fp : List Addr} {v : V} (h : Own K Y H v (.lst ds) fp) : ∃ p vs g, v = .ref p ∧ H p = some (.lst vs) ∧ Owns K Y H vs ds g ∧ fp = p :: g := by
  cases h with
  | pur hp _ => rw [pureD_lst] at hp; cases hp
  | lst hp r => exact ⟨_, _, _, rfl, hp, r, rfl⟩
theorem SatW.dat {G : Hp} {w : Addr → Nat} {fp : Nat → List Addr} (s : SatW K Y F S σ H G w fp) {i : Nat} {x : Slot} {d : D} (hx : S[i]? = some x) (hd : x.dat S = some d) : ∃ v, σ[i]? = some (some v) ∧ Rep K Y H v d := by
  have h := s.ok i x hx
  cases x with
  | un => cases hd
  | own d' =>
    cases hd
    obtain ⟨v, a, b, _⟩ := h
    exact ⟨v, a, b.rep⟩
  | fz d' =>
    cases hd
    obtain ⟨v, a, b⟩ := h
    exact ⟨v, a, b.mono s.gh⟩
  | ali t j =>
    obtain ⟨ds, p, vs, v, h1, h2, h3, h4, h5, h6⟩ := h
    simp only [Slot.dat, h1] at hd
    obtain ⟨v', a, b, _⟩ := s.ok t _ h1
    rw [h3] at a
    cases a
    obtain ⟨p', vs', g, e1, e2, e3, e4⟩ := b.lst_inv (p := p)
    cases e1
    rw [h4] at e2
    cases e2
    obtain ⟨u, hu, ru⟩ := e3.reps.get (i := j) hd
    rw [h5] at hu
    cases hu
    exact ⟨v, h6, ru⟩
theorem en_get {i : Nat} {d : D} (h : (en S)[i]? = some (some d)) : ∃ x, S[i]? = some x ∧ x.dat S = some d := by
  unfold en at h
  rw [List.getElem?_map] at h
  cases q : S[i]? with
  | none => rw [q] at h; cases h
  | some x =>
    rw [q] at h
    exact ⟨x, rfl, Option.some.inj h⟩
theorem Sat.en (h : Sat K Y F S σ H) : EnOk K Y H σ (en S) := fun i d e => by
  obtain ⟨G, w, fp, s⟩ := h
  obtain ⟨x, hx, hd⟩ := en_get e
  exact s.dat hx hd
/-- the shared part, with what never changes of a later heap -/
def grow (G H : Hp) : Hp := fun p => match G p with
  | some o => some o
  | none => match H p with
    | some o => if fixO o = true then some o else none
    | none => none
theorem grow_same {G H : Hp} : Same G (grow G H) := fun p o e => by
  unfold grow
  rw [e]
theorem grow_to {G H : Hp} (s : Same G H) : Same (grow G H) H := fun p o e => by
  unfold grow at e
  cases q : G p with
  | some u =>
    rw [q] at e
    cases e
    exact s p _ q
  | none =>
    rw [q] at e
    cases q2 : H p with
    | none => rw [q2] at e; cases e
    | some u =>
      rw [q2] at e
      dsimp only at e
      by_cases hf : fixO u = true
      · rw [if_pos hf] at e
        exact e
      · rw [if_neg hf] at e
        cases e
theorem grow_fix {G H : Hp} (s : Same G H) {p : Addr} {o : HO} (e : H p = some o) (hf : fixO o = true) : grow G H p = some o := by
  unfold grow
  cases q : G p with
  | some u =>
    have := s p u q
    rw [e] at this
    exact this.symm
  | none =>
    rw [e]
    show (if fixO o = true then some o else none) = some o
    rw [if_pos hf]
theorem grow_none {G H : Hp} {p : Addr} (g : G p = none) (h : ∀ o, H p = some o → fixO o = false) : grow G H p = none := by
  unfold grow
  rw [g]
  cases q : H p with
  | none => rfl
  | some o =>
    show (if fixO o = true then some o else none) = none
    rw [if_neg (by rw [h o q]; exact Bool.false_ne_true)]
theorem kill_ne {i : Nat} {x y : Slot} (h : x.kill i = y) : (y = .un ∧ ∃ j, x = .ali i j) ∨ (x = y ∧ ∀ j, x ≠ .ali i j) := by
  cases x with
  | ali s j =>
    by_cases e : s = i
    · subst e
      refine .inl ⟨?_, j, rfl⟩
      rw [← h]
      exact if_pos rfl
    · refine .inr ⟨?_, fun j' q => ?_⟩
      · rw [← h]
        exact (if_neg e).symm
      · cases q
        exact e rfl
  | un => exact .inr ⟨h, fun j q => nomatch q⟩
  | own d => exact .inr ⟨h, fun j q => nomatch q⟩
  | fz d => exact .inr ⟨h, fun j q => nomatch q⟩
theorem setS_get {i k : Nat} {x y : Slot} (h : (setS S i x)[k]? = some y) : (k = i ∧ y = x ∧ i < S.length) ∨ (k ≠ i ∧ ∃ z, S[k]? = some z ∧ z.kill i = y) := by
  unfold setS at h
  by_cases e : k = i
  · subst e
    by_cases hl : k < S.length
    · rw [List.getElem?_set_self (by simpa using hl)] at h
      exact .inl ⟨rfl, (Option.some.inj h).symm, hl⟩
    · rw [List.getElem?_eq_none (by simpa using Nat.le_of_not_lt hl)] at h
      cases h
  · rw [List.getElem?_set_ne (Ne.symm e), List.getElem?_map] at h
    cases q : S[k]? with
    | none => rw [q] at h; cases h
    | some z =>
      rw [q] at h
      exact .inr ⟨e, z, rfl, Option.some.inj h⟩
theorem setS_len {i : Nat} {x : Slot} : (setS S i x).length = S.length := by simp [setS]
theorem setS_ne {i s : Nat} {x y : Slot} (hs : S[s]? = some y) (hn : ∀ j, y ≠ .ali i j) (e : s ≠ i) : (setS S i x)[s]? = some y := by
  unfold setS
  rw [List.getElem?_set_ne (Ne.symm e), List.getElem?_map, hs]
  show some (y.kill i) = some y
  cases y with
  | ali t j =>
    have : t ≠ i := fun q => hn j (by rw [q])
    show some (if t = i then Slot.un else .ali t j) = some (.ali t j)
    rw [if_neg this]
  | un => rfl
  | own d => rfl
  | fz d => rfl
/-- slots other than i, behind a store to i: the heap grows, the owner's map and the shared part may grow -/
theorem SatW.keep {G G' : Hp} {w w' : Addr → Nat} {fp fp' : Nat → List Addr} (s : SatW K Y F S σ H G w fp) {i k : Nat} {v : V} {x : Slot} (sh : Same H H') (sg : Same G G')
    (hG : ∀ k, k ≠ i → ∀ p ∈ fp k, w p = k → G p = none → (∃ o, H p = some o ∧ fixO o = false) → w' p = k ∧ G' p = none) (hf : ∀ k, k ≠ i → fp' k = fp k) {z y : Slot} (hk : k ≠ i) (hz : S[k]? = some z) (hy : z.kill i = y) :
    SlotOk K Y G' w' fp' (setS S i x) (σ.set i (some v)) H' k y := by
  have h := s.ok k z hz
  rcases kill_ne hy with ⟨e, _⟩ | ⟨e, hn⟩
  · subst e
    trivial
  · subst e
    cases z with
    | un => trivial
    | own d =>
      obtain ⟨u, a, b, c, q⟩ := h
      refine ⟨u, by rw [List.getElem?_set_ne (Ne.symm hk)]; exact a, ?_, ?_, ?_⟩
      · rw [hf k hk]
        exact b.mono sh
      · rw [hf k hk]
        exact c
      · rw [hf k hk]
        exact fun p hp => hG k hk p hp (q p hp).1 (q p hp).2 (b.there p hp)
    | fz d =>
      obtain ⟨u, a, b⟩ := h
      exact ⟨u, by rw [List.getElem?_set_ne (Ne.symm hk)]; exact a, b.mono sg⟩
    | ali t j =>
      obtain ⟨ds, p, vs, u, h1, h2, h3, h4, h5, h6⟩ := h
      have ht : t ≠ i := fun q => hn j (by rw [q])
      refine ⟨ds, p, vs, u, setS_ne h1 (fun j q => nomatch q) ht, h2, ?_, sh _ _ h4, h5, ?_⟩
      · rw [List.getElem?_set_ne (Ne.symm ht)]
        exact h3
      · rw [List.getElem?_set_ne (Ne.symm hk)]
        exact h6
/-- a slot gets a value of its own (or a pure one) -/
theorem Sat.setMk (h : Sat K Y F S σ H) (sh : Same H H') {i : Nat} {v : V} {d : D} {f : List Addr} (o : Own K Y H' v d f) (nd : f.Nodup) (fr : ∀ p ∈ f, H p = none) : Sat K Y F (setS S i (mk d)) (σ.set i (some v)) H' := by
  obtain ⟨G, w, fp, s⟩ := h
  have gh' : Same G H' := s.gh.trans sh
  refine ⟨grow G H', fun p => if p ∈ f then i else w p, fun k => if k = i then f else fp k, s.fg.trans grow_same, grow_to gh', fun p o e hf => grow_fix gh' e hf, by rw [setS_len, List.length_set]; exact s.len, fun k y hy => ?_⟩
  rcases setS_get hy with ⟨rfl, rfl, hl⟩ | ⟨hk, z, hz, hzy⟩
  · have hσ : (σ.set k (some v))[k]? = some (some v) := by rw [List.getElem?_set_self (by rw [← s.len]; exact hl)]
    unfold mk
    by_cases hp : pureD d = true
    · rw [if_pos hp]
      exact ⟨v, hσ, o.rep.fix (fun p u e hf => grow_fix gh' e hf) hp⟩
    · rw [if_neg hp]
      have e1 : (fun k' => if k' = k then f else fp k') k = f := if_pos rfl
      refine ⟨v, hσ, ?_, ?_, ?_⟩
      · rw [e1]; exact o
      · rw [e1]; exact nd
      · rw [e1]
        intro p hm
        refine ⟨if_pos hm, ?_⟩
        obtain ⟨u, hu, hx⟩ := o.there p hm
        refine grow_none ?_ fun u' e => ?_
        · cases q : G p with
          | none => rfl
          | some u2 =>
            have := s.gh p u2 q
            rw [fr p hm] at this
            cases this
        · rw [hu] at e
          cases e
          exact hx
  · refine s.keep sh grow_same (fun k hk p hp hw hg ⟨u, hu, hx⟩ => ?_) (fun k hk => if_neg hk) hk hz hzy
    have hn : p ∉ f := fun hm => by
      rw [fr p hm] at hu
      cases hu
    refine ⟨by rw [if_neg hn]; exact hw, grow_none hg fun u' e => ?_⟩
    rw [sh p u hu] at e
    cases e
    exact hx
/-- nothing but new things -/
theorem Sat.ext (h : Sat K Y F S σ H) (sh : Same H H') : Sat K Y F S σ H' := by
  obtain ⟨G, w, fp, s⟩ := h
  have gh' : Same G H' := s.gh.trans sh
  refine ⟨grow G H', w, fp, s.fg.trans grow_same, grow_to gh', fun p o e hf => grow_fix gh' e hf, s.len, fun k y hy => ?_⟩
  have h := s.ok k y hy
  cases y with
  | un => trivial
  | own d =>
    obtain ⟨u, a, b, c, q⟩ := h
    refine ⟨u, a, b.mono sh, c, fun p hp => ⟨(q p hp).1, grow_none (q p hp).2 fun o e => ?_⟩⟩
    obtain ⟨o', ho, hx⟩ := b.there p hp
    rw [sh p o' ho] at e
    cases e
    exact hx
  | fz d =>
    obtain ⟨u, a, b⟩ := h
    exact ⟨u, a, b.mono grow_same⟩
  | ali t j =>
    obtain ⟨ds, p, vs, u, h1, h2, h3, h4, h5, h6⟩ := h
    exact ⟨ds, p, vs, u, h1, h2, h3, sh _ _ h4, h5, h6⟩
/-- the shared part may be taken for the frame -/
theorem Sat.deep (h : Sat K Y F S σ H) : ∃ G, Same F G ∧ Same G H ∧ Sat K Y G S σ H ∧ ∀ (i : Nat) (d : D), S[i]? = some (Slot.fz d) → ∃ v, σ[i]? = some (some v) ∧ Rep K Y G v d := by
  obtain ⟨G, w, fp, s⟩ := h
  exact ⟨G, s.fg, s.gh, ⟨G, w, fp, Same.refl G, s.gh, s.fx, s.len, s.ok⟩, fun i d e => s.ok i _ e⟩
theorem Sat.shallow {G : Hp} (fg : Same F G) (h : Sat K Y G S σ H) : Sat K Y F S σ H := by
  obtain ⟨G', w, fp, s⟩ := h
  exact ⟨G', w, fp, fg.trans s.fg, s.gh, s.fx, s.len, s.ok⟩
/-- a slot gets a value that stands in the frame -/
theorem Sat.setFz (h : Sat K Y F S σ H) {i : Nat} {v : V} {d : D} (r : Rep K Y F v d) : Sat K Y F (setS S i (.fz d)) (σ.set i (some v)) H := by
  obtain ⟨G, w, fp, s⟩ := h
  refine ⟨G, w, fp, s.fg, s.gh, s.fx, by rw [setS_len, List.length_set]; exact s.len, fun k y hy => ?_⟩
  rcases setS_get hy with ⟨rfl, rfl, hl⟩ | ⟨hk, z, hz, hzy⟩
  · exact ⟨v, by rw [List.getElem?_set_self (by rw [← s.len]; exact hl)], r.mono s.fg⟩
  · exact s.keep (Same.refl H) (Same.refl G) (fun k hk p hp hw hg _ => ⟨hw, hg⟩) (fun k hk => rfl) hk hz hzy
/-- a slot gets a pure value -/
theorem Sat.setPure (h : Sat K Y F S σ H) (sh : Same H H') {i : Nat} {v : V} {d : D} (r : Rep K Y H' v d) (hp : pureD d = true) : Sat K Y F (setS S i (.fz d)) (σ.set i (some v)) H' := by
  have q := h.setMk sh (i := i) (.pur hp r) .nil (fun _ z => nomatch z)
  unfold mk at q
  rw [if_pos hp] at q
  exact q
/-- a slot gets an item of another slot's own list -/
theorem Sat.setAli (h : Sat K Y F S σ H) {i t j : Nat} {ds : List D} {p : Addr} {vs : List V} {v : V} (ht : S[t]? = some (.own (.lst ds))) (hj : j < ds.length) (hσ : σ[t]? = some (some (.ref p))) (hp : H p = some (.lst vs)) (hv : vs[j]? = some v) (hit : t ≠ i) :
    Sat K Y F (setS S i (.ali t j)) (σ.set i (some v)) H := by
  obtain ⟨G, w, fp, s⟩ := h
  refine ⟨G, w, fp, s.fg, s.gh, s.fx, by rw [setS_len, List.length_set]; exact s.len, fun k y hy => ?_⟩
  rcases setS_get hy with ⟨rfl, rfl, hl⟩ | ⟨hk, z, hz, hzy⟩
  · refine ⟨ds, p, vs, v, setS_ne ht (fun j q => nomatch q) hit, hj, ?_, hp, hv, ?_⟩
    · rw [List.getElem?_set_ne (Ne.symm hit)]
      exact hσ
    · rw [List.getElem?_set_self (by rw [← s.len]; exact hl)]
  · exact s.keep (Same.refl H) (Same.refl G) (fun k hk p hp hw hg _ => ⟨hw, hg⟩) (fun k hk => rfl) hk hz hzy
end

/-! ### how a block ends -/
inductive Fl where
  | nx (S : List Slot) | rt (d : D) | bk (S : List Slot) | ct (S : List Slot)
def RetOk (K : PySem.W.Frag) (Y : Cl) (F H : Hp) (v : V) (d : D) : Prop := Same F H ∧ ∃ fp, Own K Y H v d fp ∧ fp.Nodup ∧ ∀ p ∈ fp, F p = none
abbrev Md := Nat → Bool
/-- the slots that M does not name stand as they stood -/
def Stay (M : Md) (σ σ' : St) : Prop := ∀ i, M i = false → σ'[i]? = σ[i]?
theorem Stay.refl (M : Md) (σ : St) : Stay M σ σ := fun _ _ => rfl
theorem Stay.trans {M : Md} {σ σ1 σ2 : St} (a : Stay M σ σ1) (b : Stay M σ1 σ2) : Stay M σ σ2 := fun i h => (b i h).trans (a i h)
theorem Stay.set {M : Md} {σ : St} {i : Nat} {v : Option V} (h : M i = true) : Stay M σ (σ.set i v) := fun k hk => by
  by_cases e : k = i
  · subst e
    rw [h] at hk
    cases hk
  · rw [List.getElem?_set_ne (Ne.symm e)]
theorem Stay.mono {M M' : Md} {σ σ' : St} (a : Stay M σ σ') (h : ∀ i, M' i = false → M i = false) : Stay M' σ σ' := fun i hi => a i (h i hi)
def WPs (K : PySem.W.Frag) (Y : Cl) (W : Wh) (M : Md) (F : Hp) (D' : Ends) (σ : St) (r : Res Fl) : Prop :=
  match r with
  | .ok (.nx S') => ∀ σ' H', Sat K Y F S' σ' H' → Stay M σ σ' → D'.nx σ' H'
  | .ok (.rt d) => ∀ v H', RetOk K Y F H' v d → D'.rt v H'
  | .ok (.bk S') => ∀ σ' H', Sat K Y F S' σ' H' → Stay M σ σ' → D'.bk σ' H'
  | .ok (.ct S') => ∀ σ' H', Sat K Y F S' σ' H' → Stay M σ σ' → D'.ct σ' H'
  | .exc e => ∃ w, W = some w ∧ ∀ cls d σ' H', Same F H' → ExRep K Y H' e cls d → w cls d σ' H'
  | .stuck => False
def tS (K : PySem.W.Frag) (Y : Cl) (W : Wh) (M : Md) (g : List Slot → Res Fl) : TS := fun D σ H => ∃ F S, Sat K Y F S σ H ∧ WPs K Y W M F D σ (g S)
def JS (X : Cx) (Y : Cl) (W : Wh) (M : Md) (st : Stmt) (g : List Slot → Res Fl) : Prop := PS X st (tS X.K Y W M g)
def JB (X : Cx) (Y : Cl) (W : Wh) (M : Md) (st : List Stmt) (g : List Slot → Res Fl) : Prop := PSs X st (tS X.K Y W M g)

section
variable {K : PySem.W.Frag} {Y : Cl} {W : Wh} {M : Md} {F H H' : Hp} {S : List Slot} {σ : St} {Dn : Ends}
/-- an expression ahead -/
theorem WPs.bind {σ0 : St} {r : Res D} {g : D → Res Fl} (h : WPs K Y W M F Dn σ0 (r >>= g)) (sf : Same F H) : WPr K Y W σ H r fun d => WPs K Y W M F Dn σ0 (g d) := by
  cases r with
  | ok d => exact h
  | exc e =>
    obtain ⟨w, a, b⟩ := h
    exact ⟨w, a, fun cls d H' s' x => b cls d σ H' (sf.trans s') x⟩
  | stuck => exact h
theorem WPs.bindB {σ0 : St} {r : Res Bool} {g : Bool → Res Fl} (h : WPs K Y W M F Dn σ0 (r >>= g)) (sf : Same F H) : WPr K Y W σ H r fun d => WPs K Y W M F Dn σ0 (g d) := by
  cases r with
  | ok d => exact h
  | exc e =>
    obtain ⟨w, a, b⟩ := h
    exact ⟨w, a, fun cls d H' s' x => b cls d σ H' (sf.trans s') x⟩
  | stuck => exact h
theorem WPs.bindL {σ0 : St} {r : Res (List D)} {g : List D → Res Fl} (h : WPs K Y W M F Dn σ0 (r >>= g)) (sf : Same F H) : WPr K Y W σ H r fun d => WPs K Y W M F Dn σ0 (g d) := by
  cases r with
  | ok d => exact h
  | exc e =>
    obtain ⟨w, a, b⟩ := h
    exact ⟨w, a, fun cls d H' s' x => b cls d σ H' (sf.trans s') x⟩
  | stuck => exact h
end

/-! ### the statements' words -/
def bN : List Slot → Res Fl := fun S => .ok (.nx S)
def bSeq (f g : List Slot → Res Fl) : List Slot → Res Fl := fun S => f S >>= fun r => match r with
  | .nx S' => g S'
  | r => .ok r
def sSet (i : Nat) (f : En → Res D) : List Slot → Res Fl := fun S => f (en S) >>= fun d => .ok (.nx (setS S i (mk d)))
def sRet (f : En → Res D) : List Slot → Res Fl := fun S => f (en S) >>= fun d => .ok (.rt d)
def sDo (f : En → Res D) : List Slot → Res Fl := fun S => f (en S) >>= fun _ => .ok (.nx S)
def sIf (c : En → Res Bool) (f g : List Slot → Res Fl) : List Slot → Res Fl := fun S => c (en S) >>= fun b => if b = true then f S else g S
def sRetV (i : Nat) : List Slot → Res Fl := fun S => match S[i]? with
  | some (.own d) => .ok (.rt d)
  | some (.fz d) => if pureD d = true then .ok (.rt d) else .stuck
  | _ => .stuck
def sPar (i j : Nat) (f g : En → Res D) : List Slot → Res Fl := fun S => f (en S) >>= fun d => g (en S) >>= fun e =>
  if (pureD d && pureD e) = true then .ok (.nx (setS (setS S i (.fz d)) j (.fz e))) else .stuck

section
variable {X : Cx} {Y : Cl} {W : Wh} {M : Md} {st : Stmt} {rest : List Stmt} {pos : Pos} {f g h : List Slot → Res Fl} {e a b : Expr} {fe fa fb : En → Res D}
theorem b_nil : JB X Y W M [] bN := PSs.imp pss_nil fun D σ H ⟨F, S, s, h⟩ => h σ H s (Stay.refl M σ)
theorem b_cons (h1 : JS X Y W M st f) (h2 : JB X Y W M rest g) : JB X Y W M (st :: rest) (bSeq f g) :=
  PSs.imp (pss_cons h1 h2) fun D σ H ⟨F, S, s, h⟩ => ⟨F, S, s, by
    unfold bSeq at h
    cases q : f S with
    | stuck => rw [q] at h; exact h
    | exc x => rw [q] at h; exact h
    | ok r =>
      rw [q] at h
      cases r with
      | rt d => exact h
      | bk S' => exact h
      | ct S' => exact h
      | nx S' =>
        intro σ' H' s' st'
        refine ⟨F, S', s', ?_⟩
        have h' : WPs X.K Y W M F D σ (g S') := h
        cases q2 : g S' with
        | stuck => rw [q2] at h'; exact h'
        | exc x => rw [q2] at h'; exact h'
        | ok r2 =>
          rw [q2] at h'
          cases r2 with
          | rt d => exact h'
          | nx S2 => exact fun σ2 H2 s2 t2 => h' σ2 H2 s2 (st'.trans t2)
          | bk S2 => exact fun σ2 H2 s2 t2 => h' σ2 H2 s2 (st'.trans t2)
          | ct S2 => exact fun σ2 H2 s2 t2 => h' σ2 H2 s2 (st'.trans t2)⟩
theorem b_one (h1 : JS X Y W M st f) : JB X Y W M [st] f := pss_one h1
theorem s_pass : JS X Y W M (.Pass pos) bN := PS.imp ps_pass fun D σ H ⟨F, S, s, h⟩ => h σ H s (Stay.refl M σ)
theorem s_break : JS X Y W M (.Break pos) (fun S => .ok (.bk S)) := PS.imp ps_break fun D σ H ⟨F, S, s, h⟩ => h σ H s (Stay.refl M σ)
theorem s_cont : JS X Y W M (.Continue pos) (fun S => .ok (.ct S)) := PS.imp ps_continue fun D σ H ⟨F, S, s, h⟩ => h σ H s (Stay.refl M σ)
theorem Sat.put {K : PySem.W.Frag} {F H H' : Hp} {S : List Slot} {σ : St} {i : Nat} {d : D} {D' : Ends} (s : Sat K Y F S σ H) (hM : M i = true) (p : WPs K Y W M F D' σ (.ok (.nx (setS S i (mk d))))) :
    Po K Y .n d H fun v H1 => D'.nx (σ.set i (some v)) H1 := fun v H1 fp sh o nd fr => p _ _ (s.setMk sh o nd fr) (Stay.set hM)
theorem s_set (i : Nat) {x : Str} {p' : Pos} (hN : X.N.Nodup) (he : J X Y W .n e fe) (hi : X.N[i]? = some x := by rfl) (hx : Loc X.env.scope x := by first | exact Or.inl rfl | exact Or.inr rfl) (hM : M i = true := by rfl) (hs : swapsWith e (some (.Name x p')) pos.line X.env = pure false := by rfl)
    (hf : X.fn x = true ∨ X.env.scope.names.lookup x = some .local := by first | exact .inl rfl | exact .inr rfl) : JS X Y W M (.Assign [.Name x p'] e pos) (sSet i fe) :=
  PS.imp (ps_set hN hi hx he hs hf) fun D σ H ⟨F, S, s, h⟩ => ⟨en S, s.en, (WPs.bind h s.same).imp (Same.refl H) fun d p => s.put (H' := H) hM p⟩
theorem s_ret (he : J X Y W .n e fe) : JS X Y W M (.Return (some e) pos) (sRet fe) :=
  PS.imp (ps_ret he) fun D σ H ⟨F, S, s, h⟩ => ⟨en S, s.en, (WPs.bind h s.same).imp (Same.refl H) fun d p => fun v H1 fp sh o nd fr => p v H1 ⟨s.same.trans sh, fp, o, nd, fun q hq => s.same.free (fr q hq)⟩⟩
theorem s_retN : JS X Y W M (.Return none pos) (fun _ => .ok (.rt .non)) :=
  PS.imp ps_retN fun D σ H ⟨F, S, s, h⟩ => h .non H ⟨s.same, [], .pur pureD_non .non, .nil, fun _ z => nomatch z⟩
theorem s_do (he : J X Y W .r e fe) (hs : swapsWith e none pos.line X.env = pure false := by rfl) : JS X Y W M (.Expr e pos) (sDo fe) :=
  PS.imp (ps_expr he hs) fun D σ H ⟨F, S, s, h⟩ => ⟨en S, s.en, (WPs.bind h s.same).imp (Same.refl H) fun d p => fun v H1 sh r => p σ H1 (s.ext sh) (Stay.refl M σ)⟩
theorem s_if {c : Expr} {ga : En → Res Bool} {sa sb : List Stmt} (hc : T X Y W c ga) (ha : JB X Y W M sa f) (hb : JB X Y W M sb g) : JS X Y W M (.If c sa sb pos) (sIf ga f g) :=
  PS.imp (ps_if hc ha hb) fun D σ H ⟨F, S, s, h⟩ => ⟨en S, s.en, (WPs.bindB h s.same).imp (Same.refl H) fun d p => fun H1 sh => by
    cases d with
    | true =>
      rw [if_pos rfl] at p ⊢
      exact ⟨F, S, s.ext sh, p⟩
    | false =>
      rw [if_neg Bool.false_ne_true] at p ⊢
      exact ⟨F, S, s.ext sh, p⟩⟩
theorem s_retV (i : Nat) {x : Str} {p' : Pos} (hN : X.N[i]? = some x := by rfl) (hv : Vis X.env.scope x := by first | exact Or.inl rfl | exact Or.inr (Or.inl rfl) | exact Or.inr (Or.inr rfl)) (hd : (x == ("__debug__" : Str)) = false := by decide)
    (hcd : (x == ("__classdict__" : Str)) = false := by decide) : JS X Y W M (.Return (some (.Name x p')) pos) (sRetV i) :=
  PS.imp (ps_ret (pe_var hN hv hd hcd)) fun D σ H ⟨F, S, s, h⟩ => by
    have s0 := s
    obtain ⟨G, w, fp, sw⟩ := s
    unfold sRetV at h
    cases q : S[i]? with
    | none => rw [q] at h; exact h.elim
    | some x =>
      rw [q] at h
      cases x with
      | un => exact h.elim
      | ali s j => exact h.elim
      | own d =>
        obtain ⟨v, a, o, nd, z⟩ := sw.ok i _ q
        refine ⟨v, a, h v H ⟨s0.same, _, o, nd, fun p hp => ?_⟩⟩
        exact sw.fg.free (z p hp).2
      | fz d =>
        obtain ⟨v, a, r⟩ := sw.ok i _ q
        dsimp only at h
        by_cases hp : pureD d = true
        · rw [if_pos hp] at h
          exact ⟨v, a, h v H ⟨s0.same, [], .pur hp (r.mono sw.gh), .nil, fun _ z => nomatch z⟩⟩
        · rw [if_neg hp] at h
          exact h.elim
theorem s_par (i j : Nat) {x y : Str} {px py pt : Pos} {kt k2 pt2} (hc : X.calm = true) (hN : X.N.Nodup) (ha : J X Y W .r a fa) (hb : J X Y W .r b fb) (hi : X.N[i]? = some x := by rfl) (hj : X.N[j]? = some y := by rfl) (hij : i ≠ j := by decide)
    (hx : X.env.scope.names.lookup x = some .local := by rfl) (hy : X.env.scope.names.lookup y = some .local := by rfl) (hMi : M i = true := by rfl) (hMj : M j = true := by rfl)
    (hw : swappedStores [.Tuple [.Name x px, .Name y py] kt pt] (.Tuple [a, b] k2 pt2) X.env = pure (some [x, y]) := by rfl)
    (hs : swapsWithSole [.Tuple [.Name x px, .Name y py] kt pt] (.Tuple [a, b] k2 pt2) pos.line X.env = pure false := by rfl)
    (h1 : starEach (a :: [b]) X.env = (false, eval a X.env) :: starEach [b] X.env := by rfl) (h2 : starEach (b :: []) X.env = (false, eval b X.env) :: starEach [] X.env := by rfl) :
    JS X Y W M (.Assign [.Tuple [.Name x px, .Name y py] kt pt] (.Tuple [a, b] k2 pt2) pos) (sPar i j fa fb) :=
  PS.imp (ps_par hc hN hi hj hij hx hy (pa_cons ha (pa_cons hb pa_nil h2) h1) hw hs) fun D σ H ⟨F, S, s, h⟩ => by
    refine ⟨en S, s.en, (WPs.bind h s.same).imp (Same.refl H) fun d p => ?_⟩
    intro v H1 s1 r1
    refine ⟨en S, s.en.mono s1, (WPs.bind p (s.same.trans s1)).imp (Same.refl H1) fun e q => ?_⟩
    intro u H2 s2 r2
    by_cases hp : (pureD d && pureD e) = true
    · rw [if_pos hp] at q
      have hp' := Bool.and_eq_true_iff.mp hp
      refine ⟨v, u, rfl, q _ _ (((s.ext s1).setPure s2 (r1.mono s2) hp'.1).setPure (Same.refl H2) r2 hp'.2) ((Stay.set hMi).trans (Stay.set hMj))⟩
    · rw [if_neg hp] at q
      exact q.elim
end

/-! ### while -/
def whS (c : En → Res Bool) (b : List Slot → Res Fl) : Nat → List Slot → Res Fl
  | 0, _ => .stuck
  | n + 1, S => c (en S) >>= fun t => if t = true then b S >>= fun r => match r with
    | .nx S' => whS c b n S'
    | .ct S' => whS c b n S'
    | .bk S' => .ok (.nx S')
    | .rt d => .ok (.rt d) else .ok (.nx S)
open Classical in
noncomputable def sWhile (c : En → Res Bool) (b : List Slot → Res Fl) (S : List Slot) : Res Fl :=
  if h : ∃ n, whS c b n S ≠ .stuck then whS c b (Classical.choose h) S else .stuck
theorem whS_more {c : En → Res Bool} {b : List Slot → Res Fl} : ∀ (n : Nat) (S : List Slot), whS c b n S ≠ .stuck → whS c b (n + 1) S = whS c b n S
  | 0, S, h => absurd rfl h
  | n + 1, S, h => by
    show (c (en S) >>= fun t => if t = true then b S >>= fun r => match r with
      | .nx S' => whS c b (n + 1) S'
      | .ct S' => whS c b (n + 1) S'
      | .bk S' => .ok (.nx S')
      | .rt d => .ok (.rt d) else .ok (.nx S)) = (c (en S) >>= fun t => if t = true then b S >>= fun r => match r with
      | .nx S' => whS c b n S'
      | .ct S' => whS c b n S'
      | .bk S' => .ok (.nx S')
      | .rt d => .ok (.rt d) else .ok (.nx S))
    unfold whS at h
    cases q : c (en S) with
    | stuck => rfl
    | exc e => rfl
    | ok t =>
      rw [q] at h
      show (if t = true then _ else _) = (if t = true then _ else _)
      cases t with
      | false => rfl
      | true =>
        rw [if_pos rfl, if_pos rfl]
        have h' : (b S >>= fun r => match r with
          | .nx S' => whS c b n S'
          | .ct S' => whS c b n S'
          | .bk S' => .ok (.nx S')
          | .rt d => .ok (.rt d)) ≠ Res.stuck := h
        cases q2 : b S with
        | stuck => rfl
        | exc e => rfl
        | ok r =>
          rw [q2] at h'
          cases r with
          | rt d => rfl
          | bk S' => rfl
          | nx S' => exact whS_more n S' h'
          | ct S' => exact whS_more n S' h'
theorem whS_le {c : En → Res Bool} {b : List Slot → Res Fl} {n m : Nat} {S : List Slot} (h : whS c b n S ≠ .stuck) (hm : n ≤ m) : whS c b m S = whS c b n S := by
  induction m with
  | zero =>
    have : n = 0 := by omega
    rw [this]
  | succ m ih =>
    by_cases e : n = m + 1
    · rw [e]
    · have q := ih (by omega)
      rw [whS_more m S (by rw [q]; exact h), q]
theorem sWhile_is {c : En → Res Bool} {b : List Slot → Res Fl} {n : Nat} {S : List Slot} (h : whS c b n S ≠ .stuck) : sWhile c b S = whS c b n S := by
  unfold sWhile
  have hx : ∃ n, whS c b n S ≠ .stuck := ⟨n, h⟩
  rw [dif_pos hx]
  have h2 := Classical.choose_spec hx
  rcases Nat.le_total n (Classical.choose hx) with z | z
  · exact whS_le h z
  · exact (whS_le h2 z).symm
theorem sWhile_eq {c : En → Res Bool} {b : List Slot → Res Fl} {S : List Slot} : sWhile c b S = (c (en S) >>= fun t => if t = true then b S >>= fun r => match r with
    | .nx S' => sWhile c b S'
    | .ct S' => sWhile c b S'
    | .bk S' => .ok (.nx S')
    | .rt d => .ok (.rt d) else .ok (.nx S)) := by
  by_cases hx : ∃ n, whS c b n S ≠ .stuck
  · obtain ⟨n, hn⟩ := hx
    rw [sWhile_is hn]
    cases n with
    | zero => exact absurd rfl hn
    | succ n =>
      unfold whS at hn ⊢
      cases q : c (en S) with
      | stuck => rfl
      | exc e => rfl
      | ok t =>
        rw [q] at hn
        show (if t = true then _ else _) = (if t = true then _ else _)
        cases t with
        | false => rfl
        | true =>
          rw [if_pos rfl, if_pos rfl]
          have hn' : (b S >>= fun r => match r with
            | .nx S' => whS c b n S'
            | .ct S' => whS c b n S'
            | .bk S' => .ok (.nx S')
            | .rt d => .ok (.rt d)) ≠ Res.stuck := hn
          cases q2 : b S with
          | stuck => rfl
          | exc e => rfl
          | ok r =>
            rw [q2] at hn'
            cases r with
            | rt d => rfl
            | bk S' => rfl
            | nx S' => exact (sWhile_is hn').symm
            | ct S' => exact (sWhile_is hn').symm
  · unfold sWhile
    rw [dif_neg hx]
    have hn : ∀ n, whS c b n S = .stuck := fun n => Classical.byContradiction fun z => hx ⟨n, z⟩
    cases q : c (en S) with
    | stuck => rfl
    | exc e =>
      have := hn 1
      unfold whS at this
      rw [q] at this
      cases this
    | ok t =>
      cases t with
      | false =>
        have := hn 1
        unfold whS at this
        rw [q] at this
        cases this
      | true =>
        show Res.stuck = (b S >>= _)
        cases q2 : b S with
        | stuck => rfl
        | exc e =>
          have := hn 1
          unfold whS at this
          rw [q] at this
          simp [q2] at this
        | ok r =>
          have hn2 : ∀ n, (match r with
            | .nx S' => whS c b n S'
            | .ct S' => whS c b n S'
            | .bk S' => .ok (.nx S')
            | .rt d => .ok (.rt d)) = Res.stuck := fun n => by
            have := hn (n + 1)
            unfold whS at this
            rw [q] at this
            simp [q2] at this
            exact this
          cases r with
          | rt d => cases hn2 0
          | bk S' => cases hn2 0
          | nx S' =>
            show Res.stuck = sWhile c b S'
            unfold sWhile
            rw [dif_neg (fun ⟨n, z⟩ => z (hn2 n))]
          | ct S' =>
            show Res.stuck = sWhile c b S'
            unfold sWhile
            rw [dif_neg (fun ⟨n, z⟩ => z (hn2 n))]
section
variable {X : Cx} {Y : Cl} {W : Wh} {M : Md} {pos : Pos} {c : Expr} {body : List Stmt} {gc : En → Res Bool} {gb : List Slot → Res Fl}
theorem s_while (hp : PassesOwn (model X.prog X.w) X.A X.env X.xe) (hc : T X Y W c gc) (hb : JB X Y W M body gb) : JS X Y W M (.While c body [] pos) (sWhile gc gb) :=
  PS.imp (ps_while hp hc hb) fun D σ0 H0 ⟨F, S0, s0, h0⟩ => by
    have hx : ∃ n, whS gc gb n S0 ≠ .stuck := Classical.byContradiction fun z => by
      unfold sWhile at h0
      rw [dif_neg z] at h0
      exact h0
    obtain ⟨n0, hn0⟩ := hx
    rw [sWhile_is hn0] at h0
    refine ⟨fun m σ H => ∃ S, Sat X.K Y F S σ H ∧ Stay M σ0 σ ∧ WPs X.K Y W M F D σ0 (whS gc gb m S), ⟨n0, S0, s0, Stay.refl M σ0, h0⟩, ?_⟩
    rintro m σ H ⟨S, s, sy, h⟩
    cases m with
    | zero => exact h.elim
    | succ m =>
      unfold whS at h
      refine ⟨en S, s.en, (WPs.bindB (σ := σ) h s.same).imp (Same.refl H) fun t p H1 sh => ?_⟩
      cases t with
      | false =>
        rw [if_neg Bool.false_ne_true] at p ⊢
        exact p σ H1 (s.ext sh) sy
      | true =>
        rw [if_pos rfl] at p ⊢
        refine ⟨fun σ' H' => ∃ m', m' < m + 1 ∧ ∃ S, Sat X.K Y F S σ' H' ∧ Stay M σ0 σ' ∧ WPs X.K Y W M F D σ0 (whS gc gb m' S), fun σ' H' z => z, F, S, s.ext sh, ?_⟩
        cases q : gb S with
        | stuck => rw [q] at p; exact p
        | exc e => rw [q] at p; exact p
        | ok r =>
          rw [q] at p
          cases r with
          | rt d => exact p
          | bk S' => exact fun σ' H' s' st' => p σ' H' s' (sy.trans st')
          | nx S' => exact fun σ' H' s' st' => ⟨m, Nat.lt_succ_self m, S', s', sy.trans st', p⟩
          | ct S' => exact fun σ' H' s' st' => ⟨m, Nat.lt_succ_self m, S', s', sy.trans st', p⟩
end
end Ow
end
section
set_option linter.all false
set_option maxRecDepth 100000
set_option maxHeartbeats 2000000
/-! Ow5: defs, calls, raise, try. -/
namespace Ow
open PySem L2 PySem.Spec

/-- what a def comes to: its body over its slots, the parameters first -/
def runB (m : Nat) (g : List Slot → Res Fl) (ds : List D) : Res D := g (ds.map Slot.fz ++ List.replicate m Slot.un) >>= fun r => match r with
  | .rt d => .ok d
  | .nx _ => .ok .non
  | _ => .stuck
def spFn (K : PySem.W.Frag) (Y : Cl) (x : Bool) (n : Nat) (sem : List D → Res D) : Sp := fun vs H Q E => ∃ ds, vs.length = n ∧ Reps K Y H vs ds ∧ match sem ds with
  | .ok d => ∀ v H', RetOk K Y H H' v d → Q v H'
  | .exc e => x = true ∧ ∀ cls d H', Same H H' → ExRep K Y H' e cls d → E cls d H'
  | .stuck => False
theorem reps_slots {K : PySem.W.Frag} {Y : Cl} {H : Hp} : ∀ {vs : List V} {ds : List D}, Reps K Y H vs ds → ∀ (i : Nat) (x : Slot), (ds.map Slot.fz)[i]? = some x → ∃ v d, vs[i]? = some v ∧ x = .fz d ∧ Rep K Y H v d := fun {vs ds} r i x hx => by
  rw [List.getElem?_map] at hx
  cases q : ds[i]? with
  | none => rw [q] at hx; cases hx
  | some d =>
    rw [q] at hx
    obtain ⟨v, hv, rv⟩ := r.get q
    exact ⟨v, d, hv, (Option.some.inj hx).symm, rv⟩
theorem sat_start {K : PySem.W.Frag} {Y : Cl} {H : Hp} {N : List Str} {vs : List V} {ds : List D} {n m : Nat} (r : Reps K Y H vs ds) (hv : vs.length = n) (hN : N.length = n + m) : Sat K Y H (ds.map Slot.fz ++ List.replicate m Slot.un) (L2.start N vs) H := by
  have hl := r.length
  refine ⟨H, fun _ => 0, fun _ => [], Same.refl H, Same.refl H, fun _ _ e _ => e, ?_, fun i x hx => ?_⟩
  · unfold L2.start
    simp
    omega
  · by_cases hi : i < ds.length
    · rw [List.getElem?_append_left (by simpa using hi)] at hx
      obtain ⟨v, d, h1, rfl, h3⟩ := reps_slots r i x hx
      refine ⟨v, ?_, h3⟩
      unfold L2.start
      rw [List.getElem?_append_left (by simpa [hl] using hi), List.getElem?_map, h1]
      rfl
    · rw [List.getElem?_append_right (by simpa using Nat.le_of_not_lt hi)] at hx
      have := List.mem_of_getElem? hx
      rw [List.eq_of_mem_replicate this]
      trivial
section
variable {P : Program} {w : World} {K : PySem.W.Frag} {mg : Str → Option Value} {base : Heap} {Y : Cl} {M : Md}
/-- a def that raises nothing -/
theorem fn0 {x qual : Str} {st : Stmt} {f : Addr} {fd : FuncData} {N ps : List Str} {k n m : Nat} {g : List Slot → Res Fl} (F : Fun K x qual st f fd) (S : FnScope N ps (defScope st)) (hn : ps.length = n) (hm : N.length = n + m)
    (hb : ∀ (cdv : Value) (A : Around) (outer : List Env) (s : Shared) (H : Hp) (E : XK), Room k (A.deeper (PyProof.Rows.envOfC qual (defScope st) s.heap.objs.size f cdv)) →
      JB (cxOf CX0 P w K mg base N qual (defScope st) f cdv A outer s H E).nox Y none M (defBody st) g) : FnOk P w K mg base CX0 (k + 1) f fd ps (spFn K Y false n (runB m g)) := by
  refine F.ok S (fun vs H Q E ⟨ds, h, _⟩ => by rw [h, hn]) fun cdv A outer s H vs Q E hr ⟨ds, hv, r, h⟩ => ⟨_, hb cdv A outer s H E hr, H, _, sat_start r hv hm, ?_⟩
  unfold runB at h
  show WPs K Y none M H _ _ (g (ds.map Slot.fz ++ List.replicate m Slot.un))
  cases q : g (ds.map Slot.fz ++ List.replicate m Slot.un) with
  | stuck => rw [q] at h; exact h
  | exc e =>
    rw [q] at h
    cases h.1
  | ok r =>
    rw [q] at h
    cases r with
    | rt d => exact h
    | nx S' => exact fun σ' H' s' _ => h .non H' ⟨s'.same, [], .pur pureD_non .non, .nil, fun _ z => nomatch z⟩
    | bk S' => exact h.elim
    | ct S' => exact h.elim
/-- a def that may raise -/
theorem fnX {x qual : Str} {st : Stmt} {f : Addr} {fd : FuncData} {N ps : List Str} {k n m : Nat} {g : List Slot → Res Fl} (F : Fun K x qual st f fd) (S : FnScope N ps (defScope st)) (hn : ps.length = n) (hm : N.length = n + m)
    (hb : ∀ (cdv : Value) (A : Around) (outer : List Env) (s : Shared) (H : Hp) (E : XK), Room k (A.deeper (PyProof.Rows.envOfC qual (defScope st) s.heap.objs.size f cdv)) →
      JB (cxOf (L2.CX P w) P w K mg base N qual (defScope st) f cdv A outer s H E) Y (some fun cls d _ H' => E cls d H') M (defBody st) g) : FnOk P w K mg base (L2.CX P w) (k + 1) f fd ps (spFn K Y true n (runB m g)) := by
  refine F.okX S (fun vs H Q E ⟨ds, h, _⟩ => by rw [h, hn]) fun cdv A outer s H vs Q E hr ⟨ds, hv, r, h⟩ => ⟨_, hb cdv A outer s H E hr, H, _, sat_start r hv hm, ?_⟩
  unfold runB at h
  show WPs K Y _ M H _ _ (g (ds.map Slot.fz ++ List.replicate m Slot.un))
  cases q : g (ds.map Slot.fz ++ List.replicate m Slot.un) with
  | stuck => rw [q] at h; exact h
  | exc e =>
    rw [q] at h
    exact ⟨_, rfl, fun cls d σ' H' s' x => h.2 cls d H' s' x⟩
  | ok r =>
    rw [q] at h
    cases r with
    | rt d => exact h
    | nx S' => exact fun σ' H' s' _ => h .non H' ⟨s'.same, [], .pur pureD_non .non, .nil, fun _ z => nomatch z⟩
    | bk S' => exact h.elim
    | ct S' => exact h.elim
end
/-! ### calls -/
def noX {α : Type} : Res α → Res α
  | .exc _ => .stuck
  | r => r
@[simp] theorem noX_ok {α : Type} (a : α) : noX (.ok a) = .ok a := rfl
def xCall (sem : List D → Res D) (fs : En → Res (List D)) : En → Res D := fun en => fs en >>= fun ds => noX (sem ds)
def xCallX (sem : List D → Res D) (fs : En → Res (List D)) : En → Res D := fun en => fs en >>= sem
section
variable {X : Cx} {Y : Cl} {W : Wh} {M : Md} {CX : CXT} {k n : Nat} {f : Addr} {fd : FuncData} {ps : List Str} {sem : List D → Res D} {x : Str} {p pos : Pos} {e : Expr} {es : List Expr} {fs : En → Res (List D)}
theorem WPr.bindL {K : PySem.W.Frag} {σ : St} {H : Hp} {r : Res (List D)} {g : List D → Res D} {Q : D → Prop} (h : WPr K Y W σ H (r >>= g) Q) : WPr K Y W σ H r fun a => WPr K Y W σ H (g a) Q := by
  cases r with
  | ok a => exact h
  | exc e => exact h
  | stuck => exact h
theorem po_ret {K : PySem.W.Frag} {H H1 : Hp} {Q : VK} {d : D} (p : Po K Y .n d H Q) (s1 : Same H H1) (v : V) (H' : Hp) (h : RetOk K Y H1 H' v d) : Q v H' := by
  obtain ⟨s2, fp, o, nd, fr⟩ := h
  exact p v H' fp (s1.trans s2) o nd fun q hq => s1.free (fr q hq)
theorem j_call (F : FnOk X.prog X.w X.K X.mg X.base CX0 k f fd ps (spFn X.K Y false n sem)) (hr : Room k X.A) (hm : X.mg x = some (.ref f)) (hk : PySem.W.keepIn X.K (.ref f) = true) (hb : Binds X.K fd ps []) (ha : A X Y W (e :: es) fs) (hl : (e :: es).length = n := by rfl) (hg : Gl X x := by rfl)
    (hdb : (x == ("__debug__" : Str)) = false := by decide) (he : starEach (e :: es) X.env = (false, eval e X.env) :: starEach es X.env := by rfl) (hpl : (backTo pos (starEach es X.env)).any (·.1) = false := by rfl) :
    J X Y W .n (.Call (.Name x p) (e :: es) [] pos) (xCall sem fs) :=
  PE.imp (pe_call F hr hg hm hk hb .nil pass0 ha hdb he hpl) fun σ H Q ⟨en, hE, h⟩ => ⟨en, hE, (WPr.bindL h).imp (Same.refl H) fun ds p => by
    intro vs H1 s1 r1 l1
    rw [List.append_nil]
    refine ⟨ds, l1.trans hl, r1, ?_⟩
    cases q : sem ds with
    | stuck => rw [q] at p; exact p.elim
    | exc e => rw [q] at p; exact p.elim
    | ok d =>
      rw [q] at p
      exact fun v H' h => po_ret p s1 v H' h⟩
/-- a callee that may raise, where the wish is w -/
theorem j_callX {w : WX} (F : FnOk X.prog X.w X.K X.mg X.base (L2.CX X.prog X.w) k f fd ps (spFn X.K Y true n sem)) (hr : Room k X.A) (hm : X.mg x = some (.ref f)) (hk : PySem.W.keepIn X.K (.ref f) = true) (hb : Binds X.K fd ps []) (tk : Takes X w) (ha : A X Y (some w) (e :: es) fs) (hl : (e :: es).length = n := by rfl) (hg : Gl X x := by rfl)
    (hdb : (x == ("__debug__" : Str)) = false := by decide) (he : starEach (e :: es) X.env = (false, eval e X.env) :: starEach es X.env := by rfl) (hpl : (backTo pos (starEach es X.env)).any (·.1) = false := by rfl) :
    J X Y (some w) .n (.Call (.Name x p) (e :: es) [] pos) (xCallX sem fs) :=
  PE.imp (pe_callS F hr hg hm hk hb (fun σ => passAt tk σ) ha hdb he hpl) fun σ H Q ⟨en, hE, h⟩ => ⟨en, hE, (WPr.bindL h).imp (Same.refl H) fun ds p => by
    intro vs H1 s1 r1 l1
    refine ⟨ds, l1.trans hl, r1, ?_⟩
    cases q : sem ds with
    | stuck => rw [q] at p; exact p.elim
    | exc e =>
      rw [q] at p
      obtain ⟨w', hw, b⟩ := p
      cases hw
      exact ⟨rfl, fun cls d H' s' x => b cls d H' (s1.trans s') x⟩
    | ok d =>
      rw [q] at p
      exact fun v H' h => po_ret p s1 v H' h⟩
end

/-! ### raise -/
def sRaise (c : Nat) : List Slot → Res Fl := fun _ => .exc ⟨c, []⟩
def sRaise1 (c : Nat) (f : En → Res D) : List Slot → Res Fl := fun S => f (en S) >>= fun d => .exc ⟨c, [d]⟩
section
variable {X : Cx} {Y : Cl} {M : Md} {st : Stmt} {pos : Pos} {f : En → Res D} {c : Nat}
theorem s_raise0 : JS X Y none M st (sRaise c) := PS.imp ps_never fun D σ H ⟨F, S, s, h⟩ => by
  obtain ⟨w, a, _⟩ := h
  cases a
theorem s_raise0' : JS X Y none M st (sRaise1 c f) := PS.imp ps_never fun D σ H ⟨F, S, s, h⟩ => by
  unfold sRaise1 at h
  cases q : f (en S) with
  | stuck => rw [q] at h; exact h
  | exc e =>
    rw [q] at h
    obtain ⟨w, a, _⟩ := h
    cases a
  | ok d =>
    rw [q] at h
    obtain ⟨w, a, _⟩ := h
    cases a
theorem s_raise {w : WX} {x m : Str} {j : Nat} {p p2 pc : Pos} {B newId initId : String} {bmB : List Value} (hc : X.calm = true) (tk : Takes X w) (Fb : ExcBaseFacts B newId initId bmB) (q : PySem.W.excIn X.K (Y.at_ c) bmB newId = true) (gC : X.mg x = some (.ref (Y.at_ c)))
    (kC : PySem.W.keepIn X.K (.ref (Y.at_ c)) = true) (r : Raises X (.ref (Y.at_ c))) (hg : Gl X x := by rfl) (hdb : (x == ("__debug__" : Str)) = false := by decide) :
    JS X Y (some w) M (.Raise (some (.Call (.Name x p) [.Constant (.str m) j p2] [] pc)) none pos) (sRaise c) :=
  PS.imp (ps_raise hc tk (pmk_own Fb q gC kC r hg hdb)) fun D σ H ⟨F, S, s, h⟩ => by
    obtain ⟨w', hw, b⟩ := h
    cases hw
    exact b _ _ σ H s.same ⟨rfl, .inl ⟨rfl, rfl⟩⟩
end

/-! ### try: a call, its error kept under a name -/
section
variable {X : Cx} {pins : List (Addr × Obj)} {σ : St} {H : Hp} {s : Shared}
/-- an exception object of ours that nobody tracks is tracked from now on -/
theorem inv_track {a : Addr} {oe : Obj} {vs : Array Value} {cls : Value} {d : Option Addr} (I : Inv X pins σ H s) (ha : s.heap.get? a = some oe) (hz : Zc cls d oe) (hd : oe.data = .fields vs) (h0 : X.s_0.heap.get? a = none) (hn : H a = none) (hL : a ≠ X.env.locals)
    (hp : ∀ p ∈ X.pn ++ pins, p.1 ≠ a) : Inv X pins σ (upd H a (ExV cls d a)) s := by
  have ne0 : ∀ b o, X.s_0.heap.get? b = some o → b ≠ a := fun b o e z => by rw [z, h0] at e; cases e
  have neH : ∀ b o, H b = some o → b ≠ a := fun b o e => ne_of_none e hn
  refine ⟨I.ok, I.os, I.bare, ⟨I.base.keep, I.base.slot, fun b o e n hx => ?_, I.base.there, fun b xs e => ?_, fun b o xs e => ?_, fun b ps e => ?_⟩, I.loc, I.cell, ?_, fun x c e => ?_, fun p hq => ?_, fun b u e => ?_, I.len⟩
  · rw [upd_ne (ne0 b o e)]
    exact I.base.free b o e n hx
  · have q := I.base.tups b xs e
    rw [upd_ne (neH b _ q)]
    exact q
  · have q := I.base.frzs b o xs e
    rw [upd_ne (neH b _ q)]
    exact q
  · obtain ⟨m, q⟩ := I.base.tbls b ps e
    exact ⟨m, by rw [upd_ne (neH b _ q)]; exact q⟩
  · rw [upd_ne hL.symm]
    exact I.free
  · have hc : c ≠ a := fun z => by
      obtain ⟨v, o, ho, hdc⟩ := I.cell x c e
      rw [z, ha] at ho
      cases ho
      rw [hd] at hdc
      cases hdc
    rw [upd_ne hc]
    exact I.freeC x c e
  · obtain ⟨e, n, ne, nf, dd⟩ := I.pin p hq
    exact ⟨e, by rw [upd_ne (hp p hq)]; exact n, ne, nf, dd⟩
  · by_cases hb : b = a
    · subst hb
      rw [upd_same] at e
      cases e
      exact ⟨⟨oe, vs, ha, hz, hd⟩, ⟨oe, ha⟩, fun h1 h2 ⟨o, v, q, z, r⟩ k => ⟨o, v, k o q, z, r⟩⟩
    · rw [upd_ne hb] at e
      exact (I.hok b u e).stay (fun c v hc q => q) (fun c q => by rw [upd_ne (neH c _ q)]; exact q) fun c xs q => by rw [upd_ne (neH c _ q)]; exact q
end
/-- as wAs, the exception tracked behind the suite -/
def wKeep (K : PySem.W.Frag) (c : Value) (i : Nat) (ts : Addr → Value → Option Addr → TS) (D : Ends) : WX := fun cls d σ H =>
  PySem.W.exmOne K cls c = some true ∧ ∀ a, H a = none → ts a cls d { nx := fun σ' H' => D.nx (σ'.set i none) (upd H' a (ExV cls d a)), rt := fun _ _ => False, bk := fun _ _ => False, ct := fun _ _ => False } (σ.set i (some (.ref a))) H
section
variable {X : Cx} {x n : Str} {c : Value} {i : Nat} {body suite : List Stmt} {b₀ : Stmt} {np pos pos' : Pos} {tb : WX → TS} {ts : Addr → Value → Option Addr → TS}
theorem ps_try_keep (hs : X.stack = X.env :: X.outer) (hf : X.env.frame = some X.env.locals) (hex : X.ex = []) (hN : X.N.Nodup) (hi : X.N[i]? = some n) (hln : X.env.kindOf n = some .local) (hc : Names X x c)
    (hb : ∀ (W : WX) (pn : List (Addr × Obj)) (xe : Value → Shared → Prop), Takes (X.tr pn xe) W → PassesOwn (model X.prog X.w) X.A X.env xe → PSs (X.tr pn xe) body (tb W))
    (hsu : ∀ (a : Addr) (oe : Obj) (cls : Value) (d : Option Addr) (pn : List (Addr × Obj)), Zc cls d oe → (∃ vs, oe.data = .fields vs) → PSs (X.suite a ((a, oe) :: pn)) (b₀ :: suite) (ts a cls d)) :
    PS X (.Try body [.ExceptHandler (some (.Name x np)) (some n) (b₀ :: suite) pos'] [] [] pos) (fun D σ H => tb (wKeep X.K c i ts D) D σ H) := by
  refine ⟨fun pins s σ H D I h => ?_⟩
  have ok := I.ok
  have hfr : X.A.frames = some (X.env :: X.outer) := by rw [ok.frames, hs]
  have hloc : Loc X.env.scope n := .inl hln
  refine wpAny_Try_except ?_
  refine wpAny_mono ((hb (wKeep X.K c i ts D) (X.pn ++ pins) (fun e s₁ => wpAny (model X.prog X.w) X.A (noteFrame e X.env) (fun _ s₂ => wpAny (model X.prog X.w) X.A (setFlight e none) (fun _ s₃ =>
    wpAny (model X.prog X.w) X.A (handleBy e X.env [.ExceptHandler (some (.Name x np)) (some n) (b₀ :: suite) pos']) (SP X pins D) X.xe s₃) X.xe s₂) X.xe s₁) (fun u s' xx => ?_) PassesOwn.looking).run [] s σ H D (I.toTry _) h) (fun f s1 hsp => ?_) (fun e s1 he => he)
  · -- the catch
    obtain ⟨a, B, sI, pins', σ', H', cls, d, rfl, J', nb, up, sky, na, os, ag, hb1, hyes⟩ := xx
    have J : Inv X pins σ' H' sI := J'.ofTry ok
    have sky' : Sky B (X.env :: X.outer) a (Zc cls d) X.env.locals s'.heap := by rw [← hs]; exact sky
    show wpAny (model X.prog X.w) X.A (noteFrame (.ref a) X.env) _ _ _
    refine Sky.land Zc.steady hfr hf sky' fun h3 fl3 up3 => ?_
    have J3 : Inv X pins σ' H' { s' with heap := h3 } := J.landed nb fl3.1 (up.trans up3) os ag
    obtain ⟨oe3, vs3, he3, hz3, hd3⟩ := fl3.there
    have notFr : ∀ {h : Heap} {o : Obj} {vs : Array Value}, h.FunFrames B (X.env :: X.outer) → h.get? a = some o → o.data = .fields vs → a ∉ frs (X.env :: X.outer) := fun {h o vs} ff e dd hm => by
      obtain ⟨_, o', e', hnf⟩ := ff.mem hm
      rw [e] at e'; cases e'
      exact hnf _ dd
    have nfr := notFr fl3.2.2.1 he3 hd3
    have nL : a ≠ X.env.locals := fun z => nfr (List.mem_filterMap.mpr ⟨X.env, List.mem_cons_self, by rw [hf, z]⟩)
    have nF : a ∉ X.fs := fun hm => by
      obtain ⟨e, he, q⟩ := List.mem_filterMap.mp hm
      exact nfr (List.mem_filterMap.mpr ⟨e, List.mem_cons_of_mem _ he, q⟩)
    have nI : sI.heap.get? a = none := by
      cases q : sI.heap.get? a with
      | none => rfl
      | some o =>
        have z := nb a o q (by rw [hs]; exact nfr)
        rw [fl3.2.1] at z
        cases z
    have n0 : X.s_0.heap.get? a = none := by
      cases q : X.s_0.heap.get? a with
      | none => rfl
      | some o =>
        obtain ⟨o', e'⟩ := J.base.there a o q (by rw [hex]; exact fun z => nomatch z)
        rw [nI] at e'
        cases e'
    have npin : ∀ p ∈ X.pn ++ pins, p.1 ≠ a := fun p hp z => by
      have q := (J.pin p hp).1
      rw [z, nI] at q
      cases q
    have S3 := J3.suite he3 hd3 na nL nF
    refine wpAny_handleBy_cons (codeAny_handlers_test ?_) (by intro q; cases q)
    have LT : PySem.W.Looks (model X.prog X.w) h3 (typeOf (.ref a)) cls := fun A Q E s k q => wpAny_typeOf_ref (k _ _ he3) (by rw [hz3.1]; exact q)
    have LM := PySem.W.exm_one (M := model X.prog X.w) (J3.kIn) LT hb1
    have test : ∀ {Q : Value → Shared → Prop} {E : Value → Shared → Prop}, Q c { s' with heap := h3 } → wpAny (model X.prog X.w) (X.A.mark (some (.ref a))) (eval (.Name x np) X.env) Q E { s' with heap := h3 } := fun {Q E} q => by
      obtain ⟨hg, hdbg, hm | ⟨hm, hv, hnn⟩⟩ := hc
      · exact ld_glob (X := X.suite a ((a, oe3) :: (X.pn ++ pins))) S3 hg hm q hdbg
      · exact ld_blt (X := X.suite a ((a, oe3) :: (X.pn ++ pins))) S3 hg hm hv q hnn hdbg
    refine test (LM.here ?_)
    refine codeAny_handlers_suite_as ?_
    refine HandSPX.lands_againZ fl3 fun h4 fl4 up4 => ?_
    have J4 : Inv X pins σ' H' { s' with heap := h4 } := J.landed nb fl4.1 ((up.trans up3).trans up4) os ag
    obtain ⟨oe4, vs4, he4, hz4, hd4⟩ := fl4.there
    have S4 := J4.suite he4 hd4 na nL nF
    refine store_ok (X := X.suite a ((a, oe4) :: (X.pn ++ pins))) (v := .ref a) S4 hN hi hloc rfl (fun s5 S5 => ?_) (.inr hln)
    refine wpAny_mono ((hsu a oe4 cls d (X.pn ++ pins) hz4 ⟨_, hd4⟩).run [] s5 _ H' _ S5 (hyes a na)) (fun f s6 hsp => ?_) (fun _ _ z => False.elim z)
    cases f with
    | next =>
      obtain ⟨σ6, H6, S6, q6⟩ := hsp
      have P6 : Inv X (pins ++ [(a, oe4)]) σ6 H6 s6 := ⟨ok, S6.os, S6.bare, S6.base, S6.loc, S6.cell, S6.free, S6.freeC, fun p hp => S6.pin p (by
        rw [List.append_nil]
        show p ∈ (a, oe4) :: (X.pn ++ pins)
        rcases List.mem_append.mp hp with h1 | h1
        · exact List.mem_cons_of_mem _ (List.mem_append_left _ h1)
        · rcases List.mem_append.mp h1 with h2 | h2
          · exact List.mem_cons_of_mem _ (List.mem_append_right _ h2)
          · rw [List.mem_singleton.mp h2]
            exact List.mem_cons_self), S6.hok, S6.len⟩
      refine gone_ok P6 hN hi hln fun s7 J7 => ?_
      have pa := J7.pin (a, oe4) (List.mem_append_right _ (List.mem_append_right _ (List.mem_singleton.mpr rfl)))
      have K7 : Inv X pins (σ6.set i none) H6 s7 := J7.unpinned
      exact ⟨_, _, inv_track K7 pa.1 hz4 hd4 n0 pa.2.1 nL npin, q6⟩
    | brk =>
      obtain ⟨σ6, H6, S6, q6⟩ := hsp
      exact q6.elim
    | cont =>
      obtain ⟨σ6, H6, S6, q6⟩ := hsp
      exact q6.elim
    | ret u =>
      obtain ⟨v6, σ6, H6, S6, r6, q6⟩ := hsp
      exact q6.elim
  · cases f with
    | next =>
      obtain ⟨σ', H', J', q⟩ := hsp
      exact wpAny_execs_nil ⟨σ', H', J'.ofTry ok, q⟩
    | brk =>
      obtain ⟨σ', H', J', q⟩ := hsp
      exact ⟨σ', H', J'.ofTry ok, q⟩
    | cont =>
      obtain ⟨σ', H', J', q⟩ := hsp
      exact ⟨σ', H', J'.ofTry ok, q⟩
    | ret u =>
      obtain ⟨v, σ', H', J', r, q⟩ := hsp
      exact ⟨v, σ', H', J'.ofTry ok, r, q⟩
end
theorem PS.impL {X : Cx} {e : Stmt} {t t' : TS} (h : PS X e t) (f : ∀ D σ H, σ.length = X.N.length → t' D σ H → t D σ H) : PS X e t' := ⟨fun pins s σ H D I q => h.run pins s σ H D I (f D σ H I.len q)⟩
/-- what is told of a caught error -/
def sTry (i v : Nat) (ex : Nat → Bool) (f : En → Res D) : List Slot → Res Fl := fun S => match f (en S) with
  | .ok _ => .ok (.nx S)
  | .exc e => if (ex e.c && pureDs e.xs) = true then .ok (.nx (setS (setS (setS S i .un) v (.fz (.exc e.c e.xs))) i .un)) else .stuck
  | .stuck => .stuck
section
variable {K : PySem.W.Frag} {Y : Cl} {F H H' : Hp} {S : List Slot} {σ : St}
theorem Sat.setUn (h : Sat K Y F S σ H) (i : Nat) (v : Option V) : Sat K Y F (setS S i .un) (σ.set i v) H := by
  obtain ⟨G, w, fp, s⟩ := h
  refine ⟨G, w, fp, s.fg, s.gh, s.fx, by rw [setS_len, List.length_set]; exact s.len, fun k y hy => ?_⟩
  rcases setS_get hy with ⟨rfl, rfl, hl⟩ | ⟨hk, z, hz, hzy⟩
  · trivial
  · have h := s.ok k z hz
    rcases kill_ne hzy with ⟨e, _⟩ | ⟨e, hn⟩
    · subst e
      trivial
    · subst e
      cases z with
      | un => trivial
      | own d =>
        obtain ⟨u, a, b⟩ := h
        exact ⟨u, by rw [List.getElem?_set_ne (Ne.symm hk)]; exact a, b⟩
      | fz d =>
        obtain ⟨u, a, b⟩ := h
        exact ⟨u, by rw [List.getElem?_set_ne (Ne.symm hk)]; exact a, b⟩
      | ali t j =>
        obtain ⟨ds, p, vs, u, h1, h2, h3, h4, h5, h6⟩ := h
        have ht : t ≠ i := fun q => hn j (by rw [q])
        exact ⟨ds, p, vs, u, setS_ne h1 (fun j q => nomatch q) ht, h2, by rw [List.getElem?_set_ne (Ne.symm ht)]; exact h3, h4, h5, by rw [List.getElem?_set_ne (Ne.symm hk)]; exact h6⟩
/-- an error that lies behind a raise, held at a -/
theorem ExRep.held {e : Err} {cls : Value} {d : Option Addr} {a : Addr} (h : ExRep K Y H e cls d) (ha : H a = none) : Rep K Y (upd H a (ExV cls d a)) (.ref a) (.exc e.c e.xs) := by
  have sm : Same H (upd H a (ExV cls d a)) := fun b o q => by rw [upd_ne (ne_of_none q ha)]; exact q
  obtain ⟨rfl, h⟩ := h
  rcases h with ⟨h1, rfl⟩ | ⟨x, dd, v, h1, rfl, h3, h4⟩
  · rw [h1]
    exact .exc0 upd_same
  · rw [h1]
    exact .exc1 upd_same (sm _ _ h3) (h4.mono sm)
end
section
variable {X : Cx} {Y : Cl} {W : Wh} {M : Md} {i v : Nat} {x n y : Str} {call : Expr} {f : En → Res D} {ex : Nat → Bool} {C : Value} {np p1 p2 p3 pos pos' pe : Pos}
theorem s_try (hs : X.stack = X.env :: X.outer) (hf : X.env.frame = some X.env.locals) (hex : X.ex = []) (hN : X.N.Nodup) (hc : Names X x C) (he : ∀ c, ex c = true → PySem.W.exmOne X.K (.ref (Y.at_ c)) C = some true)
    (hb : ∀ (w : WX) (pn : List (Addr × Obj)) (xe : Value → Shared → Prop), Takes (X.tr pn xe) w → J (X.tr pn xe) Y (some w) .r call f)
    (hi : X.N[i]? = some n := by rfl) (hv : X.N[v]? = some y := by rfl) (hiv : i ≠ v := by decide) (hln : X.env.kindOf n = some .local := by rfl) (hly : X.env.scope.names.lookup y = some .local := by rfl)
    (hMi : M i = true := by rfl) (hMv : M v = true := by rfl) (hsw : ∀ pn xe, swapsWith call none pe.line (X.tr pn xe).env = pure false := by exact fun _ _ => rfl)
    (hd : (n == ("__debug__" : Str)) = false := by decide) (hcd : (n == ("__classdict__" : Str)) = false := by decide)
    (hsv : ∀ a pn, swapsWith (.Name n p2) (some (.Name y p1)) p3.line (X.suite a pn).env = pure false := by exact fun _ _ => rfl) :
    JS X Y W M (.Try [.Expr call pe] [.ExceptHandler (some (.Name x np)) (some n) [.Assign [.Name y p1] (.Name n p2) p3] pos'] [] [] pos) (sTry i v ex f) :=
  PS.impL (ps_try_keep (tb := fun w => tDrop (tJ X.K Y (some w) .r f)) (ts := fun _ _ _ => tAsg (tVar i) (gName v)) hs hf hex hN hi hln hc
    (fun w pn xe tk _ => pss_one (ps_expr (hb w pn xe tk) (hsw pn xe)))
    (fun a oe cls d pn _ _ => pss_one (ps_set (X := X.suite a ((a, oe) :: pn)) hN hv (.inl hly) (pe_var hi (.inl hln) hd hcd) (hsv _ _) (.inr hly)))) fun D σ H hlen ⟨F, S, s, h⟩ => by
    unfold sTry at h
    refine ⟨en S, s.en, ?_⟩
    cases q : f (en S) with
    | stuck => rw [q] at h; exact h
    | ok d =>
      rw [q] at h
      exact fun v H' sh r => h σ H' (s.ext sh) (Stay.refl M σ)
    | exc e =>
      rw [q] at h
      dsimp only at h
      by_cases hp : (ex e.c && pureDs e.xs) = true
      · rw [if_pos hp] at h
        have hp' := Bool.and_eq_true_iff.mp hp
        refine ⟨_, rfl, fun cls d H' sh xr => ⟨?_, fun a ha => ?_⟩⟩
        · obtain ⟨rfl, _⟩ := xr
          exact he e.c hp'.1
        · have hil : i < σ.length := by
            rw [hlen]
            exact (List.getElem?_eq_some_iff.mp hi).1
          refine ⟨.ref a, List.getElem?_set_self hil, ?_⟩
          have sm : Same H' (upd H' a (ExV cls d a)) := fun b o z => by rw [upd_ne (ne_of_none z ha)]; exact z
          refine h _ _ ((((s.ext sh).setUn i _).setPure sm (xr.held ha) ?_).setUn i none) ?_
          · rw [pureD_exc]
            exact hp'.2
          · exact ((Stay.set hMi).trans (Stay.set hMv)).trans (Stay.set hMi)
      · rw [if_neg hp] at h
        exact h.elim
end
end Ow
end
section
set_option linter.all false
set_option maxRecDepth 100000
set_option maxHeartbeats 2000000
/-! Ow6: built-in calls, slices, loops. -/
namespace Ow
open PySem L2 PySem.Spec

section
variable {X : Cx} {Y : Cl} {W : Wh} {k : Kd} {a b : Expr} {fa fb : En → Res D} {pos p : Pos} {x : Str}
/-- a built-in type called with one value -/
theorem j_ct1 {r : List V → Hp → VK → Prop} {o : D → Res D} {id : String} (hc : CallR X (.type id) r) (hr : ∀ H v d Q, Rep X.K Y H v d → (∃ z, o d = .ok z ∧ Po X.K Y k z H Q) → r [v] H Q) (hm : Calm1 o)
    (hg : Gl X x) (hmg : X.mg x = none) (hv : bootBuiltins x = some (.type id)) (ha : J X Y W .r a fa) (hn : x ≠ "__name__" := by decide) (hdb : (x == ("__debug__" : Str)) = false := by decide)
    (hs : starEach (a :: []) X.env = (false, eval a X.env) :: starEach [] X.env := by rfl) (hpl : (backTo pos (starEach [] X.env)).any (·.1) = false := by rfl) : J X Y W k (.Call (.Name x p) [a] [] pos) (x1 o fa) :=
  PE.imp (pe_callTy hc hg hmg hv (pa_cons ha pa_nil hs) hn hdb hs hpl) fun σ H Q ⟨en, he, h⟩ => ⟨en, he, (WPr.bind h).imp (Same.refl H) fun d p => by
    intro v H1 s1 r1
    obtain ⟨z, ez, pz⟩ := WPr.calm (hm d) p
    exact hr H1 v d Q r1 ⟨z, ez, pz.mono s1⟩⟩
/-- .. with two -/
theorem j_cb2 {r : List V → Hp → VK → Prop} {o : D → D → Res D} {id : String} (hc : CallR X (.builtin id) r) (hr : ∀ H v u d e Q, Rep X.K Y H v d → Rep X.K Y H u e → (∃ z, o d e = .ok z ∧ Po X.K Y k z H Q) → r [v, u] H Q) (hm : Calm2 o)
    (hg : Gl X x) (hmg : X.mg x = none) (hv : bootBuiltins x = some (.builtin id)) (ha : J X Y W .r a fa) (hb : J X Y W .r b fb) (hn : x ≠ "__name__" := by decide) (hdb : (x == ("__debug__" : Str)) = false := by decide)
    (hs : starEach (a :: [b]) X.env = (false, eval a X.env) :: starEach [b] X.env := by rfl) (hs2 : starEach (b :: []) X.env = (false, eval b X.env) :: starEach [] X.env := by rfl) (hpl : (backTo pos (starEach [b] X.env)).any (·.1) = false := by rfl) :
    J X Y W k (.Call (.Name x p) [a, b] [] pos) (x2 o fa fb) :=
  PE.imp (pe_callB hc hg hmg hv (pa_cons ha (pa_cons hb pa_nil hs2) hs) hn hdb hs hpl) fun σ H Q ⟨en, he, h⟩ => by
    refine ⟨en, he, (WPr.bind h).imp (Same.refl H) fun d p => ?_⟩
    intro v H1 s1 r1
    refine ⟨en, he.mono s1, (WPr.bind p).imp s1 fun e q => ?_⟩
    intro u H2 s2 r2
    obtain ⟨z, ez, pz⟩ := WPr.calm (hm d e) q
    exact hr H2 v u d e Q (r1.mono s2) r2 ⟨z, ez, pz.mono (s1.trans s2)⟩
def oLen : D → Res D
  | .lst ds => .ok (.int ds.length)
  | .tup ds => .ok (.int ds.length)
  | .scr ns => .ok (.int ns.length)
  | .str z => if szOk z.length = true then .ok (.int z.length) else .stuck
  | _ => .stuck
theorem oLen_calm : Calm1 oLen := fun d x => by
  unfold oLen
  split <;> first | (intro h; cases h; done) | (split <;> (intro h; cases h))
theorem j_len (hg : Gl X "len") (hm : X.mg "len" = none) (ha : J X Y W .r a fa) (hs : starEach (a :: []) X.env = (false, eval a X.env) :: starEach [] X.env := by rfl) (hpl : (backTo pos (starEach [] X.env)).any (·.1) = false := by rfl) : J X Y W k (.Call (.Name "len" p) [a] [] pos) (x1 oLen fa) :=
  j_cb1 call_len (fun H v d Q r ⟨z, hz, po⟩ => by
    unfold oLen at hz
    split at hz
    · cases hz
      cases r with
      | lst h q => exact ⟨_, _, rfl, .inl ⟨_, SqL.of h, rfl⟩, by rw [q.length]; exact po.pure (Same.refl H) .int (pureD_int _)⟩
    · cases hz
      cases r with
      | tup h q => exact ⟨_, _, rfl, .inr ⟨_, h, rfl⟩, by rw [q.length]; exact po.pure (Same.refl H) .int (pureD_int _)⟩
    · cases hz
      cases r with
      | scr h => exact ⟨_, _, rfl, .inl ⟨_, h, rfl⟩, by rw [List.length_map]; exact po.pure (Same.refl H) .int (pureD_int _)⟩
    · split at hz
      · rename_i hs
        cases hz
        cases r with
        | str => exact ⟨_, _, rfl, ⟨szOk_le hs, rfl⟩, po.pure (Same.refl H) .int (pureD_int _)⟩
      · cases hz
    · cases hz) oLen_calm hg hm PySem.boot_len ha (by decide) (by decide) hs hpl
def oAbs : D → Res D
  | .int i => .ok (.int (if i < 0 then -i else i))
  | _ => .stuck
theorem oAbs_calm : Calm1 oAbs := fun d x => by
  unfold oAbs
  split <;> exact fun h => nomatch h
theorem j_abs (hg : Gl X "abs") (hm : X.mg "abs" = none) (ha : J X Y W .r a fa) (hs : starEach (a :: []) X.env = (false, eval a X.env) :: starEach [] X.env := by rfl) (hpl : (backTo pos (starEach [] X.env)).any (·.1) = false := by rfl) : J X Y W k (.Call (.Name "abs" p) [a] [] pos) (x1 oAbs fa) :=
  j_cb1 call_abs (fun H v d Q r ⟨z, hz, po⟩ => by
    unfold oAbs at hz
    split at hz
    · cases hz
      cases r
      exact ⟨_, rfl, po.pure (Same.refl H) .int (pureD_int _)⟩
    · cases hz) oAbs_calm hg hm (by decide +kernel) ha (by decide) (by decide) hs hpl
def oInt : D → Res D
  | .int i => .ok (.int i)
  | .bl c => .ok (.int (if c then 1 else 0))
  | _ => .stuck
theorem oInt_calm : Calm1 oInt := fun d x => by
  unfold oInt
  split <;> exact fun h => nomatch h
theorem j_intc (hg : Gl X "int") (hm : X.mg "int" = none) (ha : J X Y W .r a fa) (hs : starEach (a :: []) X.env = (false, eval a X.env) :: starEach [] X.env := by rfl) (hpl : (backTo pos (starEach [] X.env)).any (·.1) = false := by rfl) : J X Y W k (.Call (.Name "int" p) [a] [] pos) (x1 oInt fa) :=
  j_ct1 call_int1 (fun H v d Q r ⟨z, hz, po⟩ => by
    unfold oInt at hz
    split at hz
    · cases hz
      cases r
      exact .inl ⟨_, rfl, po.pure (Same.refl H) .int (pureD_int _)⟩
    · cases hz
      cases r
      exact .inr ⟨_, rfl, po.pure (Same.refl H) .int (pureD_int _)⟩
    · cases hz) oInt_calm hg hm (by decide +kernel) ha (by decide) (by decide) hs hpl
def oMin : D → D → Res D := oI (fun _ _ => true) (iI fun i j => if j < i then j else i)
def oMax : D → D → Res D := oI (fun _ _ => true) (iI fun i j => if j > i then j else i)
theorem j_min2 (hc : X.calm = true) (hg : Gl X "min") (hm : X.mg "min" = none) (ha : J X Y W .r a fa) (hb : J X Y W .r b fb) (hs : starEach (a :: [b]) X.env = (false, eval a X.env) :: starEach [b] X.env := by rfl) (hs2 : starEach (b :: []) X.env = (false, eval b X.env) :: starEach [] X.env := by rfl) (hpl : (backTo pos (starEach [b] X.env)).any (·.1) = false := by rfl) :
    J X Y W k (.Call (.Name "min" p) [a, b] [] pos) (x2 oMin fa fb) :=
  j_cb2 (call_min2 hc) (fun H v u d e Q r q ⟨z, hz, po⟩ => by
    unfold oMin oI at hz
    split at hz
    · rw [if_pos rfl] at hz
      cases hz
      cases r
      cases q
      exact ⟨_, _, rfl, po.pure (Same.refl H) .int (pureD_int _)⟩
    · cases hz) (oI_calm _ _) hg hm (by decide +kernel) ha hb (by decide) (by decide) hs hs2 hpl
theorem j_max2 (hc : X.calm = true) (hg : Gl X "max") (hm : X.mg "max" = none) (ha : J X Y W .r a fa) (hb : J X Y W .r b fb) (hs : starEach (a :: [b]) X.env = (false, eval a X.env) :: starEach [b] X.env := by rfl) (hs2 : starEach (b :: []) X.env = (false, eval b X.env) :: starEach [] X.env := by rfl) (hpl : (backTo pos (starEach [b] X.env)).any (·.1) = false := by rfl) :
    J X Y W k (.Call (.Name "max" p) [a, b] [] pos) (x2 oMax fa fb) :=
  j_cb2 (call_max2 hc) (fun H v u d e Q r q ⟨z, hz, po⟩ => by
    unfold oMax oI at hz
    split at hz
    · rw [if_pos rfl] at hz
      cases hz
      cases r
      cases q
      exact ⟨_, _, rfl, po.pure (Same.refl H) .int (pureD_int _)⟩
    · cases hz) (oI_calm _ _) hg hm (by decide +kernel) ha hb (by decide) (by decide) hs hs2 hpl

/-! ### list(..), slices, + -/
theorem same_new {H : Hp} {q : Addr} {o : HO} (hq : H q = none) : Same H (upd H q o) := fun b u e => by rw [upd_ne (ne_of_none e hq)]; exact e
/-- a new list of pure items, at q -/
theorem po_new {K : PySem.W.Frag} {H : Hp} {Q : VK} {q : Addr} {vs : List V} {ds : List D} (po : Po K Y k (.lst ds) H Q) (r : Reps K Y H vs ds) (hp : pureDs ds = true) (hq : H q = none) : Q (.ref q) (upd H q (.lst vs)) := by
  cases k with
  | r => exact po _ _ (same_new hq) (.lst upd_same (r.mono (same_new hq)))
  | n => exact po _ _ [q] (same_new hq) (.lst upd_same (.pur (r.mono (same_new hq)) hp)) (by simp) fun p hm => by rw [List.mem_singleton.mp hm]; exact hq
theorem pureDs_ints (ns : List Int) : pureDs (ns.map D.int) = true := by
  rw [pureDs_iff]
  intro d hd
  obtain ⟨n, _, rfl⟩ := List.mem_map.mp hd
  exact pureD_int n
def oList : D → Res D
  | .lst ds => if pureDs ds = true then .ok (.lst ds) else .stuck
  | .tup ds => if pureDs ds = true then .ok (.lst ds) else .stuck
  | .scr ns => .ok (.lst (ns.map .int))
  | _ => .stuck
theorem oList_calm : Calm1 oList := fun d x => by
  unfold oList
  split <;> first | (intro h; cases h; done) | (split <;> (intro h; cases h))
theorem j_list (hg : Gl X "list") (hm : X.mg "list" = none) (ha : J X Y W .r a fa) (hs : starEach (a :: []) X.env = (false, eval a X.env) :: starEach [] X.env := by rfl) (hpl : (backTo pos (starEach [] X.env)).any (·.1) = false := by rfl) : J X Y W k (.Call (.Name "list" p) [a] [] pos) (x1 oList fa) :=
  j_ct1 call_list_of (fun H v d Q r ⟨z, hz, po⟩ => by
    unfold oList at hz
    split at hz
    · split at hz
      · rename_i hp
        cases hz
        cases r with
        | lst h q => exact ⟨_, _, rfl, .inl (SqL.of h), fun l hl => po_new po q hp hl⟩
      · cases hz
    · split at hz
      · rename_i hp
        cases hz
        cases r with
        | tup h q => exact ⟨_, _, rfl, .inr h, fun l hl => po_new po q hp hl⟩
      · cases hz
    · cases hz
      cases r with
      | scr h => exact ⟨_, _, rfl, .inl h, fun l hl => po_new po (.of_ints _) (pureDs_ints _) hl⟩
    · cases hz) oList_calm hg hm (by decide +kernel) ha (by decide) (by decide) hs hpl
def cutG {α : Type} (xs : List α) (lo hi : Option Int) : List α := (xs.drop (HT.sIx xs.length 0 lo)).take (HT.sIx xs.length xs.length hi - HT.sIx xs.length 0 lo)
theorem cutV_eq (xs : List V) (lo hi : Option Int) : cutV xs lo hi = cutG xs lo hi := rfl
theorem Reps.cut {K : PySem.W.Frag} {H : Hp} {vs : List V} {ds : List D} (r : Reps K Y H vs ds) (lo hi : Option Int) : Reps K Y H (cutG vs lo hi) (cutG ds lo hi) := by
  unfold cutG
  rw [r.length]
  exact (r.drop _).take _
theorem cutG_map {α β : Type} (f : α → β) (xs : List α) (lo hi : Option Int) : cutG (xs.map f) lo hi = (cutG xs lo hi).map f := by
  unfold cutG
  rw [List.length_map, ← List.map_drop, ← List.map_take]
theorem pureDs_sub {ds es : List D} (h : pureDs ds = true) (hs : ∀ d ∈ es, d ∈ ds) : pureDs es = true := pureDs_iff.mpr fun d hd => pureDs_iff.mp h d (hs d hd)
theorem cutG_mem {α : Type} {xs : List α} {lo hi : Option Int} {x : α} (h : x ∈ cutG xs lo hi) : x ∈ xs := List.mem_of_mem_drop (List.mem_of_mem_take h)
/-- a part of a slice -/
def pN : En → Res (Option Int) := fun _ => .ok none
def pS (f : En → Res D) : En → Res (Option Int) := fun en => f en >>= fun d => match d with
  | .int i => .ok (some i)
  | _ => .stuck
def tO (K : PySem.W.Frag) (Y : Cl) (W : Wh) (f : En → Res (Option Int)) : TO := fun σ H Q => ∃ en, EnOk K Y H σ en ∧ WPr K Y W σ H (f en) fun o => ∀ H', Same H H' → Q o H'
def O (X : Cx) (Y : Cl) (W : Wh) (e : Option Expr) (f : En → Res (Option Int)) : Prop := PO X e (tO X.K Y W f)
theorem PO.imp {e : Option Expr} {t t' : TO} (h : PO X e t) (f : ∀ σ H Q, t' σ H Q → t σ H Q) : PO X e t' := ⟨fun pins s σ H Q I q => h.run pins s σ H Q I (f σ H Q q)⟩
theorem o_none : O X Y W none pN := PO.imp po_none fun σ H Q ⟨en, he, h⟩ => h H (Same.refl H)
theorem o_some (ha : J X Y W .r a fa) : O X Y W (some a) (pS fa) := PO.imp (po_some ha) fun σ H Q ⟨en, he, h⟩ => ⟨en, he, (WPr.bind h).imp (Same.refl H) fun d p => by
  intro v H' s r
  cases r with
  | int => exact ⟨_, rfl, p H' s⟩
  | _ => exact p.elim⟩
theorem WPr.bindO {K : PySem.W.Frag} {σ : St} {H : Hp} {r : Res (Option Int)} {g : Option Int → Res D} {Q : D → Prop} (h : WPr K Y W σ H (r >>= g) Q) : WPr K Y W σ H r fun a => WPr K Y W σ H (g a) Q := by
  cases r with
  | ok a => exact h
  | exc e => exact h
  | stuck => exact h
def xSl (f : En → Res D) (l h : En → Res (Option Int)) : En → Res D := fun en => f en >>= fun d => l en >>= fun lo => h en >>= fun hi => match d with
  | .lst ds => if pureDs ds = true then .ok (.lst (cutG ds lo hi)) else .stuck
  | .scr ns => .ok (.lst ((cutG ns lo hi).map .int))
  | _ => .stuck
variable {lo hi : Option Expr} {fl fh : En → Res (Option Int)} {p2 : Pos}
theorem j_slice (ha : J X Y W .r a fa) (hl : O X Y W lo fl) (hh : O X Y W hi fh) : J X Y W k (.Subscript a (.Slice lo hi none p2) pos) (xSl fa fl fh) :=
  PE.imp (pe_slice sl_list ha hl hh) fun σ H Q ⟨en, he, h⟩ => by
    refine ⟨en, he, (WPr.bind h).imp (Same.refl H) fun d p => ?_⟩
    intro v H1 s1 r1
    refine ⟨en, he.mono s1, (WPr.bindO p).imp s1 fun l q => ?_⟩
    intro H2 s2
    refine ⟨en, he.mono (s1.trans s2), (WPr.bindO q).imp (s1.trans s2) fun h q2 => ?_⟩
    intro H3 s3
    have r3 := r1.mono (s2.trans s3)
    have s13 := s1.trans (s2.trans s3)
    cases r3 with
    | lst hp r =>
      dsimp only at q2
      split at q2
      · rename_i hpu
        exact ⟨_, _, rfl, SqL.of hp, fun x hx => po_new (Po.mono (show Po X.K Y k _ H Q from q2) s13) (r.cut l h) (pureDs_sub hpu fun d hd => cutG_mem hd) hx⟩
      · exact q2.elim
    | @scr _ ns hp =>
      refine ⟨_, _, rfl, hp, fun x hx => ?_⟩
      have : Reps X.K Y H3 (cutV (List.map V.int ns) l h) ((cutG ns l h).map D.int) := by
        rw [cutV_eq, cutG_map]
        exact .of_ints _
      exact po_new (Po.mono (show Po X.K Y k _ H Q from q2) s13) this (pureDs_ints _) hx
    | _ => exact q2.elim
def oCat : D → D → Res D
  | .lst as, .lst bs => if (pureDs as && pureDs bs && szOk (as.length + bs.length)) = true then .ok (.lst (as ++ bs)) else .stuck
  | _, _ => .stuck
theorem oCat_calm : Calm2 oCat := fun d e x => by
  unfold oCat
  split
  · exact ite_calm
  · exact fun h => nomatch h
theorem j_cat (ha : J X Y W .r a fa) (hb : J X Y W .r b fb) : J X Y W k (.BinOp a .Add b pos) (x2 oCat fa fb) :=
  j_op op_cat (fun H x y d e Q rx ry ⟨z, hz, po⟩ => by
    unfold oCat at hz
    split at hz
    · split at hz
      · rename_i hc
        cases hz
        have hc1 := Bool.and_eq_true_iff.mp hc
        have hc2 := Bool.and_eq_true_iff.mp hc1.1
        cases rx with
        | lst hp r =>
          cases ry with
          | lst hq q =>
            exact ⟨_, _, _, _, rfl, rfl, hp, hq, by rw [r.length, q.length]; exact szOk_le hc1.2, fun x hx => po_new po (r.append q) (by rw [pureDs_append, hc2.1, hc2.2]; rfl) hx⟩
      · cases hz
    · cases hz) oCat_calm ha hb
end

/-! ### isinstance -/
/-- the kinds of data, for isinstance -/
def tyN : D → String
  | .non => "NoneType"
  | .bl _ => "bool"
  | .int _ => "int"
  | .str _ => "str"
  | .tup _ => "tuple"
  | .lst _ => "list"
  | .scr _ => "list"
  | .dI _ => "dict"
  | .dT _ => "dict"
  | .exc _ _ => ""
def isBI (t : String) : D → Res D := fun d => match d with
  | .exc _ _ => .stuck
  | d => match kitB (tyN d) t with
    | some b => .ok (.bl b)
    | none => .stuck
/-- what the head says of an exception class, so that its instances may be asked -/
structure ExCl (K : PySem.W.Frag) (C : Addr) : Prop where
  cl : (PySem.W.clsIn K C).isSome = true
  ga : PySem.W.findIn K (.ref C) "__getattribute__" = some (some (.builtin "BaseException.__getattribute__"))
  gt : PySem.W.findIn K (.ref C) "__getattr__" = some none
  sub : PySem.W.subIn K (.ref C) (.type "BaseException") = some true
  ca : PySem.W.findIn K (.ref C) "__class__" = some (some (.builtin "object.__class__"))
  cn : PySem.W.specialIn K (.builtin "object.__class__") "__get__" = some (some (.builtin "getset_descriptor.__get__"))
  ct : PySem.W.takesIn K (.builtin "object.__class__") = some true
  cm : PySem.W.mroIn K C (.type "object") = some true
section
variable {X : Cx} {Y : Cl} {W : Wh} {k : Kd} {a : Expr} {fa : En → Res D} {pos p p1 : Pos}
theorem rep_ty {K : PySem.W.Frag} {H : Hp} {v : V} {d : D} (r : Rep K Y H v d) (hn : ∀ c xs, d ≠ .exc c xs) : TyX K H v (.type (tyN d)) := by
  cases r with
  | non => exact .base .non
  | bl => exact .base (.bl _)
  | int => exact .base (.int _)
  | str => exact .base (.str _)
  | tup h _ =>
    rcases h with (h | ⟨o, h⟩) | ⟨o, its, n, h1, h2, _⟩
    · exact .base (.tup h)
    · exact .fTuple h
    · exact .kTuple h1 h2
  | lst h _ => exact .base (.lst h)
  | scr h =>
    rcases h with (h | ⟨o, h⟩) | ⟨o, its, n, h1, h2, _⟩
    · exact .base (.lst h)
    · exact .base (.frz h)
    · exact .kList h1 h2
  | dI h _ => exact .base (.dK h)
  | dT h _ => exact .base (.dT h)
  | exc0 _ => exact absurd rfl (hn _ _)
  | exc1 _ _ _ => exact absurd rfl (hn _ _)
theorem isBI_calm (t : String) : Calm1 (isBI t) := fun d x => by
  unfold isBI
  split
  · exact fun h => nomatch h
  · split <;> exact fun h => nomatch h
/-- isinstance(x, int) and its like -/
theorem j_isB {n : Str} {t : String} (hg : Gl X "isinstance") (hm : X.mg "isinstance" = none) (hg2 : Gl X n) (hm2 : X.mg n = none) (hv : bootBuiltins n = some (.type t)) (ha : J X Y W .r a fa) (hn : n ≠ "__name__" := by decide) (hdb : (n == ("__debug__" : Str)) = false := by decide)
    (hs : starEach (a :: [.Name n p1]) X.env = (false, eval a X.env) :: starEach [.Name n p1] X.env := by rfl) (hs2 : starEach (.Name n p1 :: []) X.env = (false, eval (.Name n p1) X.env) :: starEach [] X.env := by rfl) (hpl : (backTo pos (starEach [.Name n p1] X.env)).any (·.1) = false := by rfl) :
    J X Y W k (.Call (.Name "isinstance" p) [a, .Name n p1] [] pos) (x1 (isBI t) fa) :=
  PE.imp (pe_callB call_isi hg hm (by decide +kernel) (pa_cons ha (pa_cons (pe_bltn (v := .ty t) hg2 hm2 hv rfl hn hdb) pa_nil hs2) hs) (by decide) (by decide) hs hpl) fun σ H Q ⟨en, he, h⟩ => ⟨en, he, (WPr.bind h).imp (Same.refl H) fun d p => by
    intro v H1 s1 r1
    obtain ⟨z, ez, pz⟩ := WPr.calm (isBI_calm t d) p
    have hne : ∀ c xs, d ≠ .exc c xs := fun c xs e => by
      subst e
      cases ez
    have hk : ∃ b, kitB (tyN d) t = some b ∧ z = .bl b := by
      unfold isBI at ez
      split at ez
      · cases ez
      · split at ez
        · rename_i b hb
          cases ez
          exact ⟨b, hb, rfl⟩
        · cases ez
    obtain ⟨b, hb, rfl⟩ := hk
    exact ⟨v, .ty t, _, _, b, rfl, .ty t, rep_ty r1 hne, kit_ty hb, pz.pure s1 .bl (pureD_bl b)⟩⟩
/-- whether an error of class c is one of class c' (0: any) -/
def isC (c' : Nat) (c : Nat) : Bool := c == c' || c' == 0
/-- what the head says of the classes that may be met (ok) and asked for -/
structure ExAsk (K : PySem.W.Frag) (Y : Cl) (ok : Nat → Bool) (c' : Nat) : Prop where
  non : PySem.W.kitOne K (.type "NoneType") (.ref (Y.at_ c')) = some false
  exc : ∀ c, ok c = true → PySem.W.kitOne K (.ref (Y.at_ c)) (.ref (Y.at_ c')) = some (isC c' c)
def isCl (ok : Nat → Bool) (cs : List Nat) : D → Res D
  | .non => .ok (.bl false)
  | .exc c _ => if ok c = true then .ok (.bl (cs.any fun c' => isC c' c)) else .stuck
  | _ => .stuck
theorem isCl_calm (ok : Nat → Bool) (cs : List Nat) : Calm1 (isCl ok cs) := fun d x => by
  unfold isCl
  split
  · exact fun h => nomatch h
  · exact ite_calm
  · exact fun h => nomatch h
/-- isinstance of an exception object, by values -/
theorem exv_kit {pins : List (Addr × Obj)} {σ : St} {H : Hp} {s : Shared} {a C : Addr} {d : Option Addr} (I : Inv X pins σ H s) (E : ExCl X.K C) (h : H a = some (ExV (.ref C) d a)) (hd : ∀ dd, d = some dd → ∃ o, s.heap.get? dd = some o) :
    ∃ P : Heap → Prop, PySem.W.KitX X.K (.ref a) (.ref C) P ∧ P s.heap := by
  obtain ⟨⟨oe, vs, ho, ⟨hc, hdd⟩, hdat⟩, _, _⟩ := I.hok a _ h
  obtain ⟨oc, od, dt, sl⟩ := oe
  dsimp only at hc hdd hdat
  subst hc hdd hdat
  cases od with
  | none => exact ⟨_, PySem.W.kitx_exc E.cl E.ga E.gt E.sub E.ca E.cn E.ct E.cm (od := none), ⟨ho, rfl, rfl, trivial⟩⟩
  | some dd =>
    obtain ⟨o, hq⟩ := hd dd rfl
    exact ⟨_, PySem.W.kitx_exc E.cl E.ga E.gt E.sub E.ca E.cn E.ct E.cm (od := some o), ⟨ho, rfl, rfl, hq⟩⟩
theorem rep_kit {pins : List (Addr × Obj)} {σ : St} {H : Hp} {s : Shared} {v : V} {u : Value} {c : Nat} {xs : List D} (I : Inv X pins σ H s) (E : ExCl X.K (Y.at_ c)) (r : Rep X.K Y H v (.exc c xs)) (rv : RelV v u) : ∃ P : Heap → Prop, PySem.W.KitX X.K u (.ref (Y.at_ c)) P ∧ P s.heap ∧ u ≠ .builtin "__main__.__loader__#opaque" := by
  cases r with
  | exc0 h =>
    obtain rfl : u = .ref _ := rv
    obtain ⟨P, h1, h2⟩ := exv_kit I E h (fun dd e => nomatch e)
    exact ⟨P, h1, h2, fun z => nomatch z⟩
  | exc1 h h' _ =>
    obtain rfl : u = .ref _ := rv
    obtain ⟨P, h1, h2⟩ := exv_kit I E h (fun dd e => by
      cases e
      obtain ⟨mA, ⟨o, _, _, ho, _⟩, _⟩ := I.hok _ _ h'
      exact ⟨o, ho⟩)
    exact ⟨P, h1, h2, fun z => nomatch z⟩
/-- isinstance(x, c) where x may be an error: one class of the program -/
def rIsX (K : PySem.W.Frag) (Y : Cl) (ok : Nat → Bool) (c' : Nat) : List V → Hp → VK → Prop := fun xs H Q => ∃ (x : V) (d : D) (b : Bool), xs = [x, .ref (Y.at_ c')] ∧ Rep K Y H x d ∧ isCl ok [c'] d = .ok (.bl b) ∧ Q (.bl b) H
theorem call_isX {ok : Nat → Bool} {c' : Nat} (hE : ∀ c, ok c = true → ExCl X.K (Y.at_ c)) (hA : ExAsk X.K Y ok c') : CallR X (.builtin "isinstance") (rIsX X.K Y ok c') := by
  intro pins s σ H xs us Q I r h
  obtain ⟨x, d, b, rfl, rx, hb, q⟩ := h
  obtain ⟨u1, u2, rfl, r1, r2⟩ := vals2 r
  obtain rfl : u2 = .ref (Y.at_ c') := r2
  cases d with
  | non =>
    cases hb
    obtain ⟨P, Z, p, hx⟩ := kit_of I r1 (rep_ty rx fun _ _ e => nomatch e)
    exact PySem.W.kia_one Z I.kIn p hA.non hx fun tk => ⟨.bl false, H, I.tok tk, rfl, q⟩
  | exc c ys =>
    have hb' : (if ok c = true then Res.ok (D.bl ([c'].any fun c' => isC c' c)) else Res.stuck) = Res.ok (D.bl b) := hb
    by_cases hc : ok c = true
    · rw [if_pos hc] at hb'
      cases hb'
      obtain ⟨P, Z, p, hx⟩ := rep_kit I (hE c hc) rx r1
      have e : ([c'].any fun c' => isC c' c) = isC c' c := by simp
      rw [e] at q
      exact PySem.W.kia_one Z I.kIn p (hA.exc c hc) hx fun tk => ⟨.bl _, H, I.tok tk, rfl, q⟩
    · rw [if_neg hc] at hb'
      cases hb'
  | _ => cases hb
theorem isCl_bl {ok : Nat → Bool} {cs : List Nat} {d z : D} (h : isCl ok cs d = .ok z) : ∃ b, z = .bl b := by
  unfold isCl at h
  split at h
  · cases h; exact ⟨_, rfl⟩
  · split at h
    · cases h; exact ⟨_, rfl⟩
    · cases h
  · cases h
theorem j_isX {ok : Nat → Bool} {c' : Nat} {n : Str} (hE : ∀ c, ok c = true → ExCl X.K (Y.at_ c)) (hA : ExAsk X.K Y ok c') (hg : Gl X "isinstance") (hm : X.mg "isinstance" = none) (hg2 : Gl X n) (hm2 : X.mg n = some (.ref (Y.at_ c'))) (ha : J X Y W .r a fa) (hdb : (n == ("__debug__" : Str)) = false := by decide)
    (hs : starEach (a :: [.Name n p1]) X.env = (false, eval a X.env) :: starEach [.Name n p1] X.env := by rfl) (hs2 : starEach (.Name n p1 :: []) X.env = (false, eval (.Name n p1) X.env) :: starEach [] X.env := by rfl) (hpl : (backTo pos (starEach [.Name n p1] X.env)).any (·.1) = false := by rfl) :
    J X Y W k (.Call (.Name "isinstance" p) [a, .Name n p1] [] pos) (x1 (isCl ok [c']) fa) :=
  PE.imp (pe_callB (call_isX hE hA) hg hm (by decide +kernel) (pa_cons ha (pa_cons (pe_glob (v := .ref (Y.at_ c')) hg2 hm2 rfl hdb) pa_nil hs2) hs) (by decide) (by decide) hs hpl) fun σ H Q ⟨en, he, h⟩ => ⟨en, he, (WPr.bind h).imp (Same.refl H) fun d p => by
    intro v H1 s1 r1
    obtain ⟨z, ez, pz⟩ := WPr.calm (isCl_calm ok [c'] d) p
    obtain ⟨b, rfl⟩ := isCl_bl ez
    exact ⟨v, d, b, rfl, r1, ez, pz.pure s1 .bl (pureD_bl b)⟩⟩
/-- .. several classes, written as a tuple -/
def rIsT (K : PySem.W.Frag) (Y : Cl) (ok : Nat → Bool) (cs : List Nat) : List V → Hp → VK → Prop := fun xs H Q => ∃ (x : V) (tp : Addr) (d : D) (b : Bool), xs = [x, .ref tp] ∧ H tp = some (.tup (cs.map fun c => .ref (Y.at_ c))) ∧ Rep K Y H x d ∧ isCl ok cs d = .ok (.bl b) ∧ Q (.bl b) H
theorem kitAny_non {K : PySem.W.Frag} {ok : Nat → Bool} : ∀ {cs : List Nat}, (∀ c ∈ cs, ExAsk K Y ok c) → PySem.W.kitAny K (.type "NoneType") (cs.map fun c => .ref (Y.at_ c)) = some false
  | [], _ => rfl
  | c :: cs, h => kitAny_cons (h c List.mem_cons_self).non (fun _ => kitAny_non fun c hc => h c (List.mem_cons_of_mem _ hc)) (fun z => nomatch z)
theorem kitAny_exc {K : PySem.W.Frag} {ok : Nat → Bool} {c : Nat} (hc : ok c = true) : ∀ {cs : List Nat}, (∀ c ∈ cs, ExAsk K Y ok c) → PySem.W.kitAny K (.ref (Y.at_ c)) (cs.map fun c => .ref (Y.at_ c)) = some (cs.any fun c' => isC c' c)
  | [], _ => rfl
  | c' :: cs, h => by
    have ih := kitAny_exc hc fun c hc => h c (List.mem_cons_of_mem c' hc)
    refine kitAny_cons ((h c' List.mem_cons_self).exc c hc) (fun e => ?_) (fun e => ?_)
    · rw [List.any_cons, e, ih]; rfl
    · rw [List.any_cons, e]; rfl
theorem vals_refs {cs : List Nat} : ∀ {us : List Value}, Vals (cs.map fun c => V.ref (Y.at_ c)) us → us = cs.map fun c => .ref (Y.at_ c) := by
  induction cs with
  | nil => intro us r; cases r; rfl
  | cons c cs ih =>
    intro us r
    cases r with
    | cons r1 r2 =>
      obtain rfl : _ = Value.ref _ := r1
      rw [ih r2]
      rfl
theorem call_isT {ok : Nat → Bool} {cs : List Nat} (hE : ∀ c, ok c = true → ExCl X.K (Y.at_ c)) (hA : ∀ c ∈ cs, ExAsk X.K Y ok c) : CallR X (.builtin "isinstance") (rIsT X.K Y ok cs) := by
  intro pins s σ H xs us Q I r h
  obtain ⟨x, tp, d, b, rfl, hT, rx, hb, q⟩ := h
  obtain ⟨u1, u2, rfl, r1, r2⟩ := vals2 r
  obtain rfl : u2 = .ref tp := r2
  obtain ⟨_, its, rv, o, h1, h2, n, h3⟩ := (show ObjOk X.prog X.w H s.heap tp (.tup _) from I.hok tp _ hT)
  have e3 := vals_refs rv
  subst e3
  obtain ⟨oc, od, dt, sl⟩ := o
  simp only at h2 h3
  subst h2 h3
  cases d with
  | non =>
    cases hb
    obtain ⟨P, Z, p, hx⟩ := kit_of I r1 (rep_ty rx fun _ _ e => nomatch e)
    exact PySem.W.kia_tup Z I.kIn p h1 (kitAny_non hA) hx fun tk => ⟨.bl false, H, I.tok tk, rfl, q⟩
  | exc c ys =>
    have hb' : (if ok c = true then Res.ok (D.bl (cs.any fun c' => isC c' c)) else Res.stuck) = Res.ok (D.bl b) := hb
    by_cases hc : ok c = true
    · rw [if_pos hc] at hb'
      cases hb'
      obtain ⟨P, Z, p, hx⟩ := rep_kit I (hE c hc) rx r1
      exact PySem.W.kia_tup Z I.kIn p h1 (kitAny_exc hc hA) hx fun tk => ⟨.bl _, H, I.tok tk, rfl, q⟩
    · rw [if_neg hc] at hb'
      cases hb'
  | _ => cases hb
/-- the classes of the tuple, as arguments -/
def PCs (X : Cx) (Y : Cl) (es : List Expr) (cs : List Nat) : Prop := ∃ t : TA, PA X es t ∧ ∀ σ H Q, Q (cs.map fun c => V.ref (Y.at_ c)) H → t σ H Q
theorem cs_nil : PCs X Y [] [] := ⟨_, pa_nil, fun σ H Q q => q⟩
theorem cs_cons {n : Str} {c : Nat} {es : List Expr} {cs : List Nat} (hm : X.mg n = some (.ref (Y.at_ c))) (h : PCs X Y es cs) (hg : Gl X n := by rfl) (hdb : (n == ("__debug__" : Str)) = false := by decide)
    (hs : starEach (.Name n p1 :: es) X.env = (false, eval (.Name n p1) X.env) :: starEach es X.env := by rfl) : PCs X Y (.Name n p1 :: es) (c :: cs) := by
  obtain ⟨t, h1, h2⟩ := h
  exact ⟨_, pa_cons (pe_glob (v := .ref (Y.at_ c)) hg hm rfl hdb) h1 hs, fun σ H Q q => h2 σ H _ q⟩
theorem j_isT {ok : Nat → Bool} {cs : List Nat} {es : List Expr} {k1 : Nat} {pt : Pos} (hE : ∀ c, ok c = true → ExCl X.K (Y.at_ c)) (hA : ∀ c ∈ cs, ExAsk X.K Y ok c) (hg : Gl X "isinstance") (hm : X.mg "isinstance" = none) (ha : J X Y W .r a fa) (hc : PCs X Y es cs) (hz : cs.length ≤ 1000 := by decide)
    (hs : starEach (a :: [.Tuple es k1 pt]) X.env = (false, eval a X.env) :: starEach [.Tuple es k1 pt] X.env := by rfl) (hs2 : starEach (.Tuple es k1 pt :: []) X.env = (false, eval (.Tuple es k1 pt) X.env) :: starEach [] X.env := by rfl) (hpl : (backTo pos (starEach [.Tuple es k1 pt] X.env)).any (·.1) = false := by rfl) :
    J X Y W k (.Call (.Name "isinstance" p) [a, .Tuple es k1 pt] [] pos) (x1 (isCl ok cs) fa) := by
  obtain ⟨t, h1, h2⟩ := hc
  exact PE.imp (pe_callB (call_isT hE hA) hg hm (by decide +kernel) (pa_cons ha (pa_cons (pe_tup h1) pa_nil hs2) hs) (by decide) (by decide) hs hpl) fun σ H Q ⟨en, he, h⟩ => ⟨en, he, (WPr.bind h).imp (Same.refl H) fun d p => by
    intro v H1 s1 r1
    refine h2 σ H1 _ ?_
    refine ⟨by rw [List.length_map]; exact Nat.le_of_lt (small1000 hz), fun tp htp => ?_⟩
    obtain ⟨z, ez, pz⟩ := WPr.calm (isCl_calm ok cs d) p
    obtain ⟨b, rfl⟩ := isCl_bl ez
    exact ⟨v, tp, d, b, rfl, upd_same, r1.mono (same_new htp), ez, pz.pure (s1.trans (same_new htp)) .bl (pureD_bl b)⟩⟩
/-- isinstance(x, ValueError), x an error or None -/
structure ExVe (K : PySem.W.Frag) (Y : Cl) (ok : Nat → Bool) : Prop where
  non : PySem.W.kitOne K (.type "NoneType") (.type "ValueError") = some false
  exc : ∀ c, ok c = true → PySem.W.kitOne K (.ref (Y.at_ c)) (.type "ValueError") = some true
def isVe (ok : Nat → Bool) : D → Res D
  | .non => .ok (.bl false)
  | .exc c _ => if ok c = true then .ok (.bl true) else .stuck
  | _ => .stuck
theorem isVe_calm (ok : Nat → Bool) : Calm1 (isVe ok) := fun d x => by
  unfold isVe
  split
  · exact fun h => nomatch h
  · exact ite_calm
  · exact fun h => nomatch h
def rIsV (K : PySem.W.Frag) (Y : Cl) (ok : Nat → Bool) : List V → Hp → VK → Prop := fun xs H Q => ∃ (x : V) (d : D) (b : Bool), xs = [x, .ty "ValueError"] ∧ Rep K Y H x d ∧ isVe ok d = .ok (.bl b) ∧ Q (.bl b) H
theorem call_isV {ok : Nat → Bool} (hE : ∀ c, ok c = true → ExCl X.K (Y.at_ c)) (hA : ExVe X.K Y ok) : CallR X (.builtin "isinstance") (rIsV X.K Y ok) := by
  intro pins s σ H xs us Q I r h
  obtain ⟨x, d, b, rfl, rx, hb, q⟩ := h
  obtain ⟨u1, u2, rfl, r1, r2⟩ := vals2 r
  obtain rfl : u2 = .type "ValueError" := r2
  cases d with
  | non =>
    cases hb
    obtain ⟨P, Z, p, hx⟩ := kit_of I r1 (rep_ty rx fun _ _ e => nomatch e)
    exact PySem.W.kia_one Z I.kIn p hA.non hx fun tk => ⟨.bl false, H, I.tok tk, rfl, q⟩
  | exc c ys =>
    have hb' : (if ok c = true then Res.ok (D.bl true) else Res.stuck) = Res.ok (D.bl b) := hb
    by_cases hc : ok c = true
    · rw [if_pos hc] at hb'
      cases hb'
      obtain ⟨P, Z, p, hx⟩ := rep_kit I (hE c hc) rx r1
      exact PySem.W.kia_one Z I.kIn p (hA.exc c hc) hx fun tk => ⟨.bl true, H, I.tok tk, rfl, q⟩
    · rw [if_neg hc] at hb'
      cases hb'
  | _ => cases hb
theorem isVe_bl {ok : Nat → Bool} {d z : D} (h : isVe ok d = .ok z) : ∃ b, z = .bl b := by
  unfold isVe at h
  split at h
  · cases h; exact ⟨_, rfl⟩
  · split at h
    · cases h; exact ⟨_, rfl⟩
    · cases h
  · cases h
theorem j_isV {ok : Nat → Bool} (hE : ∀ c, ok c = true → ExCl X.K (Y.at_ c)) (hA : ExVe X.K Y ok) (hg : Gl X "isinstance") (hm : X.mg "isinstance" = none) (hg2 : Gl X "ValueError") (hm2 : X.mg "ValueError" = none) (ha : J X Y W .r a fa)
    (hs : starEach (a :: [.Name "ValueError" p1]) X.env = (false, eval a X.env) :: starEach [.Name "ValueError" p1] X.env := by rfl) (hs2 : starEach (.Name "ValueError" p1 :: []) X.env = (false, eval (.Name "ValueError" p1) X.env) :: starEach [] X.env := by rfl) (hpl : (backTo pos (starEach [.Name "ValueError" p1] X.env)).any (·.1) = false := by rfl) :
    J X Y W k (.Call (.Name "isinstance" p) [a, .Name "ValueError" p1] [] pos) (x1 (isVe ok) fa) :=
  PE.imp (pe_callB (call_isV hE hA) hg hm (by decide +kernel) (pa_cons ha (pa_cons (pe_bltn (v := .ty "ValueError") hg2 hm2 (by decide +kernel) rfl) pa_nil hs2) hs) (by decide) (by decide) hs hpl) fun σ H Q ⟨en, he, h⟩ => ⟨en, he, (WPr.bind h).imp (Same.refl H) fun d p => by
    intro v H1 s1 r1
    obtain ⟨z, ez, pz⟩ := WPr.calm (isVe_calm ok d) p
    obtain ⟨b, rfl⟩ := isVe_bl ez
    exact ⟨v, d, b, rfl, r1, ez, pz.pure s1 .bl (pureD_bl b)⟩⟩
end
end Ow
end
section
set_option linter.all false
set_option maxRecDepth 100000
set_option maxHeartbeats 2000000
/-! Ow7: for loops over new lists, shared lists, ranges. -/
namespace Ow
open PySem L2 PySem.Spec

/-- a loop over items: b behind the binding of each -/
def forS {α : Type} (bind : α → List Slot → Res (List Slot)) (b : List Slot → Res Fl) : List α → List Slot → Res Fl
  | [], S => .ok (.nx S)
  | d :: ds, S => bind d S >>= fun S1 => b S1 >>= fun r => match r with
    | .nx S' => forS bind b ds S'
    | .ct S' => forS bind b ds S'
    | .bk S' => .ok (.nx S')
    | .rt d => .ok (.rt d)
def bindF (i : Nat) (d : D) (S : List Slot) : Res (List Slot) := .ok (setS S i (.fz d))
def intsUpTo (lo : Int) (n : Nat) : List D := (List.range n).map fun k => .int (lo + (k : Nat))

section
variable {K : PySem.W.Frag} {Y : Cl} {F H H' : Hp} {S : List Slot} {σ : St}
/-- a new thing is shared from now on -/
theorem Sat.freeze (h : Sat K Y F S σ H) (sh : Same H H') {v : V} {d : D} {f : List Addr} (o : Own K Y H' v d f) (fr : ∀ p ∈ f, H p = none) : ∃ F', Same F F' ∧ Same F' H' ∧ Sat K Y F' S σ H' ∧ Rep K Y F' v d := by
  obtain ⟨G, w, fp, s⟩ := h
  have gh' : Same G H' := s.gh.trans sh
  let G' : Hp := fun p => if p ∈ f then H' p else grow G H' p
  have sg : Same (grow G H') G' := fun p u e => by
    show (if p ∈ f then H' p else grow G H' p) = some u
    by_cases hp : p ∈ f
    · rw [if_pos hp]; exact grow_to gh' p u e
    · rw [if_neg hp]; exact e
  have gh2 : Same G' H' := fun p u e => by
    have e' : (if p ∈ f then H' p else grow G H' p) = some u := e
    by_cases hp : p ∈ f
    · rw [if_pos hp] at e'; exact e'
    · rw [if_neg hp] at e'; exact grow_to gh' p u e'
  have keepR : ∀ {v : V} {d : D} {f' : List Addr}, Own K Y H' v d f' → (∀ p ∈ f', p ∈ f) → Own K Y G' v d f' := by
    have fx : Fix H' G' := fun p u e hf => sg p u (grow_fix gh' e hf)
    intro v d f' o' hs
    exact o'.frame fx fun p hp => if_pos (hs p hp)
  refine ⟨G', s.fg.trans (grow_same.trans sg), gh2, ⟨G', w, fp, Same.refl G', gh2, fun p u e hf => sg p u (grow_fix gh' e hf), s.len, fun k y hy => ?_⟩, (keepR o fun p hp => hp).rep⟩
  have h := s.ok k y hy
  cases y with
  | un => trivial
  | own d =>
    obtain ⟨u, a, b, c, q⟩ := h
    refine ⟨u, a, b.mono sh, c, fun p hp => ⟨(q p hp).1, ?_⟩⟩
    obtain ⟨o', ho, hx⟩ := b.there p hp
    have nf : p ∉ f := fun hm => by
      rw [fr p hm] at ho
      cases ho
    show (if p ∈ f then H' p else grow G H' p) = none
    rw [if_neg nf]
    refine grow_none (q p hp).2 fun u' e => ?_
    rw [sh p o' ho] at e
    cases e
    exact hx
  | fz d =>
    obtain ⟨u, a, b⟩ := h
    exact ⟨u, a, b.mono (grow_same.trans sg)⟩
  | ali t j =>
    obtain ⟨ds, p, vs, u, h1, h2, h3, h4, h5, h6⟩ := h
    exact ⟨ds, p, vs, u, h1, h2, h3, sh _ _ h4, h5, h6⟩
theorem WPs.shallow {W : Wh} {M : Md} {D' : Ends} {σ0 : St} {r : Res Fl} {F' : Hp} (h : WPs K Y W M F D' σ0 r) (f : Same F F') : WPs K Y W M F' D' σ0 r := by
  cases r with
  | stuck => exact h
  | exc e =>
    obtain ⟨w, a, b⟩ := h
    exact ⟨w, a, fun cls d σ' H' s x => b cls d σ' H' (f.trans s) x⟩
  | ok r =>
    cases r with
    | nx S' => exact fun σ' H' s st => h σ' H' (s.shallow f) st
    | bk S' => exact fun σ' H' s st => h σ' H' (s.shallow f) st
    | ct S' => exact fun σ' H' s st => h σ' H' (s.shallow f) st
    | rt d => exact fun v H' ⟨s, fp, o, nd, fr⟩ => h v H' ⟨f.trans s, fp, o, nd, fun p hp => f.free (fr p hp)⟩
/-- the walk over items that stand in the frame -/
theorem for_run {W : Wh} {M : Md} {D' : Ends} {J : It} {b : List Slot → Res Fl} {i : Nat} {L : List D} (hM : M i = true) (hgo : ∀ (k : Nat) (H' : Hp), Same F H' → k < L.length → J.go k H' ∧ ∀ x H'', J.yld k H' x H'' → H'' = H' ∧ ∃ d, L[k]? = some d ∧ Rep K Y F x d)
    (hst : ∀ (k : Nat) (H' : Hp), Same F H' → L.length ≤ k → J.stop k H') (s : Sat K Y F S σ H) (h : WPs K Y W M F D' σ (forS (bindF i) b L S)) :
    ∃ W' : Nat → Nat → St → Hp → Prop, (∃ m, W' 0 m σ H) ∧ ∀ k m σ1 H1, W' k m σ1 H1 → (J.stop k H1 ∧ D'.nx σ1 H1) ∨ (J.go k H1 ∧ ∃ N : St → Hp → Prop, (∀ σ' H', N σ' H' → ∃ m', m' < m ∧ W' (k + 1) m' σ' H') ∧
      ∀ x H', J.yld k H1 x H' → gName i x σ1 H' fun σ2 H2 => tS K Y W M b { D' with nx := N, ct := N, bk := D'.nx } σ2 H2) := by
  refine ⟨fun k m σ1 H1 => m = L.length - k ∧ k ≤ L.length ∧ ∃ S1, Sat K Y F S1 σ1 H1 ∧ Stay M σ σ1 ∧ WPs K Y W M F D' σ (forS (bindF i) b (L.drop k) S1), ⟨_, rfl, Nat.zero_le _, S, s, Stay.refl M σ, h⟩, ?_⟩
  rintro k m σ1 H1 ⟨rfl, hk, S1, s1, y1, p⟩
  by_cases hlt : k < L.length
  · obtain ⟨g1, g2⟩ := hgo k H1 s1.same hlt
    refine .inr ⟨g1, fun σ' H' => ∃ S', Sat K Y F S' σ' H' ∧ Stay M σ σ' ∧ WPs K Y W M F D' σ (forS (bindF i) b (L.drop (k + 1)) S'), fun σ' H' ⟨S', a1, a2, a3⟩ => ⟨_, by omega, rfl, hlt, S', a1, a2, a3⟩, fun x H' hy => ?_⟩
    obtain ⟨rfl, d, hd, rx⟩ := g2 x H' hy
    have ed : L.drop k = d :: L.drop (k + 1) := by
      rw [List.drop_eq_getElem_cons hlt]
      congr 1
      rw [List.getElem?_eq_getElem hlt] at hd
      exact Option.some.inj hd
    rw [ed] at p
    have p' : WPs K Y W M F D' σ (b (setS S1 i (.fz d)) >>= fun r => match r with
      | .nx S' => forS (bindF i) b (L.drop (k + 1)) S'
      | .ct S' => forS (bindF i) b (L.drop (k + 1)) S'
      | .bk S' => .ok (.nx S')
      | .rt d => .ok (.rt d)) := p
    refine ⟨F, setS S1 i (.fz d), s1.setFz rx, ?_⟩
    have y2 : Stay M σ (σ1.set i (some x)) := y1.trans (Stay.set hM)
    cases q : b (setS S1 i (.fz d)) with
    | stuck => rw [q] at p'; exact p'
    | exc e => rw [q] at p'; exact p'
    | ok r =>
      rw [q] at p'
      cases r with
      | rt d => exact p'
      | nx S' => exact fun σ' H' s' st => ⟨S', s', y2.trans st, p'⟩
      | ct S' => exact fun σ' H' s' st => ⟨S', s', y2.trans st, p'⟩
      | bk S' => exact fun σ' H' s' st => p' σ' H' s' (y2.trans st)
  · have ed : L.drop k = [] := List.drop_of_length_le (by omega)
    rw [ed] at p
    exact .inl ⟨hst k H1 s1.same (by omega), p σ1 H1 s1 y1⟩
end

/-- for x in a new list -/
def sForN (i : Nat) (f : En → Res D) (b : List Slot → Res Fl) : List Slot → Res Fl := fun S => f (en S) >>= fun d => match d with
  | .lst ds => forS (bindF i) b ds S
  | _ => .stuck
def sForR1 (i : Nat) (f : En → Res D) (b : List Slot → Res Fl) : List Slot → Res Fl := fun S => f (en S) >>= fun d => match d with
  | .int n => if (decide (-4611686018427387904 ≤ n) && decide (n < 4611686018427387904)) = true then forS (bindF i) b (intsUpTo 0 n.toNat) S else .stuck
  | _ => .stuck
def rgOk (n : Int) : Bool := decide (-4611686018427387904 ≤ n) && decide (n < 4611686018427387904)
theorem rgOk_iff {n : Int} (h : rgOk n = true) : -(2 ^ 62) ≤ n ∧ n < 2 ^ 62 := by
  have h' := Bool.and_eq_true_iff.mp h
  exact ⟨by have := of_decide_eq_true h'.1; omega, by have := of_decide_eq_true h'.2; omega⟩
def sForR2 (i : Nat) (f g : En → Res D) (b : List Slot → Res Fl) : List Slot → Res Fl := fun S => f (en S) >>= fun d => g (en S) >>= fun e => match d, e with
  | .int lo, .int hi => if (rgOk lo && rgOk hi) = true then forS (bindF i) b (intsUpTo lo (hi - lo).toNat) S else .stuck
  | _, _ => .stuck
/-- for x in v, the name v's slot shared -/
def sForV (i v : Nat) (b : List Slot → Res Fl) : List Slot → Res Fl := fun S => match S[v]? with
  | some (.fz (.lst ds)) => forS (bindF i) b ds S
  | some (.fz (.scr ns)) => forS (bindF i) b (ns.map .int) S
  | _ => .stuck
/-- for x in v[e], v's slot shared -/
def sForP (i v : Nat) (f : En → Res D) (b : List Slot → Res Fl) : List Slot → Res Fl := fun S => match S[v]? with
  | some (.fz (.lst ds)) => f (en S) >>= fun e => match e with
    | .int j => match atI ds j with
      | some (.lst es) => forS (bindF i) b es S
      | _ => .stuck
    | _ => .stuck
  | _ => .stuck

section
variable {X : Cx} {Y : Cl} {W : Wh} {M : Md} {i : Nat} {x : Str} {px pos p : Pos} {e a : Expr} {body : List Stmt} {f fa : En → Res D} {b : List Slot → Res Fl}
theorem pg_fr (hN : X.N.Nodup) (hi : X.N[i]? = some x) (hx : Loc X.env.scope x) (hf : X.fn x = true ∨ X.env.scope.names.lookup x = some .local) : PG X (.Name x px) (gName i) := pg_name hN hi hx hf
theorem itl_run {F : Hp} {p : Addr} {vs : List V} {L : List D} (hs : SqL X.K F p vs) (r : Reps X.K Y F vs L) : (∀ (k : Nat) (H' : Hp), Same F H' → k < L.length → (Itl X.K p).go k H' ∧ ∀ x H'', (Itl X.K p).yld k H' x H'' → H'' = H' ∧ ∃ d, L[k]? = some d ∧ Rep X.K Y F x d) ∧
    (∀ (k : Nat) (H' : Hp), Same F H' → L.length ≤ k → (Itl X.K p).stop k H') := by
  refine ⟨fun k H' s hk => ?_, fun k H' s hk => ⟨vs, s.seq hs, by rw [r.length]; exact hk⟩⟩
  have hd : L[k]? = some L[k] := List.getElem?_eq_getElem hk
  obtain ⟨v, hv, rv⟩ := r.get hd
  refine ⟨⟨vs, v, s.seq hs, hv⟩, fun x H'' hy => ?_⟩
  obtain ⟨rfl, hx⟩ := hy
  have := hx vs (s.seq hs)
  rw [hv] at this
  cases this
  exact ⟨rfl, _, hd, rv⟩
theorem s_forN (i : Nat) (hp : PassesOwn (model X.prog X.w) X.A X.env X.xe) (hc : X.calm = true) (hN : X.N.Nodup) (he : J X Y W .n e f) (hb : JB X Y W M body b) (hi : X.N[i]? = some x := by rfl) (hx : Loc X.env.scope x := by first | exact Or.inl rfl | exact Or.inr rfl) (hM : M i = true := by rfl)
    (hf : X.fn x = true ∨ X.env.scope.names.lookup x = some .local := by first | exact .inl rfl | exact .inr rfl) (hfs : ∀ x, foldedSetIterable e X.env x = pure x := by intro _; rfl) : JS X Y W M (.For (.Name x px) e body [] pos) (sForN i f b) :=
  PS.imp (ps_for hp hc (pi_list he) (pg_fr hN hi hx hf) hb hfs) fun D σ H ⟨F, S, s, h⟩ => by
    refine ⟨en S, s.en, (WPs.bind h s.same).imp (Same.refl H) fun d q => ?_⟩
    intro v H1 fp sh o nd fr
    cases d with
    | lst ds =>
      obtain ⟨F', f1, f2, s', r⟩ := s.freeze sh o fr
      cases r with
      | @lst a vs _ ha r =>
        refine ⟨a, rfl, ⟨vs, SqL.of (f2 _ _ ha)⟩, ?_⟩
        obtain ⟨g1, g2⟩ := itl_run (X := X) (SqL.of ha) r
        exact for_run hM g1 g2 s' (WPs.shallow (show WPs X.K Y W M F D σ (forS (bindF i) b ds S) from q) f1)
    | _ => exact q.elim
theorem itr_run {F : Hp} {lo : Int} {n : Nat} : (∀ (k : Nat) (H' : Hp), Same F H' → k < (intsUpTo lo n).length → (Itr lo n).go k H' ∧ ∀ x H'', (Itr lo n).yld k H' x H'' → H'' = H' ∧ ∃ d, (intsUpTo lo n)[k]? = some d ∧ Rep X.K Y F x d) ∧
    (∀ (k : Nat) (H' : Hp), Same F H' → (intsUpTo lo n).length ≤ k → (Itr lo n).stop k H') := by
  have el : (intsUpTo lo n).length = n := by simp [intsUpTo]
  rw [el]
  refine ⟨fun k H' s hk => ⟨hk, fun x H'' hy => ?_⟩, fun k H' s hk => hk⟩
  obtain ⟨rfl, rfl⟩ := hy
  refine ⟨rfl, .int (lo + (k : Nat)), ?_, .int⟩
  unfold intsUpTo
  rw [List.getElem?_map, List.getElem?_range hk]
  rfl
theorem s_forR1 (i : Nat) (hp : PassesOwn (model X.prog X.w) X.A X.env X.xe) (hc : X.calm = true) (hN : X.N.Nodup) (hm : X.mg "range" = none) (he : J X Y W .r e f) (hb : JB X Y W M body b) (hg : Gl X "range" := by rfl) (hi : X.N[i]? = some x := by rfl) (hx : Loc X.env.scope x := by first | exact Or.inl rfl | exact Or.inr rfl) (hM : M i = true := by rfl)
    (hf : X.fn x = true ∨ X.env.scope.names.lookup x = some .local := by first | exact .inl rfl | exact .inr rfl) (hs : starEach [e] X.env = [(false, eval e X.env)] := by rfl) (hs1 : starEach (e :: []) X.env = (false, eval e X.env) :: starEach [] X.env := by rfl) : JS X Y W M (.For (.Name x px) (.Call (.Name "range" p) [e] [] pos) body [] pos') (sForR1 i f b) :=
  PS.imp (ps_for hp hc (pi_range1 hg hm (pa_cons he pa_nil hs1) hs) (pg_fr hN hi hx hf) hb) fun D σ H ⟨F, S, s, h⟩ => by
    refine ⟨en S, s.en, (WPs.bind h s.same).imp (Same.refl H) fun d q => ?_⟩
    intro v H1 sh r
    cases r with
    | @int n =>
      have q' : WPs X.K Y W M F D σ (if rgOk n = true then forS (bindF i) b (intsUpTo 0 n.toNat) S else .stuck) := q
      by_cases hr : rgOk n = true
      · rw [if_pos hr] at q'
        obtain ⟨z1, z2⟩ := rgOk_iff hr
        refine ⟨n, rfl, z1, z2, ?_⟩
        obtain ⟨g1, g2⟩ := itr_run (X := X) (Y := Y) (F := F) (lo := 0) (n := n.toNat)
        exact for_run hM g1 g2 (s.ext sh) q'
      · rw [if_neg hr] at q'
        exact q'.elim
    | _ => exact q.elim
theorem s_forR2 (i : Nat) (hp : PassesOwn (model X.prog X.w) X.A X.env X.xe) (hc : X.calm = true) (hN : X.N.Nodup) (hm : X.mg "range" = none) (ha : J X Y W .r a fa) (he : J X Y W .r e f) (hb : JB X Y W M body b) (hg : Gl X "range" := by rfl) (hi : X.N[i]? = some x := by rfl) (hx : Loc X.env.scope x := by first | exact Or.inl rfl | exact Or.inr rfl) (hM : M i = true := by rfl)
    (hf : X.fn x = true ∨ X.env.scope.names.lookup x = some .local := by first | exact .inl rfl | exact .inr rfl) (hs : starEach [a, e] X.env = [(false, eval a X.env), (false, eval e X.env)] := by rfl) (hs2 : starEach [e] X.env = [(false, eval e X.env)] := by rfl)
    (hs1 : starEach (a :: [e]) X.env = (false, eval a X.env) :: starEach [e] X.env := by rfl) (hs3 : starEach (e :: []) X.env = (false, eval e X.env) :: starEach [] X.env := by rfl) : JS X Y W M (.For (.Name x px) (.Call (.Name "range" p) [a, e] [] pos) body [] pos') (sForR2 i fa f b) :=
  PS.imp (ps_for hp hc (pi_range2 hg hm (pa_cons ha (pa_cons he pa_nil hs3) hs1) hs hs2) (pg_fr hN hi hx hf) hb) fun D σ H ⟨F, S, s, h⟩ => by
    refine ⟨en S, s.en, (WPs.bind h s.same).imp (Same.refl H) fun d q => ?_⟩
    intro v H1 sh r
    refine ⟨en S, s.en.mono sh, (WPs.bind q (s.same.trans sh)).imp (Same.refl H1) fun d2 q2 => ?_⟩
    intro v2 H2 sh2 r2
    cases r with
    | @int lo =>
      cases r2 with
      | @int hi =>
        have q' : WPs X.K Y W M F D σ (if (rgOk lo && rgOk hi) = true then forS (bindF i) b (intsUpTo lo (hi - lo).toNat) S else .stuck) := q2
        by_cases hr : (rgOk lo && rgOk hi) = true
        · rw [if_pos hr] at q'
          have hr' := Bool.and_eq_true_iff.mp hr
          obtain ⟨z1, z2⟩ := rgOk_iff hr'.1
          obtain ⟨z3, z4⟩ := rgOk_iff hr'.2
          refine ⟨lo, hi, rfl, ⟨z1, z2, z3, z4⟩, ?_⟩
          obtain ⟨g1, g2⟩ := itr_run (X := X) (Y := Y) (F := F) (lo := lo) (n := (hi - lo).toNat)
          exact for_run hM g1 g2 (s.ext (sh.trans sh2)) q'
        · rw [if_neg hr] at q'
          exact q'.elim
      | _ => exact q2.elim
    | _ =>
      cases d2 <;> exact q2.elim
theorem s_forV (i v : Nat) {y : Str} {py : Pos} (hp : PassesOwn (model X.prog X.w) X.A X.env X.xe) (hc : X.calm = true) (hN : X.N.Nodup) (hb : JB X Y W M body b) (hi : X.N[i]? = some x := by rfl) (hx : Loc X.env.scope x := by first | exact Or.inl rfl | exact Or.inr rfl) (hM : M i = true := by rfl)
    (hf : X.fn x = true ∨ X.env.scope.names.lookup x = some .local := by first | exact .inl rfl | exact .inr rfl)
    (hv : X.N[v]? = some y := by rfl) (hvy : Vis X.env.scope y := by first | exact Or.inl rfl | exact Or.inr (Or.inl rfl) | exact Or.inr (Or.inr rfl)) (hd : (y == ("__debug__" : Str)) = false := by decide) (hcd : (y == ("__classdict__" : Str)) = false := by decide) :
    JS X Y W M (.For (.Name x px) (.Name y py) body [] pos) (sForV i v b) :=
  PS.imp (ps_for hp hc (pi_list (pe_var hv hvy hd hcd)) (pg_fr hN hi hx hf) hb) fun D σ H ⟨F, S, s, h⟩ => by
    obtain ⟨G, f1, f2, s', hz⟩ := s.deep
    unfold sForV at h
    cases q : S[v]? with
    | none => rw [q] at h; exact h.elim
    | some z =>
      rw [q] at h
      cases z with
      | un => exact h.elim
      | own d => exact h.elim
      | ali s j => exact h.elim
      | fz d =>
        obtain ⟨u, hu, ru⟩ := hz v d q
        cases d with
        | lst ds =>
          cases ru with
          | @lst a vs _ ha r =>
            refine ⟨.ref a, hu, a, rfl, ⟨vs, SqL.of (f2 _ _ ha)⟩, ?_⟩
            obtain ⟨g1, g2⟩ := itl_run (X := X) (SqL.of ha) r
            exact for_run hM g1 g2 s' (WPs.shallow (show WPs X.K Y W M F D σ (forS (bindF i) b ds S) from h) f1)
        | scr ns =>
          cases ru with
          | @scr a _ ha =>
            refine ⟨.ref a, hu, a, rfl, ⟨_, f2.seq ha⟩, ?_⟩
            obtain ⟨g1, g2⟩ := itl_run (X := X) ha (.of_ints (Y := Y) ns)
            exact for_run hM g1 g2 s' (WPs.shallow (show WPs X.K Y W M F D σ (forS (bindF i) b (ns.map .int) S) from h) f1)
        | _ => exact h.elim
theorem s_forP (i v : Nat) {y : Str} {py : Pos} (hp : PassesOwn (model X.prog X.w) X.A X.env X.xe) (hc : X.calm = true) (hN : X.N.Nodup) (he : J X Y W .r e f) (hb : JB X Y W M body b) (hi : X.N[i]? = some x := by rfl) (hx : Loc X.env.scope x := by first | exact Or.inl rfl | exact Or.inr rfl) (hM : M i = true := by rfl)
    (hf : X.fn x = true ∨ X.env.scope.names.lookup x = some .local := by first | exact .inl rfl | exact .inr rfl) (hs : PlainIx e := by exact fun _ _ => rfl)
    (hv : X.N[v]? = some y := by rfl) (hvy : Vis X.env.scope y := by first | exact Or.inl rfl | exact Or.inr (Or.inl rfl) | exact Or.inr (Or.inr rfl)) (hd : (y == ("__debug__" : Str)) = false := by decide) (hcd : (y == ("__classdict__" : Str)) = false := by decide) :
    JS X Y W M (.For (.Name x px) (.Subscript (.Name y py) e p) body [] pos) (sForP i v f b) :=
  PS.imp (ps_for hp hc (pi_list (pe_ix ix_list (pe_var hv hvy hd hcd) he hs)) (pg_fr hN hi hx hf) hb) fun D σ H ⟨F, S, s, h⟩ => by
    obtain ⟨G, f1, f2, s', hz⟩ := s.deep
    unfold sForP at h
    cases q : S[v]? with
    | none => rw [q] at h; exact h.elim
    | some z =>
      rw [q] at h
      cases z with
      | un => exact h.elim
      | own d => exact h.elim
      | ali s j => exact h.elim
      | fz d =>
        obtain ⟨u, hu, ru⟩ := hz v d q
        cases d with
        | lst ds =>
          cases ru with
          | @lst a vs _ ha r =>
            refine ⟨.ref a, hu, ?_⟩
            have h' : WPs X.K Y W M F D σ (f (en S) >>= fun e => match e with
              | .int j => match atI ds j with
                | some (.lst es) => forS (bindF i) b es S
                | _ => .stuck
              | _ => .stuck) := h
            refine ⟨en S, s.en, (WPs.bind h' s.same).imp (Same.refl H) fun d2 q2 => ?_⟩
            intro v2 H2 sh2 r2
            cases r2 with
            | @int j =>
              cases q3 : atI ds j with
              | none =>
                simp only [q3] at q2
                exact q2.elim
              | some d3 =>
                simp only [q3] at q2
                obtain ⟨u3, hu3, ru3⟩ := r.at q3
                cases d3 with
                | lst es =>
                  cases ru3 with
                  | @lst a3 vs3 _ ha3 r3 =>
                    have f2' := f2.trans sh2
                    refine ⟨a, vs, j, .ref a3, rfl, rfl, SqL.of (f2' _ _ ha), hu3, a3, rfl, ⟨vs3, SqL.of (f2' _ _ ha3)⟩, ?_⟩
                    obtain ⟨g1, g2⟩ := itl_run (X := X) (SqL.of ha3) r3
                    exact for_run hM g1 g2 (s'.ext sh2) (WPs.shallow (show WPs X.K Y W M F D σ (forS (bindF i) b es S) from q2) f1)
                | _ => exact q2.elim
            | _ => exact q2.elim
        | _ => exact h.elim
end
end Ow
end
section
set_option linter.all false
set_option maxRecDepth 100000
set_option maxHeartbeats 1000000
/-! Ow8: reckoning with the plain functions. -/
namespace Ow
open PySem L2
@[simp] theorem map_fz_cons (d : D) (ds : List D) : (d :: ds).map Slot.fz = Slot.fz d :: ds.map Slot.fz := rfl
@[simp] theorem dat_fz (S : List Slot) (d : D) : Slot.dat S (.fz d) = some d := rfl
@[simp] theorem dat_own (S : List Slot) (d : D) : Slot.dat S (.own d) = some d := rfl
@[simp] theorem dat_un (S : List Slot) : Slot.dat S .un = none := rfl
@[simp] theorem kill_fz (i : Nat) (d : D) : Slot.kill i (.fz d) = .fz d := rfl
@[simp] theorem kill_own (i : Nat) (d : D) : Slot.kill i (.own d) = .own d := rfl
@[simp] theorem kill_un (i : Nat) : Slot.kill i .un = .un := rfl
@[simp] theorem mk_int (i : Int) : mk (.int i) = .fz (.int i) := by simp [mk, pureD]
@[simp] theorem mk_bl (i : Bool) : mk (.bl i) = .fz (.bl i) := by simp [mk, pureD]
@[simp] theorem mk_non : mk .non = .fz .non := by simp [mk, pureD]
@[simp] theorem mk_str (x : Str) : mk (.str x) = .fz (.str x) := by simp [mk, pureD]
@[simp] theorem mk_lst (x : List D) : mk (.lst x) = .own (.lst x) := by simp [mk, pureD]
@[simp] theorem mk_dI (x : List (Int × D)) : mk (.dI x) = .own (.dI x) := by simp [mk, pureD]
@[simp] theorem mk_dT (x : List (List Int × D)) : mk (.dT x) = .own (.dT x) := by simp [mk, pureD]
theorem mk_pure {d : D} (h : pureD d = true) : mk d = .fz d := by simp [mk, h]
/-- a fraction -/
abbrev fr (a b : Int) : D := .tup [.int a, .int b]
@[simp] theorem pure_fr (a b : Int) : pureD (fr a b) = true := by simp [pureD, pureDs]
@[simp] theorem mk_fr (a b : Int) : mk (.tup [.int a, .int b]) = .fz (.tup [.int a, .int b]) := mk_pure (pure_fr a b)
@[simp] theorem pureD_int' (i : Int) : pureD (.int i) = true := pureD_int i
@[simp] theorem pureD_bl' (i : Bool) : pureD (.bl i) = true := pureD_bl i
@[simp] theorem pureD_non' : pureD .non = true := pureD_non
@[simp] theorem pureD_str' (x : Str) : pureD (.str x) = true := pureD_str x
@[simp] theorem pureD_lst' (x : List D) : pureD (.lst x) = false := pureD_lst x
@[simp] theorem pureD_tup' (x : List D) : pureD (.tup x) = pureDs x := pureD_tup x
@[simp] theorem pureDs_nil' : pureDs [] = true := pureDs_nil
@[simp] theorem pureDs_cons' (d : D) (ds : List D) : pureDs (d :: ds) = (pureD d && pureDs ds) := pureDs_cons d ds

@[simp] theorem oAdd_int (a b : Int) : oAdd (.int a) (.int b) = .ok (.int (a + b)) := rfl
@[simp] theorem oSub_int (a b : Int) : oSub (.int a) (.int b) = .ok (.int (a - b)) := rfl
@[simp] theorem oLt_int (a b : Int) : oLt (.int a) (.int b) = .ok (.bl (decide (a < b))) := rfl
@[simp] theorem oLe_int (a b : Int) : oLe (.int a) (.int b) = .ok (.bl (decide (a ≤ b))) := rfl
@[simp] theorem oGt_int (a b : Int) : oGt (.int a) (.int b) = .ok (.bl (decide (b < a))) := rfl
@[simp] theorem oGe_int (a b : Int) : oGe (.int a) (.int b) = .ok (.bl (decide (b ≤ a))) := rfl
@[simp] theorem oMin_int (a b : Int) : oMin (.int a) (.int b) = .ok (.int (if b < a then b else a)) := rfl
@[simp] theorem oMax_int (a b : Int) : oMax (.int a) (.int b) = .ok (.int (if b > a then b else a)) := rfl
@[simp] theorem oNeg_int (a : Int) : oNeg (.int a) = .ok (.int (-a)) := rfl
@[simp] theorem oAbs_int (a : Int) : oAbs (.int a) = .ok (.int (if a < 0 then -a else a)) := rfl
/-- the size of a number: below two to the n -/
abbrev Sz (n : Nat) (a : Int) : Prop := a.natAbs < 2 ^ n
theorem log2_lt {n k : Nat} (h : n < 2 ^ k) (hk : 0 < k) : n.log2 < k := by
  by_cases e : n = 0
  · subst e
    simpa using hk
  · exact (Nat.log2_lt e).mpr h
theorem oMul_ok {a b : Int} {n m : Nat} (ha : Sz n a) (hb : Sz m b) (h : n + m ≤ 999000) : oMul (.int a) (.int b) = .ok (.int (a * b)) := by
  have h1 : a.natAbs.log2 < n + 1 := log2_lt (Nat.lt_of_lt_of_le ha (Nat.pow_le_pow_right (by decide) (Nat.le_succ n))) (Nat.succ_pos n)
  have h2 : b.natAbs.log2 < m + 1 := log2_lt (Nat.lt_of_lt_of_le hb (Nat.pow_le_pow_right (by decide) (Nat.le_succ m))) (Nat.succ_pos m)
  have : cMul a b = true := decide_eq_true (by omega)
  show (if cMul a b = true then Res.ok (D.int (a * b)) else .stuck) = _
  rw [if_pos this]
theorem oDiv_ok {a b : Int} {n : Nat} (h0 : b ≠ 0) (hb : Sz n b) (h : n ≤ 8999) : oDiv (.int a) (.int b) = .ok (.int (a.fdiv b)) := by
  have h2 : b.natAbs.log2 < n + 1 := log2_lt (Nat.lt_of_lt_of_le hb (Nat.pow_le_pow_right (by decide) (Nat.le_succ n))) (Nat.succ_pos n)
  have : cDiv a b = true := by
    unfold cDiv
    rw [decide_eq_true h0, decide_eq_true (show b.natAbs.log2 < 9000 by omega)]
    rfl
  show (if cDiv a b = true then Res.ok (D.int (a.fdiv b)) else .stuck) = _
  rw [if_pos this]
theorem oMod_ok {a b : Int} (h0 : b ≠ 0) : oMod (.int a) (.int b) = .ok (.int (a.fmod b)) := by
  have : cMod a b = true := decide_eq_true h0
  show (if cMod a b = true then Res.ok (D.int (a.fmod b)) else .stuck) = _
  rw [if_pos this]
/-- by a positive number -/
theorem oDiv_pos {a b : Int} (h0 : 0 < b) (hb : Sz 8000 b) : oDiv (.int a) (.int b) = .ok (.int (a / b)) := by
  rw [oDiv_ok (n := 8000) (by omega) hb (by decide), Int.fdiv_eq_ediv_of_nonneg a (by omega)]
/-- by a written number -/
theorem oDiv_c {a b : Int} (h0 : 0 < b) (hb : Sz 250 b) : oDiv (.int a) (.int b) = .ok (.int (a / b)) :=
  oDiv_pos h0 (Nat.lt_of_lt_of_le hb (Nat.pow_le_pow_right (by decide) (by decide)))
theorem oMod_pos {a b : Int} (h0 : 0 < b) : oMod (.int a) (.int b) = .ok (.int (a % b)) := by
  rw [oMod_ok (by omega), Int.fmod_eq_emod_of_nonneg a (by omega)]
/-- == of ints -/
theorem shp_int (a : Int) : shp (.int a) = true := by
  unfold shp
  rw [toP]
  rfl
@[simp] theorem oEq_int (a b : Int) : oEq (.int a) (.int b) = .ok (.bl (decide (a = b))) := by
  unfold oEq
  rw [shp_int, shp_int, toP, toP, PyData.eqv]
  rfl
@[simp] theorem oNe_int (a b : Int) : oNe (.int a) (.int b) = .ok (.bl (!decide (a = b))) := by
  unfold oNe
  rw [shp_int, shp_int, toP, toP, PyData.eqv]
  rfl
@[simp] theorem isNon_tup (x : List D) : isNon (.tup x) = false := rfl
@[simp] theorem isNon_lst (x : List D) : isNon (.lst x) = false := rfl
@[simp] theorem isNon_int (x : Int) : isNon (.int x) = false := rfl
@[simp] theorem isNon_non : isNon .non = true := rfl
@[simp] theorem oLen_lst (x : List D) : oLen (.lst x) = .ok (.int x.length) := rfl
@[simp] theorem oLen_tup (x : List D) : oLen (.tup x) = .ok (.int x.length) := rfl
@[simp] theorem oLen_scr (x : List Int) : oLen (.scr x) = .ok (.int x.length) := rfl
theorem oIx_lst (x : List D) (i : Int) : oIx (.lst x) (.int i) = match atI x i with
    | some d => .ok d
    | none => .stuck := rfl
theorem oIx_tup (x : List D) (i : Int) : oIx (.tup x) (.int i) = match atI x i with
    | some d => .ok d
    | none => .stuck := rfl
theorem oIx_scr (x : List Int) (i : Int) : oIx (.scr x) (.int i) = match atI x i with
    | some d => .ok (.int d)
    | none => .stuck := rfl
@[simp] theorem oIx_p0 (a b : D) : oIx (.tup [a, b]) (.int 0) = .ok a := rfl
@[simp] theorem oIx_p1 (a b : D) : oIx (.tup [a, b]) (.int 1) = .ok b := rfl
theorem atI_nat' {α : Type} {xs : List α} {i : Int} (h : 0 ≤ i) : atI xs i = xs[i.toNat]? := by
  unfold atI ixN
  rw [if_pos h]
  by_cases e : i < xs.length
  · rw [if_pos e]; rfl
  · rw [if_neg e]
    have : xs.length ≤ i.toNat := by omega
    rw [List.getElem?_eq_none this]
    rfl
end Ow
end
section
set_option linter.all false
set_option maxRecDepth 100000
set_option maxHeartbeats 1000000
/-! Ow9: loops, slices, in plain. -/
namespace Ow
open PySem L2
theorem forS_all {α : Type} {bind : α → List Slot → Res (List Slot)} {b : List Slot → Res Fl} (I : Nat → List Slot → Prop) : ∀ (L : List α) (S : List Slot), I 0 S → (∀ (k : Nat) (d : α) S, L[k]? = some d → I k S → ∃ S1 S', bind d S = .ok S1 ∧ b S1 = .ok (.nx S') ∧ I (k + 1) S') →
    ∃ S', forS bind b L S = .ok (.nx S') ∧ I L.length S'
  | [], S, h0, _ => ⟨S, rfl, h0⟩
  | d :: L, S, h0, hs => by
    obtain ⟨S1, S', e1, e2, h1⟩ := hs 0 d S rfl h0
    obtain ⟨S2, e3, h2⟩ := forS_all (fun k => I (k + 1)) L S' h1 (fun k d S hd hI => hs (k + 1) d S hd hI)
    refine ⟨S2, ?_, h2⟩
    unfold forS
    rw [e1]
    simp only [ok_bind]
    rw [e2]
    exact e3
theorem cutG_to {α : Type} (xs : List α) (n : Nat) : cutG xs none (some (n : Int)) = xs.take n := by
  unfold cutG
  rw [HT.sIx_nat, HT.sIx_none]
  simp only [Nat.sub_zero, List.drop_zero]
  exact List.take_eq_take_iff.mpr (by omega)
theorem cutG_from {α : Type} (xs : List α) (n : Nat) : cutG xs (some (n : Int)) none = xs.drop n := by
  unfold cutG
  rw [HT.sIx_nat, HT.sIx_none]
  apply List.ext_getElem?
  intro i
  rw [List.getElem?_take, List.getElem?_drop, List.getElem?_drop]
  by_cases h : i < xs.length - min n xs.length
  · rw [if_pos h]
    congr 1
    omega
  · rw [if_neg h]
    exact (List.getElem?_eq_none (by omega)).symm
/-! ### divisors -/
/-- what the while of divisor does -/
def dvC : En → Res Bool := tBl (x2 oGt (xVar 1) (xC (.int 0)))
def dvB : List Slot → Res Fl := sPar 0 1 (xVar 1) (x2 oMod (xVar 0) (xVar 1))
theorem dv_while : ∀ (n : Nat) (x y : Int), y.toNat ≤ n → 0 ≤ x → 0 ≤ y → sWhile dvC dvB [.fz (.int x), .fz (.int y)] = .ok (.nx [.fz (.int (Int.gcd x y)), .fz (.int 0)]) := by
  intro n
  induction n with
  | zero =>
    intro x y h hx hy
    have e : y = 0 := by omega
    subst e
    rw [sWhile_eq]
    simp [dvC, tBl, x2, xVar, xC, en]
    omega
  | succ n ih =>
    intro x y h hx hy
    rw [sWhile_eq]
    by_cases e : y = 0
    · subst e
      simp [dvC, tBl, x2, xVar, xC, en]
      omega
    · have hy0 : 0 < y := by omega
      have hlt := Int.emod_lt_of_pos x hy0
      have hge := Int.emod_nonneg x e
      have hb : dvB [.fz (.int x), .fz (.int y)] = .ok (.nx [.fz (.int y), .fz (.int (x % y))]) := by
        simp [dvB, sPar, xVar, x2, en, oMod_pos hy0, setS]
      have hc : dvC (en [.fz (.int x), .fz (.int y)]) = .ok true := by
        simp [dvC, tBl, x2, xVar, xC, en, hy0]
      rw [hc, ok_bind, if_pos rfl, hb, ok_bind]
      show sWhile dvC dvB [.fz (.int y), .fz (.int (x % y))] = _
      have eg : Int.gcd y (x % y) = Int.gcd x y := by
        rw [Int.gcd_comm x y]
        have := Int.gcd_add_mul_left_right y (x % y) (x / y)
        rw [Int.emod_add_mul_ediv] at this
        exact this.symm
      rw [ih y (x % y) (by omega) hy hge, eg]
end Ow
end
section
set_option linter.all false
set_option maxRecDepth 100000
set_option maxHeartbeats 2000000
/-! Ow10: loops with any target: enumerate, zip; tuples unpacked. -/
namespace Ow
open PySem L2 PySem.Spec
section
variable {K : PySem.W.Frag} {Y : Cl} {F H H' : Hp} {S : List Slot} {σ : St}
/-- the walk over items, any binding -/
theorem for_gen {α : Type} {W : Wh} {M : Md} {D' : Ends} {J : It} {g : TG} {b : List Slot → Res Fl} {bind : α → List Slot → Res (List Slot)} {L : List α}
    (hgo : ∀ (k : Nat) (a : α) (S1 : List Slot) (σ1 : St) (H1 : Hp) (S2 : List Slot), L[k]? = some a → Sat K Y F S1 σ1 H1 → Stay M σ σ1 → bind a S1 = .ok S2 → J.go k H1 ∧ ∀ x H2, J.yld k H1 x H2 → ∀ Q : St → Hp → Prop, (∀ σ2 H3, Sat K Y F S2 σ2 H3 → Stay M σ1 σ2 → Q σ2 H3) → g x σ1 H2 Q)
    (hst : ∀ (S1 : List Slot) (σ1 : St) (H1 : Hp), Sat K Y F S1 σ1 H1 → Stay M σ σ1 → J.stop L.length H1) (hcalm : ∀ a S1 e, bind a S1 ≠ .exc e) (s : Sat K Y F S σ H) (h : WPs K Y W M F D' σ (forS bind b L S)) :
    ∃ W' : Nat → Nat → St → Hp → Prop, (∃ m, W' 0 m σ H) ∧ ∀ k m σ1 H1, W' k m σ1 H1 → (J.stop k H1 ∧ D'.nx σ1 H1) ∨ (J.go k H1 ∧ ∃ N : St → Hp → Prop, (∀ σ' H', N σ' H' → ∃ m', m' < m ∧ W' (k + 1) m' σ' H') ∧
      ∀ x H', J.yld k H1 x H' → g x σ1 H' fun σ2 H2 => tS K Y W M b { D' with nx := N, ct := N, bk := D'.nx } σ2 H2) := by
  refine ⟨fun k m σ1 H1 => m = L.length - k ∧ k ≤ L.length ∧ ∃ S1, Sat K Y F S1 σ1 H1 ∧ Stay M σ σ1 ∧ WPs K Y W M F D' σ (forS bind b (L.drop k) S1), ⟨_, rfl, Nat.zero_le _, S, s, Stay.refl M σ, h⟩, ?_⟩
  rintro k m σ1 H1 ⟨rfl, hk, S1, s1, y1, p⟩
  by_cases hlt : k < L.length
  · have hd : L[k]? = some L[k] := List.getElem?_eq_getElem hlt
    have ed : L.drop k = L[k] :: L.drop (k + 1) := List.drop_eq_getElem_cons hlt
    rw [ed] at p
    have p' : WPs K Y W M F D' σ (bind L[k] S1 >>= fun S2 => b S2 >>= fun r => match r with
      | .nx S' => forS bind b (L.drop (k + 1)) S'
      | .ct S' => forS bind b (L.drop (k + 1)) S'
      | .bk S' => .ok (.nx S')
      | .rt d => .ok (.rt d)) := p
    cases qb : bind L[k] S1 with
    | stuck => rw [qb] at p'; exact p'.elim
    | exc e => exact absurd qb (hcalm _ _ e)
    | ok S2 =>
      rw [qb, ok_bind] at p'
      obtain ⟨g1, g2⟩ := hgo k L[k] S1 σ1 H1 S2 hd s1 y1 qb
      refine .inr ⟨g1, fun σ' H' => ∃ S', Sat K Y F S' σ' H' ∧ Stay M σ σ' ∧ WPs K Y W M F D' σ (forS bind b (L.drop (k + 1)) S'), fun σ' H' ⟨S', a1, a2, a3⟩ => ⟨_, by omega, rfl, hlt, S', a1, a2, a3⟩, fun x H' hy => ?_⟩
      refine g2 x H' hy _ fun σ2 H2 s2 y2 => ⟨F, S2, s2, ?_⟩
      have y3 : Stay M σ σ2 := y1.trans y2
      cases q : b S2 with
      | stuck => rw [q] at p'; exact p'
      | exc e => rw [q] at p'; exact p'
      | ok r =>
        rw [q] at p'
        cases r with
        | rt d => exact p'
        | nx S' => exact fun σ' H' s' st => ⟨S', s', y3.trans st, p'⟩
        | ct S' => exact fun σ' H' s' st => ⟨S', s', y3.trans st, p'⟩
        | bk S' => exact fun σ' H' s' st => p' σ' H' s' (y3.trans st)
  · have ed : L.drop k = [] := List.drop_of_length_le (by omega)
    rw [ed] at p
    have ek : k = L.length := by omega
    subst ek
    exact .inl ⟨hst S1 σ1 H1 s1 y1, p σ1 H1 s1 y1⟩
end
/-- the items with their numbers -/
def enumD (k : Nat) : List D → List (Nat × D)
  | [] => []
  | d :: ds => (k, d) :: enumD (k + 1) ds
theorem enumD_len : ∀ (k : Nat) (ds : List D), (enumD k ds).length = ds.length
  | _, [] => rfl
  | k, d :: ds => by simp [enumD, enumD_len (k + 1) ds]
theorem enumD_get : ∀ (ds : List D) (k i : Nat), (enumD k ds)[i]? = (ds[i]?).map fun d => (k + i, d)
  | [], k, i => by simp [enumD]
  | d :: ds, k, 0 => by simp [enumD]
  | d :: ds, k, i + 1 => by
    simp only [enumD, List.getElem?_cons_succ]
    rw [enumD_get ds (k + 1) i]
    simp [Nat.add_comm, Nat.add_left_comm]
def bind2 (i j : Nat) (p : Nat × D) (S : List Slot) : Res (List Slot) := .ok (setS (setS S i (.fz (.int p.1))) j (.fz p.2))
/-- for i, j in enumerate(a new list) -/
def sForE (i j : Nat) (f : En → Res D) (b : List Slot → Res Fl) : List Slot → Res Fl := fun S => f (en S) >>= fun d => match d with
  | .lst ds => forS (bind2 i j) b (enumD 0 ds) S
  | _ => .stuck
/-- a, b = a pure pair -/
def sUnp2 (i j : Nat) (f : En → Res D) : List Slot → Res Fl := fun S => f (en S) >>= fun d => match d with
  | .tup [x, y] => if (pureD x && pureD y) = true then .ok (.nx (setS (setS S i (.fz x)) j (.fz y))) else .stuck
  | _ => .stuck
section
variable {X : Cx} {Y : Cl} {W : Wh} {M : Md} {x y : Str} {px py pt pos p : Pos} {kt : Nat} {e : Expr} {body : List Stmt} {f : En → Res D} {b : List Slot → Res Fl}
theorem pg_pair {i j : Nat} (hc : X.calm = true) (hN : X.N.Nodup) (hi : X.N[i]? = some x) (hj : X.N[j]? = some y) (hx : Loc X.env.scope x) (hy : Loc X.env.scope y) (hfx : X.fn x = true ∨ X.env.scope.names.lookup x = some .local) (hfy : X.fn y = true ∨ X.env.scope.names.lookup y = some .local)
    (hn : (assignEach [.Name x px, .Name y py] X.env).length = 2) (hst : (assignEach [.Name x px, .Name y py] X.env).findIdx? (·.1) = none) (h1 : (assignEach (.Name x px :: [.Name y py]) X.env).map (·.2) = assign (.Name x px) X.env :: (assignEach [.Name y py] X.env).map (·.2))
    (h2 : (assignEach (.Name y py :: []) X.env).map (·.2) = assign (.Name y py) X.env :: (assignEach [] X.env).map (·.2)) : PG X (.Tuple [.Name x px, .Name y py] kt pt) (gTup X.K 2 (gCons (gName i) (gCons (gName j) gNil))) :=
  pg_tup hc (pgs_cons (pg_name hN hi hx hfx) (pgs_cons (pg_name hN hj hy hfy) pgs_nil h2) h1) hn hst
theorem s_forE (i j : Nat) (hp : PassesOwn (model X.prog X.w) X.A X.env X.xe) (hc : X.calm = true) (hN : X.N.Nodup) (hm : X.mg "enumerate" = none) (he : J X Y W .n e f) (hb : JB X Y W M body b) (hg : Gl X "enumerate" := by rfl) (hi : X.N[i]? = some x := by rfl) (hj : X.N[j]? = some y := by rfl)
    (hx : Loc X.env.scope x := by first | exact Or.inl rfl | exact Or.inr rfl) (hy : Loc X.env.scope y := by first | exact Or.inl rfl | exact Or.inr rfl) (hMi : M i = true := by rfl) (hMj : M j = true := by rfl)
    (hfx : X.fn x = true ∨ X.env.scope.names.lookup x = some .local := by first | exact .inl rfl | exact .inr rfl) (hfy : X.fn y = true ∨ X.env.scope.names.lookup y = some .local := by first | exact .inl rfl | exact .inr rfl)
    (hn : (assignEach [.Name x px, .Name y py] X.env).length = 2 := by rfl) (hst : (assignEach [.Name x px, .Name y py] X.env).findIdx? (·.1) = none := by rfl) (h1 : (assignEach (.Name x px :: [.Name y py]) X.env).map (·.2) = assign (.Name x px) X.env :: (assignEach [.Name y py] X.env).map (·.2) := by rfl)
    (h2 : (assignEach (.Name y py :: []) X.env).map (·.2) = assign (.Name y py) X.env :: (assignEach [] X.env).map (·.2) := by rfl) (hs : starEach [e] X.env = [(false, eval e X.env)] := by rfl) (hs1 : starEach (e :: []) X.env = (false, eval e X.env) :: starEach [] X.env := by rfl) :
    JS X Y W M (.For (.Tuple [.Name x px, .Name y py] kt pt) (.Call (.Name "enumerate" p) [e] [] pos) body [] pos') (sForE i j f b) :=
  PS.imp (ps_for hp hc (pi_enum hg hm (pa_cons he pa_nil hs1) hs) (pg_pair hc hN hi hj hx hy hfx hfy hn hst h1 h2) hb) fun D σ H ⟨F, S, s, h⟩ => by
    refine ⟨en S, s.en, (WPs.bind h s.same).imp (Same.refl H) fun d q => ?_⟩
    intro v H1 fp sh o nd fr
    cases d with
    | lst ds =>
      obtain ⟨F', f1, f2, s', r⟩ := s.freeze sh o fr
      cases r with
      | @lst a vs _ ha r =>
        refine ⟨a, vs, rfl, SqL.of (f2 _ _ ha), ?_⟩
        refine for_gen (K := X.K) (Y := Y) (F := F') (J := Ite X.K a) (bind := bind2 i j) (L := enumD 0 ds) (fun k pd S1 σ1 H2 S2 hk s1 y1 hb => ?_) (fun S1 σ1 H2 s1 y1 => ?_) (fun a S1 e z => by cases z) s' (WPs.shallow (show WPs X.K Y W M F D σ (forS (bind2 i j) b (enumD 0 ds) S) from q) f1)
        · rw [enumD_get] at hk
          obtain ⟨d, hd, rfl⟩ := Option.map_eq_some_iff.mp hk
          obtain ⟨v, hv, rv⟩ := r.get hd
          refine ⟨⟨vs, v, SqL.of (s1.same _ _ ha), hv⟩, fun x H3 hy Q hQ => ?_⟩
          obtain ⟨Tp, u, rfl, hT, rfl, hu⟩ := hy
          have eu := hu vs (SqL.of (s1.same _ _ ha))
          rw [hv] at eu
          cases eu
          have sm : Same H2 (upd H2 Tp (.tup [.int (k : Nat), v])) := same_new hT
          refine ⟨Tp, _, rfl, SqT.of upd_same, rfl, _, _, rfl, _, _, rfl, rfl, ?_⟩
          cases hb
          refine hQ _ _ (((s1.ext sm).setPure (Same.refl _) .int (pureD_int _)).setFz rv) ((Stay.set hMi).trans (Stay.set hMj)) |> fun z => ?_
          simpa using z
        · rw [enumD_len]
          exact ⟨vs, SqL.of (s1.same _ _ ha), by rw [r.length]; exact Nat.le_refl _⟩
    | _ => exact q.elim
theorem s_unp2 (i j : Nat) (hc : X.calm = true) (hN : X.N.Nodup) (he : J X Y W .r e f) (hi : X.N[i]? = some x := by rfl) (hj : X.N[j]? = some y := by rfl)
    (hx : Loc X.env.scope x := by first | exact Or.inl rfl | exact Or.inr rfl) (hy : Loc X.env.scope y := by first | exact Or.inl rfl | exact Or.inr rfl) (hMi : M i = true := by rfl) (hMj : M j = true := by rfl)
    (hfx : X.fn x = true ∨ X.env.scope.names.lookup x = some .local := by first | exact .inl rfl | exact .inr rfl) (hfy : X.fn y = true ∨ X.env.scope.names.lookup y = some .local := by first | exact .inl rfl | exact .inr rfl)
    (hn : (assignEach [.Name x px, .Name y py] X.env).length = 2 := by rfl) (hst : (assignEach [.Name x px, .Name y py] X.env).findIdx? (·.1) = none := by rfl) (h1 : (assignEach (.Name x px :: [.Name y py]) X.env).map (·.2) = assign (.Name x px) X.env :: (assignEach [.Name y py] X.env).map (·.2) := by rfl)
    (h2 : (assignEach (.Name y py :: []) X.env).map (·.2) = assign (.Name y py) X.env :: (assignEach [] X.env).map (·.2) := by rfl)
    (hs : swapsWithSole [.Tuple [.Name x px, .Name y py] kt pt] e pos.line X.env = pure false := by rfl) (hw : swappedStores [.Tuple [.Name x px, .Name y py] kt pt] e X.env = pure none := by rfl) (h3 : (assignEach [.Tuple [.Name x px, .Name y py] kt pt] X.env).map (·.2) = [assign (.Tuple [.Name x px, .Name y py] kt pt) X.env] := by rfl) :
    JS X Y W M (.Assign [.Tuple [.Name x px, .Name y py] kt pt] e pos) (sUnp2 i j f) :=
  PS.imp (ps_asg he (pg_pair hc hN hi hj hx hy hfx hfy hn hst h1 h2) hs hw h3) fun D σ H ⟨F, S, s, h⟩ => by
    refine ⟨en S, s.en, (WPs.bind h s.same).imp (Same.refl H) fun d q => ?_⟩
    intro v H1 sh r
    split at q
    · rename_i d1 d2
      by_cases hp : (pureD d1 && pureD d2) = true
      · rw [if_pos hp] at q
        have hp' := Bool.and_eq_true_iff.mp hp
        cases r with
        | tup ht rs =>
          cases rs with
          | cons r1 rs =>
            cases rs with
            | cons r2 rs =>
              cases rs
              refine ⟨_, _, rfl, ht, rfl, _, _, rfl, _, _, rfl, rfl, ?_⟩
              exact q _ _ ((s.setPure sh r1 hp'.1).setPure (Same.refl _) r2 hp'.2) ((Stay.set hMi).trans (Stay.set hMj))
      · rw [if_neg hp] at q
        exact q.elim
    · exact q.elim
end
end Ow
end
section
set_option linter.all false
set_option maxRecDepth 100000
set_option maxHeartbeats 4000000
/-! LibSem: the plain functions that many laws share. -/
namespace Ow.Lib
open PySem L2 PySem.Spec
noncomputable def sem_divisor : List D → Res D := runB 0 (bSeq (sSet 0 (x1 oAbs (xVar 0)))
 (bSeq (sSet 1 (x1 oAbs (xVar 1)))
 (bSeq (sWhile (tBl (x2 oGt (xVar 1) (xC (.int 0)))) (sPar 0 1 (xVar 1) (x2 oMod (xVar 0) (xVar 1))))
 (sRetV 0))))
noncomputable def sem_ratio : List D → Res D := runB 1 (bSeq (sIf (tBl (x2 oEq (xVar 1) (xC (.int 0)))) (sRaise 1) bN)
 (bSeq (sSet 2 (xCall sem_divisor (aCons (xVar 0) (aCons (xVar 1) aNil))))
 (bSeq (sIf (tBl (x2 oLt (xVar 1) (xC (.int 0)))) (sSet 2 (x2 oSub (xC (.int 0)) (xVar 2))) bN)
 (sRet (xTup (aCons (x2 oDiv (xVar 0) (xVar 2)) (aCons (x2 oDiv (xVar 1) (xVar 2)) aNil)))))))
noncomputable def semX_ratio : List D → Res D := runB 1 (bSeq (sIf (tBl (x2 oEq (xVar 1) (xC (.int 0)))) (sRaise 1) bN)
 (bSeq (sSet 2 (xCall sem_divisor (aCons (xVar 0) (aCons (xVar 1) aNil))))
 (bSeq (sIf (tBl (x2 oLt (xVar 1) (xC (.int 0)))) (sSet 2 (x2 oSub (xC (.int 0)) (xVar 2))) bN)
 (sRet (xTup (aCons (x2 oDiv (xVar 0) (xVar 2)) (aCons (x2 oDiv (xVar 1) (xVar 2)) aNil)))))))
noncomputable def sem_over : List D → Res D := runB 0 (sRet (xCall sem_ratio (aCons (x2 oMul (x2 oIx (xVar 0) (xC (.int 0))) (x2 oIx (xVar 1) (xC (.int 1)))) (aCons (x2 oMul (x2 oIx (xVar 0) (xC (.int 1))) (x2 oIx (xVar 1) (xC (.int 0)))) aNil))))
noncomputable def semX_over : List D → Res D := runB 0 (sRet (xCallX semX_ratio (aCons (x2 oMul (x2 oIx (xVar 0) (xC (.int 0))) (x2 oIx (xVar 1) (xC (.int 1)))) (aCons (x2 oMul (x2 oIx (xVar 0) (xC (.int 1))) (x2 oIx (xVar 1) (xC (.int 0)))) aNil))))
noncomputable def sem__law_cell_at : List D → Res D := runB 0 (bSeq (sIf (tBl (x2 oLt (xVar 1) (x1 oLen (xVar 0)))) (sRet (xP (x2 oIx (xVar 0) (xVar 1)))) bN)
 (sRet (xC (.int 0))))
noncomputable def sem__law_whole : List D → Res D := runB 0 (sRet (xP (xAn (x1 (isBI "int") (xVar 0)) (xNo (x1 (isBI "bool") (xVar 0))))))
noncomputable def sem__law_divisor : List D → Res D := runB 0 (bSeq (sSet 0 (x1 oAbs (xVar 0)))
 (bSeq (sSet 1 (x1 oAbs (xVar 1)))
 (bSeq (sWhile (tBl (x2 oGt (xVar 1) (xC (.int 0)))) (sPar 0 1 (xVar 1) (x2 oMod (xVar 0) (xVar 1))))
 (sRetV 0))))
noncomputable def sem__law_lowest : List D → Res D := runB 1 (bSeq (sSet 2 (xCall sem__law_divisor (aCons (xVar 0) (aCons (xVar 1) aNil))))
 (bSeq (sIf (tBl (x2 oLt (xVar 1) (xC (.int 0)))) (sSet 2 (x2 oSub (xC (.int 0)) (xVar 2))) bN)
 (sRet (xTup (aCons (x2 oDiv (xVar 0) (xVar 2)) (aCons (x2 oDiv (xVar 1) (xVar 2)) aNil))))))
noncomputable def sem__law_is_fraction : List D → Res D := runB 0 (bSeq (sIf (tOr' (tNo (tBl (x1 (isBI "tuple") (xVar 0)))) (tOr' (tBl (x2 oNe (x1 oLen (xVar 0)) (xC (.int 2)))) (tOr' (tNo (tBl (xCall sem__law_whole (aCons (x2 oIx (xVar 0) (xC (.int 0))) aNil)))) (tNo (tBl (xCall sem__law_whole (aCons (x2 oIx (xVar 0) (xC (.int 1))) aNil))))))) (sRet (xC (.bl false))) bN)
 (sRet (xP (xAn (x2 oGt (x2 oIx (xVar 0) (xC (.int 1))) (xC (.int 0))) (x2 oEq (xCall sem__law_divisor (aCons (x2 oIx (xVar 0) (xC (.int 0))) (aCons (x2 oIx (xVar 0) (xC (.int 1))) aNil))) (xC (.int 1)))))))
noncomputable def sem__law_fraction_by : List D → Res D := runB 2 (bSeq (sSet 2 (x2 oAdd (x2 oMod (xVar 0) (x2 oPow (xC (.int 10)) (xC (.int 18)))) (x2 oMul (xC (.int 48271)) (x2 oAdd (xVar 1) (xC (.int 1))))))
 (bSeq (sSet 2 (x2 oMod (x2 oMul (xVar 2) (xVar 2)) (xC (.int 2147483647))))
 (bSeq (sSet 3 (xP (x2 oIx (xLst (aCons (x2 oSub (x2 oMod (x2 oDiv (xVar 2) (xC (.int 6))) (xC (.int 13))) (xC (.int 6))) (aCons (x2 oSub (x2 oMod (x2 oDiv (xVar 2) (xC (.int 6))) (xC (.int 200001))) (x2 oPow (xC (.int 10)) (xC (.int 5)))) (aCons (x2 oSub (x2 oMod (xVar 0) (x2 oMul (xC (.int 2)) (x2 oPow (xC (.int 10)) (xC (.int 9))))) (x2 oPow (xC (.int 10)) (xC (.int 9)))) aNil)))) (x2 oMod (x2 oDiv (xVar 2) (xC (.int 6))) (xC (.int 3))))))
 (sRet (xCall sem__law_lowest (aCons (xVar 3) (aCons (x2 oAdd (xC (.int 1)) (x2 oMod (xVar 2) (xC (.int 6)))) aNil)))))))
noncomputable def sem__law_great : List D → Res D := runB 1 (bSeq (sSet 2 (x2 oSub (x2 oMod (xVar 0) (x2 oSub (x2 oMul (xC (.int 2)) (x2 oPow (xC (.int 10)) (xC (.int 60)))) (xC (.int 1)))) (x2 oSub (x2 oPow (xC (.int 10)) (xC (.int 60))) (xC (.int 1)))))
 (sRet (xCall sem__law_lowest (aCons (xVar 2) (aCons (x2 oAdd (xC (.int 1)) (x2 oMod (xVar 1) (x2 oSub (x2 oPow (xC (.int 10)) (xC (.int 60))) (xC (.int 1))))) aNil)))))
noncomputable def sem__law_worth : List D → Res D := runB 0 (sRet (xP (xAn (xCall sem__law_is_fraction (aCons (xVar 0) aNil)) (x2 oEq (x2 oMul (x2 oIx (xVar 0) (xC (.int 0))) (xVar 2)) (x2 oMul (xVar 1) (x2 oIx (xVar 0) (xC (.int 1))))))))
noncomputable def sem_plus : List D → Res D := runB 0 (sRet (xCall sem_ratio (aCons (x2 oAdd (x2 oMul (x2 oIx (xVar 0) (xC (.int 0))) (x2 oIx (xVar 1) (xC (.int 1)))) (x2 oMul (x2 oIx (xVar 1) (xC (.int 0))) (x2 oIx (xVar 0) (xC (.int 1))))) (aCons (x2 oMul (x2 oIx (xVar 0) (xC (.int 1))) (x2 oIx (xVar 1) (xC (.int 1)))) aNil))))
noncomputable def sem_minus : List D → Res D := runB 0 (sRet (xCall sem_ratio (aCons (x2 oSub (x2 oMul (x2 oIx (xVar 0) (xC (.int 0))) (x2 oIx (xVar 1) (xC (.int 1)))) (x2 oMul (x2 oIx (xVar 1) (xC (.int 0))) (x2 oIx (xVar 0) (xC (.int 1))))) (aCons (x2 oMul (x2 oIx (xVar 0) (xC (.int 1))) (x2 oIx (xVar 1) (xC (.int 1)))) aNil))))
noncomputable def sem_times : List D → Res D := runB 0 (sRet (xCall sem_ratio (aCons (x2 oMul (x2 oIx (xVar 0) (xC (.int 0))) (x2 oIx (xVar 1) (xC (.int 0)))) (aCons (x2 oMul (x2 oIx (xVar 0) (xC (.int 1))) (x2 oIx (xVar 1) (xC (.int 1)))) aNil))))
end Ow.Lib
end
section
set_option linter.all false
set_option exponentiation.threshold 100000
set_option maxHeartbeats 2000000
/-! LibF: fractions. -/
namespace Ow.Lib
open PySem L2
theorem while_divisor (x y : Int) (hx : 0 ≤ x) (hy : 0 ≤ y) : sWhile (tBl (x2 oGt (xVar 1) (xC (.int 0)))) (sPar 0 1 (xVar 1) (x2 oMod (xVar 0) (xVar 1))) [.fz (.int x), .fz (.int y)] = .ok (.nx [.fz (.int (Int.gcd x y)), .fz (.int 0)]) := dv_while _ x y (Nat.le_refl _) hx hy
theorem abs_if (a : Int) : (if a < 0 then -a else a) = (a.natAbs : Int) := by split <;> omega
theorem divisor_is (a b : Int) : sem_divisor [.int a, .int b] = .ok (.int (Int.gcd a b)) := by
  simp [sem_divisor, runB, bSeq, sSet, en, x1, xVar, setS, abs_if]
  rw [while_divisor _ _ (by omega) (by omega)]
  simp [sRetV, Int.gcd]
theorem ldivisor_is (a b : Int) : sem__law_divisor [.int a, .int b] = .ok (.int (Int.gcd a b)) := by
  simp [sem__law_divisor, runB, bSeq, sSet, en, x1, xVar, setS, abs_if]
  rw [while_divisor _ _ (by omega) (by omega)]
  simp [sRetV, Int.gcd]
/-- the divisor with the bottom's sign -/
def sgd (t b : Int) : Int := if b < 0 then -(Int.gcd t b) else Int.gcd t b
theorem gcd_ne {t b : Int} (hb : b ≠ 0) : (Int.gcd t b : Int) ≠ 0 := by
  intro h
  have : Int.gcd t b = 0 := by omega
  exact hb (Int.gcd_eq_zero_iff.mp this).2
theorem gcd_le {t b : Int} (hb : b ≠ 0) : Int.gcd t b ≤ b.natAbs := Nat.le_of_dvd (by omega) (Int.gcd_dvd_natAbs_right t b)
theorem sgd_ne {t b : Int} (hb : b ≠ 0) : sgd t b ≠ 0 := by
  have := gcd_ne (t := t) hb
  unfold sgd
  split <;> omega
theorem sgd_sz {t b : Int} {n : Nat} (hb : b ≠ 0) (hz : Sz n b) : Sz n (sgd t b) := by
  have := gcd_le (t := t) hb
  show (sgd t b).natAbs < _
  have e : (sgd t b).natAbs = Int.gcd t b := by unfold sgd; split <;> simp
  rw [e]
  exact Nat.lt_of_le_of_lt this hz
theorem sgd_dvd_l (t b : Int) : sgd t b ∣ t := by
  unfold sgd
  split
  · exact Int.neg_dvd.mpr (Int.gcd_dvd_left t b)
  · exact Int.gcd_dvd_left t b
theorem sgd_dvd_r (t b : Int) : sgd t b ∣ b := by
  unfold sgd
  split
  · exact Int.neg_dvd.mpr (Int.gcd_dvd_right t b)
  · exact Int.gcd_dvd_right t b
/-- a fraction in lowest terms -/
def Low (a b : Int) : Prop := 0 < b ∧ Int.gcd a b = 1
/-- the same number: crosswise -/
structure Same2 (t b t' b' : Int) : Prop where
  low : Low t' b'
  eq : t' * b = t * b'
theorem fdiv_of_dvd {a c : Int} (h0 : c ≠ 0) (h : c ∣ a) : a.fdiv c * c = a := by
  obtain ⟨k, rfl⟩ := h
  rw [Int.mul_fdiv_cancel_left _ h0, Int.mul_comm]
theorem reduced {t b : Int} (hb : b ≠ 0) : Same2 t b (t.fdiv (sgd t b)) (b.fdiv (sgd t b)) := by
  have h0 := sgd_ne (t := t) hb
  obtain ⟨k, hk⟩ : ∃ k, k = sgd t b := ⟨_, rfl⟩
  obtain ⟨x, hx⟩ : ∃ x, x = t.fdiv k := ⟨_, rfl⟩
  obtain ⟨y, hy⟩ : ∃ y, y = b.fdiv k := ⟨_, rfl⟩
  rw [← hk] at h0 ⊢
  have e1 : x * k = t := by rw [hx]; exact fdiv_of_dvd h0 (by rw [hk]; exact sgd_dvd_l t b)
  have e2 : y * k = b := by rw [hy]; exact fdiv_of_dvd h0 (by rw [hk]; exact sgd_dvd_r t b)
  have ek : k.natAbs = Int.gcd t b := by rw [hk]; unfold sgd; split <;> simp
  rw [← hx, ← hy]
  refine ⟨⟨?_, ?_⟩, ?_⟩
  · have hgp : (0 : Int) < Int.gcd t b := by have := gcd_ne (t := t) hb; omega
    by_cases hn : b < 0
    · have hk' : k < 0 := by rw [hk]; unfold sgd; rw [if_pos hn]; omega
      by_cases hy0 : 0 < y
      · exact hy0
      · exfalso
        have : 0 ≤ y * k := Int.mul_nonneg_of_nonpos_of_nonpos (by omega) (by omega)
        omega
    · have hk' : 0 < k := by rw [hk]; unfold sgd; rw [if_neg hn]; omega
      by_cases hy0 : 0 < y
      · exact hy0
      · exfalso
        have : y * k ≤ 0 := Int.mul_nonpos_of_nonpos_of_nonneg (by omega) (by omega)
        omega
  · have hg : Int.gcd x y * k.natAbs = k.natAbs := by
      rw [← Int.gcd_mul_right, e1, e2, ek]
    have hk0 : 0 < k.natAbs := by omega
    have := Nat.eq_of_mul_eq_mul_right hk0 (hg.trans (Nat.one_mul _).symm)
    exact this
  · rw [← e1, ← e2]
    rw [Int.mul_comm y k, ← Int.mul_assoc]
theorem abs_le_of_dvd_fdiv {a c : Int} (h0 : c ≠ 0) (h : c ∣ a) : (a.fdiv c).natAbs ≤ a.natAbs := by
  have e := fdiv_of_dvd h0 h
  have : (a.fdiv c).natAbs * c.natAbs = a.natAbs := by rw [← Int.natAbs_mul, e]
  rw [← this]
  exact Nat.le_mul_of_pos_right _ (by omega)
theorem ratio_nought (t : Int) : sem_ratio [.int t, .int 0] = .exc ⟨1, []⟩ := by
  simp [sem_ratio, runB, bSeq, sIf, tBl, x2, xVar, xC, en, sRaise]
theorem ratio_raw {t b : Int} (hb : b ≠ 0) (hz : Sz 8999 b) : sem_ratio [.int t, .int b] = .ok (fr (t.fdiv (sgd t b)) (b.fdiv (sgd t b))) := by
  have g0 := gcd_ne (t := t) hb
  have gn : (-(Int.gcd t b) : Int) ≠ 0 := by omega
  have hg : Sz 8999 (Int.gcd t b : Int) := Nat.lt_of_le_of_lt (by simpa using gcd_le (t := t) hb) hz
  have hg' : Sz 8999 (-(Int.gcd t b) : Int) := by
    show (-(Int.gcd t b : Int)).natAbs < _
    rw [Int.natAbs_neg]
    exact hg
  by_cases h : b < 0
  · simp [sem_ratio, runB, bSeq, bN, sIf, tBl, x2, xVar, xC, en, hb, sSet, xCall, aCons, aNil, divisor_is, setS, h, sRet, xTup, szOk, oDiv_ok gn hg' (Nat.le_refl _), sgd]
  · simp [sem_ratio, runB, bSeq, bN, sIf, tBl, x2, xVar, xC, en, hb, sSet, xCall, aCons, aNil, divisor_is, setS, h, sRet, xTup, szOk, oDiv_ok g0 hg (Nat.le_refl _), sgd]
theorem lowest_raw {t b : Int} (hb : b ≠ 0) (hz : Sz 8999 b) : sem__law_lowest [.int t, .int b] = .ok (fr (t.fdiv (sgd t b)) (b.fdiv (sgd t b))) := by
  have g0 := gcd_ne (t := t) hb
  have gn : (-(Int.gcd t b) : Int) ≠ 0 := by omega
  have hg : Sz 8999 (Int.gcd t b : Int) := Nat.lt_of_le_of_lt (by simpa using gcd_le (t := t) hb) hz
  have hg' : Sz 8999 (-(Int.gcd t b) : Int) := by
    show (-(Int.gcd t b : Int)).natAbs < _
    rw [Int.natAbs_neg]
    exact hg
  by_cases h : b < 0
  · simp [sem__law_lowest, runB, bSeq, bN, sIf, tBl, x2, xVar, xC, en, hb, sSet, xCall, aCons, aNil, ldivisor_is, setS, h, sRet, xTup, szOk, oDiv_ok gn hg' (Nat.le_refl _), sgd]
  · simp [sem__law_lowest, runB, bSeq, bN, sIf, tBl, x2, xVar, xC, en, hb, sSet, xCall, aCons, aNil, ldivisor_is, setS, h, sRet, xTup, szOk, oDiv_ok g0 hg (Nat.le_refl _), sgd]
/-- the fraction of two numbers -/
theorem ratio_ok {t b : Int} {n : Nat} (hb : b ≠ 0) (hz : Sz n b) (hn : n ≤ 8999) : ∃ x y, sem_ratio [.int t, .int b] = .ok (fr x y) ∧ Same2 t b x y ∧ x.natAbs ≤ t.natAbs ∧ y.natAbs ≤ b.natAbs :=
  ⟨_, _, ratio_raw hb (Nat.lt_of_lt_of_le hz (Nat.pow_le_pow_right (by decide) hn)), reduced hb, abs_le_of_dvd_fdiv (sgd_ne hb) (sgd_dvd_l t b), abs_le_of_dvd_fdiv (sgd_ne hb) (sgd_dvd_r t b)⟩
theorem lowest_ok {t b : Int} {n : Nat} (hb : b ≠ 0) (hz : Sz n b) (hn : n ≤ 8999) : ∃ x y, sem__law_lowest [.int t, .int b] = .ok (fr x y) ∧ Same2 t b x y ∧ x.natAbs ≤ t.natAbs ∧ y.natAbs ≤ b.natAbs :=
  ⟨_, _, lowest_raw hb (Nat.lt_of_lt_of_le hz (Nat.pow_le_pow_right (by decide) hn)), reduced hb, abs_le_of_dvd_fdiv (sgd_ne hb) (sgd_dvd_l t b), abs_le_of_dvd_fdiv (sgd_ne hb) (sgd_dvd_r t b)⟩
/-- one number has one fraction -/
theorem low_one {a b c d : Int} (h1 : Low a b) (h2 : Low c d) (h : a * d = c * b) : a = c ∧ b = d := by
  obtain ⟨b0, g1⟩ := h1
  obtain ⟨d0, g2⟩ := h2
  have k1 : b ∣ d := by
    have : b ∣ a * d := ⟨c, by rw [h, Int.mul_comm]⟩
    have := Int.dvd_gcd_mul_iff_dvd_mul.mpr this
    rwa [Int.gcd_comm, g1, show ((1 : Nat) : Int) = 1 from rfl, Int.one_mul] at this
  have k2 : d ∣ b := by
    have : d ∣ c * b := ⟨a, by rw [← h, Int.mul_comm]⟩
    have := Int.dvd_gcd_mul_iff_dvd_mul.mpr this
    rwa [Int.gcd_comm, g2, show ((1 : Nat) : Int) = 1 from rfl, Int.one_mul] at this
  have e : b = d := Int.dvd_antisymm (by omega) (by omega) k1 k2
  subst e
  exact ⟨Int.eq_of_mul_eq_mul_right (by omega) h, rfl⟩
theorem sz_mul {a b : Int} {n m : Nat} (ha : Sz n a) (hb : Sz m b) : Sz (n + m) (a * b) := by
  show (a * b).natAbs < _
  rw [Int.natAbs_mul, Nat.pow_add]
  exact Nat.mul_lt_mul'' ha hb
theorem sz_add {a b : Int} {n : Nat} (ha : Sz n a) (hb : Sz n b) : Sz (n + 1) (a + b) := by
  have h1 : a.natAbs < 2 ^ n := ha
  have h2 : b.natAbs < 2 ^ n := hb
  show (a + b).natAbs < 2 ^ (n + 1)
  rw [Nat.pow_succ]
  omega
theorem sz_sub {a b : Int} {n : Nat} (ha : Sz n a) (hb : Sz n b) : Sz (n + 1) (a - b) := by
  have h1 : a.natAbs < 2 ^ n := ha
  have h2 : b.natAbs < 2 ^ n := hb
  show (a - b).natAbs < 2 ^ (n + 1)
  rw [Nat.pow_succ]
  omega
theorem sz_le {a : Int} {n m : Nat} (ha : Sz n a) (h : n ≤ m) : Sz m a := Nat.lt_of_lt_of_le ha (Nat.pow_le_pow_right (by decide) h)
theorem sz_abs {a b : Int} {n : Nat} (hb : Sz n b) (h : a.natAbs ≤ b.natAbs) : Sz n a := Nat.lt_of_le_of_lt h hb
section
variable {a b c d : Int} {n : Nat}
theorem plus_ok (ha : Sz n a) (hb : Sz n b) (hc : Sz n c) (hd : Sz n d) (b0 : b ≠ 0) (d0 : d ≠ 0) (hn : n ≤ 4000) :
    ∃ x y, sem_plus [fr a b, fr c d] = .ok (fr x y) ∧ Same2 (a * d + c * b) (b * d) x y ∧ Sz (n + n + 1) x ∧ Sz (n + n) y := by
  obtain ⟨x, y, h1, h2, h3, h4⟩ := ratio_ok (t := a * d + c * b) (Int.mul_ne_zero b0 d0) (sz_mul hb hd) (by omega)
  refine ⟨x, y, ?_, h2, sz_abs (sz_add (sz_mul ha hd) (sz_mul hc hb)) h3, sz_abs (sz_mul hb hd) h4⟩
  simp [sem_plus, runB, sRet, xCall, aCons, aNil, x2, xVar, xC, en, oMul_ok ha hd (show n + n ≤ 999000 by omega), oMul_ok hc hb (show n + n ≤ 999000 by omega), oMul_ok hb hd (show n + n ≤ 999000 by omega), h1]
theorem minus_ok (ha : Sz n a) (hb : Sz n b) (hc : Sz n c) (hd : Sz n d) (b0 : b ≠ 0) (d0 : d ≠ 0) (hn : n ≤ 4000) :
    ∃ x y, sem_minus [fr a b, fr c d] = .ok (fr x y) ∧ Same2 (a * d - c * b) (b * d) x y ∧ Sz (n + n + 1) x ∧ Sz (n + n) y := by
  obtain ⟨x, y, h1, h2, h3, h4⟩ := ratio_ok (t := a * d - c * b) (Int.mul_ne_zero b0 d0) (sz_mul hb hd) (by omega)
  refine ⟨x, y, ?_, h2, sz_abs (sz_sub (sz_mul ha hd) (sz_mul hc hb)) h3, sz_abs (sz_mul hb hd) h4⟩
  simp [sem_minus, runB, sRet, xCall, aCons, aNil, x2, xVar, xC, en, oMul_ok ha hd (show n + n ≤ 999000 by omega), oMul_ok hc hb (show n + n ≤ 999000 by omega), oMul_ok hb hd (show n + n ≤ 999000 by omega), h1]
theorem times_ok (ha : Sz n a) (hb : Sz n b) (hc : Sz n c) (hd : Sz n d) (b0 : b ≠ 0) (d0 : d ≠ 0) (hn : n ≤ 4000) :
    ∃ x y, sem_times [fr a b, fr c d] = .ok (fr x y) ∧ Same2 (a * c) (b * d) x y ∧ Sz (n + n) x ∧ Sz (n + n) y := by
  obtain ⟨x, y, h1, h2, h3, h4⟩ := ratio_ok (t := a * c) (Int.mul_ne_zero b0 d0) (sz_mul hb hd) (by omega)
  refine ⟨x, y, ?_, h2, sz_abs (sz_mul ha hc) h3, sz_abs (sz_mul hb hd) h4⟩
  simp [sem_times, runB, sRet, xCall, aCons, aNil, x2, xVar, xC, en, oMul_ok ha hc (show n + n ≤ 999000 by omega), oMul_ok hb hd (show n + n ≤ 999000 by omega), h1]
theorem over_ok (ha : Sz n a) (hb : Sz n b) (hc : Sz n c) (hd : Sz n d) (b0 : b ≠ 0) (c0 : c ≠ 0) (hn : n ≤ 4000) :
    ∃ x y, sem_over [fr a b, fr c d] = .ok (fr x y) ∧ Same2 (a * d) (b * c) x y ∧ Sz (n + n) x ∧ Sz (n + n) y := by
  obtain ⟨x, y, h1, h2, h3, h4⟩ := ratio_ok (t := a * d) (Int.mul_ne_zero b0 c0) (sz_mul hb hc) (by omega)
  refine ⟨x, y, ?_, h2, sz_abs (sz_mul ha hd) h3, sz_abs (sz_mul hb hc) h4⟩
  simp [sem_over, runB, sRet, xCall, aCons, aNil, x2, xVar, xC, en, oMul_ok ha hd (show n + n ≤ 999000 by omega), oMul_ok hb hc (show n + n ≤ 999000 by omega), h1]
end
theorem cell_is (ns : List Int) (k : Nat) : sem__law_cell_at [.scr ns, .int k] = .ok (.int (ns.getD k 0)) := by
  simp [sem__law_cell_at, runB, bSeq, bN, sIf, sRet, en, x2, x1, xVar, xC, tBl, xP]
  by_cases h : k < ns.length
  · simp [h, oIx_scr, atI_nat']
  · simp [h]
theorem kit_int_int : kitB "int" "int" = some true := by decide +kernel
theorem kit_int_bool : kitB "int" "bool" = some false := by decide +kernel
theorem kit_bool_bool : kitB "bool" "bool" = some true := by decide +kernel
theorem kit_tuple_tuple : kitB "tuple" "tuple" = some true := by decide +kernel
theorem kit_list_list : kitB "list" "list" = some true := by decide +kernel
@[simp] theorem isBI_int_int (i : Int) : isBI "int" (.int i) = .ok (.bl true) := by simp [isBI, tyN, kit_int_int]
@[simp] theorem isBI_bool_int (i : Int) : isBI "bool" (.int i) = .ok (.bl false) := by simp [isBI, tyN, kit_int_bool]
@[simp] theorem isBI_bool_bool (i : Bool) : isBI "bool" (.bl i) = .ok (.bl true) := by simp [isBI, tyN, kit_bool_bool]
@[simp] theorem isBI_tuple_tup (x : List D) : isBI "tuple" (.tup x) = .ok (.bl true) := by simp [isBI, tyN, kit_tuple_tuple]
@[simp] theorem isBI_list_lst (x : List D) : isBI "list" (.lst x) = .ok (.bl true) := by simp [isBI, tyN, kit_list_list]
theorem whole_is (i : Int) : sem__law_whole [.int i] = .ok (.bl true) := by
  simp [sem__law_whole, runB, sRet, xP, xAn, xNo, x1, xVar, en]
theorem isfrac_is {a b : Int} (h : Low a b) : sem__law_is_fraction [fr a b] = .ok (.bl true) := by
  simp [sem__law_is_fraction, runB, bSeq, bN, sIf, tOr', tNo, tBl, x1, x2, xVar, xC, en, xCall, aCons, aNil, whole_is, ldivisor_is, sRet, xP, xAn, h.1, h.2]
theorem worth_is {x y t b : Int} {n : Nat} (h : Same2 t b x y) (hx : Sz n x) (hy : Sz n y) (ht : Sz n t) (hb : Sz n b) (hn : n ≤ 9000) : sem__law_worth [fr x y, .int t, .int b] = .ok (.bl true) := by
  have := h.eq
  simp [sem__law_worth, runB, sRet, xP, xAn, xCall, aCons, aNil, x2, xVar, xC, en, isfrac_is h.low, oMul_ok hx hb (show n + n ≤ 999000 by omega), oMul_ok ht hy (show n + n ≤ 999000 by omega), this]
end Ow.Lib
end
section
set_option linter.all false
set_option exponentiation.threshold 100000
set_option maxHeartbeats 2000000
/-! LibF2: the law's made fractions. -/
namespace Ow.Lib
open PySem L2
theorem frby_is (cell k : Int) (hk : Sz 60 k) : ∃ x y, sem__law_fraction_by [.int cell, .int k] = .ok (fr x y) ∧ Low x y ∧ y ≤ 6 ∧ x.natAbs ≤ 10 ^ 9 := by
  obtain ⟨m, hm⟩ : ∃ m, m = cell % 1000000000000000000 + 48271 * (k + 1) := ⟨_, rfl⟩
  have m1 := Int.emod_nonneg cell (show (1000000000000000000 : Int) ≠ 0 by decide)
  have m2 := Int.emod_lt_of_pos cell (show (0 : Int) < 1000000000000000000 by decide)
  have hk' : k.natAbs < 2 ^ 60 := hk
  have mz : Sz 90 m := by show m.natAbs < 2 ^ 90; omega
  have k1 : Sz 61 (k + 1) := by show (k + 1).natAbs < 2 ^ 61; omega
  obtain ⟨u, hu⟩ : ∃ u, u = m * m % 2147483647 := ⟨_, rfl⟩
  have u1 : 0 ≤ u := by rw [hu]; exact Int.emod_nonneg _ (by decide)
  have u2 : u < 2147483647 := by rw [hu]; exact Int.emod_lt_of_pos _ (by decide)
  have c1 : ∀ x : Int, oMod (.int x) (.int 1000000000000000000) = .ok (.int (x % 1000000000000000000)) := fun x => oMod_pos (by decide)
  have c2 : ∀ x : Int, oMod (.int x) (.int 2147483647) = .ok (.int (x % 2147483647)) := fun x => oMod_pos (by decide)
  have c3 : ∀ x : Int, oDiv (.int x) (.int 6) = .ok (.int (x / 6)) := fun x => oDiv_c (by decide) (by decide)
  have c4 : ∀ x : Int, oMod (.int x) (.int 13) = .ok (.int (x % 13)) := fun x => oMod_pos (by decide)
  have c5 : ∀ x : Int, oMod (.int x) (.int 200001) = .ok (.int (x % 200001)) := fun x => oMod_pos (by decide)
  have c6 : ∀ x : Int, oMod (.int x) (.int 2000000000) = .ok (.int (x % 2000000000)) := fun x => oMod_pos (by decide)
  have c7 : ∀ x : Int, oMod (.int x) (.int 3) = .ok (.int (x % 3)) := fun x => oMod_pos (by decide)
  have c8 : ∀ x : Int, oMod (.int x) (.int 6) = .ok (.int (x % 6)) := fun x => oMod_pos (by decide)
  have p1 : oPow (.int 10) (.int 18) = .ok (.int 1000000000000000000) := rfl
  have p2 : oPow (.int 10) (.int 5) = .ok (.int 100000) := rfl
  have p3 : oPow (.int 10) (.int 9) = .ok (.int 1000000000) := rfl
  have d1 : oMul (.int 48271) (.int (k + 1)) = .ok (.int (48271 * (k + 1))) := oMul_ok (n := 61) (by decide) k1 (by decide)
  have d2 : oMul (.int m) (.int m) = .ok (.int (m * m)) := oMul_ok mz mz (by decide)
  have d3 : oMul (.int 2) (.int 1000000000) = .ok (.int 2000000000) := rfl
  obtain ⟨t, ht, t1⟩ : ∃ t : Int, oIx (.lst [.int (u / 6 % 13 - 6), .int (u / 6 % 200001 - 100000), .int (cell % 2000000000 - 1000000000)]) (.int (u / 6 % 3)) = .ok (.int t) ∧ t.natAbs ≤ 10 ^ 9 := by
    have h3 : u / 6 % 3 = 0 ∨ u / 6 % 3 = 1 ∨ u / 6 % 3 = 2 := by omega
    rcases h3 with h | h | h <;> rw [h]
    · exact ⟨_, rfl, by omega⟩
    · exact ⟨_, rfl, by omega⟩
    · exact ⟨_, rfl, by omega⟩
  have b0 : 1 + u % 6 ≠ 0 := by omega
  obtain ⟨x, y, h1, h2, h3, h4⟩ := lowest_ok (t := t) (n := 10) b0 (by show (1 + u % 6).natAbs < 2 ^ 10; omega) (by decide)
  refine ⟨x, y, ?_, h2.low, ?_, Nat.le_trans h3 t1⟩
  · simp [sem__law_fraction_by, runB, bSeq, sSet, x2, xVar, xC, en, c1, p1, setS, d1, ← hm, d2, c2, ← hu, c3, c4, c5, c6, c7, c8, p2, p3, d3, xLst, aCons, aNil, szOk, ht, xP, sRet, xCall, h1]
  · have := h2.low.1
    omega
theorem sz_nine {x : Int} (h : x.natAbs ≤ 10 ^ 9) : Sz 40 x := by show x.natAbs < 2 ^ 40; omega
theorem sz_six {x : Int} (h0 : 0 < x) (h : x ≤ 6) : Sz 40 x := by show x.natAbs < 2 ^ 40; omega
theorem great_is (c d : Int) : ∃ x y, sem__law_great [.int c, .int d] = .ok (fr x y) ∧ Low x y ∧ Sz 210 x ∧ Sz 210 y := by
  have c1 : ∀ x : Int, oMod (.int x) (.int 1999999999999999999999999999999999999999999999999999999999999) = .ok (.int (x % 1999999999999999999999999999999999999999999999999999999999999)) := fun x => oMod_pos (by decide)
  have c2 : ∀ x : Int, oMod (.int x) (.int 999999999999999999999999999999999999999999999999999999999999) = .ok (.int (x % 999999999999999999999999999999999999999999999999999999999999)) := fun x => oMod_pos (by decide)
  have p1 : oPow (.int 10) (.int 60) = .ok (.int 1000000000000000000000000000000000000000000000000000000000000) := rfl
  have d1 : oMul (.int 2) (.int 1000000000000000000000000000000000000000000000000000000000000) = .ok (.int 2000000000000000000000000000000000000000000000000000000000000) := rfl
  have m1 := Int.emod_nonneg c (show (1999999999999999999999999999999999999999999999999999999999999 : Int) ≠ 0 by decide)
  have m2 := Int.emod_lt_of_pos c (show (0 : Int) < 1999999999999999999999999999999999999999999999999999999999999 by decide)
  have m3 := Int.emod_nonneg d (show (999999999999999999999999999999999999999999999999999999999999 : Int) ≠ 0 by decide)
  have m4 := Int.emod_lt_of_pos d (show (0 : Int) < 999999999999999999999999999999999999999999999999999999999999 by decide)
  obtain ⟨t, ht⟩ : ∃ t, t = c % 1999999999999999999999999999999999999999999999999999999999999 - 999999999999999999999999999999999999999999999999999999999999 := ⟨_, rfl⟩
  obtain ⟨b, hb⟩ : ∃ b, b = 1 + d % 999999999999999999999999999999999999999999999999999999999999 := ⟨_, rfl⟩
  have b0 : b ≠ 0 := by omega
  have tz : Sz 210 t := by show t.natAbs < 2 ^ 210; omega
  have bz : Sz 210 b := by show b.natAbs < 2 ^ 210; omega
  obtain ⟨x, y, h1, h2, h3, h4⟩ := lowest_ok (t := t) b0 bz (by decide)
  refine ⟨x, y, ?_, h2.low, sz_abs tz h3, sz_abs bz h4⟩
  simp [sem__law_great, runB, bSeq, sSet, x2, xVar, xC, en, c1, c2, p1, d1, setS, ← ht, ← hb, aCons, aNil, sRet, xCall, h1]
theorem cut63 (ns : List Int) (hl : ns.length ≤ 63) : cutG ns none (some 63) = ns := by
  have := cutG_to ns 63
  rw [List.take_of_length_le hl] at this
  exact this
theorem enum_get {ns : List Int} {k : Nat} {p : Nat × D} (h : (enumD 0 (ns.map D.int))[k]? = some p) : ∃ c, p = (k, .int c) ∧ k < ns.length ∧ ns[k]? = some c := by
  rw [enumD_get, List.getElem?_map] at h
  cases q : ns[k]? with
  | none => rw [q] at h; cases h
  | some c =>
    rw [q] at h
    refine ⟨c, ?_, (List.getElem?_eq_some_iff.mp q).1, rfl⟩
    have := Option.some.inj h
    rw [← this]
    simp
theorem ints_get {ns : List Int} {k : Nat} {p : D} (h : (ns.map D.int)[k]? = some p) : ∃ c, p = .int c ∧ k < ns.length ∧ ns[k]? = some c := by
  rw [List.getElem?_map] at h
  cases q : ns[k]? with
  | none => rw [q] at h; cases h
  | some c =>
    rw [q] at h
    exact ⟨c, (Option.some.inj h).symm, (List.getElem?_eq_some_iff.mp q).1, rfl⟩
@[simp] theorem mk_frfr (a b c d : Int) : mk (.tup [fr a b, fr c d]) = .fz (.tup [fr a b, fr c d]) := rfl
@[simp] theorem mk_frfr' (a b c d : Int) : mk (.tup [.tup [.int a, .int b], .tup [.int c, .int d]]) = .fz (.tup [.tup [.int a, .int b], .tup [.int c, .int d]]) := rfl
end Ow.Lib
end
section
set_option linter.all false
set_option maxRecDepth 100000
set_option maxHeartbeats 4000000
namespace Ow.k03
open PySem L2 PySem.Spec Ow.Lib
def exOk : Nat → Bool := fun c => c == 1
noncomputable def sem__law_refused : List D → Res D := runB 2 (bSeq (sSet 2 (xC .non))
 (bSeq (sTry 3 2 exOk (xCallX semX_over (aCons (xVar 0) (aCons (xVar 1) aNil))))
 (sRet (xP (xAn (x1 (isCl exOk [1]) (xVar 2)) (xNo (x1 (isCl exOk [12, 2, 3]) (xVar 2))))))))
noncomputable def sem__law_fits : List D → Res D := runB 0 (bSeq (sIf (tBl (x2 oEq (x2 oIx (xVar 1) (xC (.int 0))) (xC (.int 0)))) (sRet (xCall sem__law_refused (aCons (xVar 0) (aCons (xVar 1) aNil)))) bN)
 (sRet (xCall sem__law_worth (aCons (xCall sem_over (aCons (xVar 0) (aCons (xVar 1) aNil))) (aCons (x2 oMul (x2 oIx (xVar 0) (xC (.int 0))) (x2 oIx (xVar 1) (xC (.int 1)))) (aCons (x2 oMul (x2 oIx (xVar 0) (xC (.int 1))) (x2 oIx (xVar 1) (xC (.int 0)))) aNil))))))
noncomputable def sem_law : List D → Res D := runB 5 (bSeq (sSet 1 (xTup (aCons (xC (.int 0)) (aCons (xC (.int 1)) aNil))))
 (bSeq (sForE 4 5 (xSl (xVar 0) pN (pS (xC (.int 63)))) (bSeq (sSet 2 (xCall sem__law_fraction_by (aCons (xVar 5) (aCons (xVar 4) aNil))))
 (bSeq (sIf (tBl (x2 oEq (x2 oMod (xVar 5) (xC (.int 7))) (xC (.int 1)))) (sSet 2 (xTup (aCons (xC (.int 0)) (aCons (xC (.int 1)) aNil)))) bN)
 (bSeq (sIf (tOr' (tNo (tBl (xCall sem__law_fits (aCons (xVar 1) (aCons (xVar 2) aNil))))) (tNo (tBl (xCall sem__law_fits (aCons (xVar 2) (aCons (xVar 1) aNil)))))) (sRet (xC (.bl false))) bN)
 (sSet 1 (xP (xVar 2)))))))
 (bSeq (sSet 2 (xCall sem__law_great (aCons (xCall sem__law_cell_at (aCons (xVar 0) (aCons (xC (.int 0)) aNil))) (aCons (xCall sem__law_cell_at (aCons (xVar 0) (aCons (xC (.int 1)) aNil))) aNil))))
 (bSeq (sSet 3 (xCall sem__law_great (aCons (xCall sem__law_cell_at (aCons (xVar 0) (aCons (xC (.int 2)) aNil))) (aCons (xCall sem__law_cell_at (aCons (xVar 0) (aCons (xC (.int 3)) aNil))) aNil))))
 (sRet (xP (xAn (xCall sem__law_fits (aCons (xVar 2) (aCons (xVar 3) aNil))) (xAn (xCall sem__law_fits (aCons (xVar 3) (aCons (xVar 2) aNil))) (xCall sem__law_refused (aCons (xVar 2) (aCons (xTup (aCons (xC (.int 0)) (aCons (xC (.int 1)) aNil))) aNil)))))))))))

end Ow.k03
end
section
set_option linter.all false
set_option exponentiation.threshold 100000
set_option maxHeartbeats 2000000
namespace Ow.k03
open PySem L2 Ow.Lib
theorem overX_nought {a b d : Int} {n : Nat} (ha : Sz n a) (hb : Sz n b) (hd : Sz n d) (hn : n ≤ 2000) : semX_over [fr a b, fr 0 d] = .exc ⟨1, []⟩ := by
  have e1 := oMul_ok ha hd (show n + n ≤ 999000 by omega)
  have e2 : oMul (.int b) (.int 0) = .ok (.int (b * 0)) := oMul_ok hb (m := 1) (by decide) (by omega)
  rw [Int.mul_zero] at e2
  simp [semX_over, semX_ratio, runB, sRet, xCallX, aCons, aNil, x2, xVar, xC, en, e1, e2, bSeq, sIf, tBl, sRaise]
theorem refused_is {a b d : Int} {n : Nat} (ha : Sz n a) (hb : Sz n b) (hd : Sz n d) (hn : n ≤ 2000) : sem__law_refused [fr a b, fr 0 d] = .ok (.bl true) := by
  have h := overX_nought ha hb hd hn
  have i1 : isCl exOk [1] (.exc 1 []) = .ok (.bl true) := by rfl
  have i2 : isCl exOk [12, 2, 3] (.exc 1 []) = .ok (.bl false) := by rfl
  have ex : exOk 1 = true := rfl
  simp [sem__law_refused, runB, bSeq, sSet, xC, en, setS, sTry, xCallX, aCons, aNil, xVar, h, ex, pureDs, sRet, xP, xAn, xNo, x1, i1, i2]
theorem fits_is {a b c d : Int} {n : Nat} (h1 : Low a b) (h2 : Low c d) (ha : Sz n a) (hb : Sz n b) (hc : Sz n c) (hd : Sz n d) (hn : n ≤ 2000) : sem__law_fits [fr a b, fr c d] = .ok (.bl true) := by
  have b0 : b ≠ 0 := by have := h1.1; omega
  have d0 : d ≠ 0 := by have := h2.1; omega
  by_cases hc0 : c = 0
  · subst hc0
    have r := refused_is ha hb hd hn
    simp [sem__law_fits, runB, bSeq, sIf, tBl, x2, xVar, xC, en, sRet, xCall, aCons, aNil, r]
  · obtain ⟨x1, y1, p1, p2, p3, p4⟩ := over_ok ha hb hc hd b0 hc0 (by omega)
    have e1 := oMul_ok ha hd (show n + n ≤ 999000 by omega)
    have e2 := oMul_ok hb hc (show n + n ≤ 999000 by omega)
    have w1 := worth_is p2 p3 (sz_le p4 (by omega)) (sz_mul ha hd) (sz_mul hb hc) (by omega)
    simp [sem__law_fits, runB, bSeq, sIf, tBl, x2, xVar, xC, en, sRet, xCall, aCons, aNil, hc0, bN, p1, e1, e2, w1]
theorem main (ns : List Int) (hl : ns.length ≤ 63) : sem_law [.scr ns] = .ok (.bl true) := by
  have cut := cut63 ns hl
  let b : List Slot → Res Fl := bSeq (sSet 2 (xCall sem__law_fraction_by (aCons (xVar 5) (aCons (xVar 4) aNil))))
   (bSeq (sIf (tBl (x2 oEq (x2 oMod (xVar 5) (xC (.int 7))) (xC (.int 1)))) (sSet 2 (xTup (aCons (xC (.int 0)) (aCons (xC (.int 1)) aNil)))) bN)
   (bSeq (sIf (tOr' (tNo (tBl (xCall sem__law_fits (aCons (xVar 1) (aCons (xVar 2) aNil))))) (tNo (tBl (xCall sem__law_fits (aCons (xVar 2) (aCons (xVar 1) aNil)))))) (sRet (xC (.bl false))) bN)
   (sSet 1 (xP (xVar 2)))))
  obtain ⟨S', e, x, y, s2, s4, s5, rfl, i1, i2, i3, h2, h4, h5⟩ := forS_all (bind := bind2 4 5) (b := b) (fun k S => ∃ x y s2 s4 s5, S = [Slot.fz (.scr ns), .fz (fr x y), s2, .un, s4, s5] ∧ Low x y ∧ Sz 40 x ∧ Sz 40 y ∧ (∀ i, s2.kill i = s2) ∧ (∀ i, s4.kill i = s4) ∧ (∀ i, s5.kill i = s5))
    (enumD 0 (ns.map D.int)) [Slot.fz (.scr ns), .fz (fr 0 1), .un, .un, .un, .un] ⟨0, 1, _, _, _, rfl, ⟨by decide, by decide⟩, by decide, by decide, fun _ => rfl, fun _ => rfl, fun _ => rfl⟩ (by
      rintro k pd S hd ⟨x, y, s2, s4, s5, rfl, lo, xz, yz, h2, h4, h5⟩
      obtain ⟨c, rfl, hk, _⟩ := enum_get hd
      have hk : k < 63 := by omega
      obtain ⟨u, v, f1, f2, f3, f4⟩ := frby_is c (k : Int) (by show (k : Int).natAbs < 2 ^ 60; omega)
      have v0 := f2.1
      have uz : Sz 40 u := by show u.natAbs < 2 ^ 40; omega
      have vz : Sz 40 v := by show v.natAbs < 2 ^ 40; omega
      have c7 : ∀ x : Int, oMod (.int x) (.int 7) = .ok (.int (x % 7)) := fun x => oMod_pos (by decide)
      by_cases h7 : c % 7 = 1
      · have l0 : Low 0 1 := ⟨by decide, by decide⟩
        have g1 := fits_is lo l0 xz yz (by decide) (by decide) (by decide)
        have g2 := fits_is l0 lo (n := 40) (by decide) (by decide) xz yz (by decide)
        refine ⟨_, [Slot.fz (.scr ns), .fz (fr 0 1), .fz (fr 0 1), .un, .fz (.int k), .fz (.int c)], rfl, ?_, 0, 1, _, _, _, rfl, l0, by decide, by decide, fun _ => rfl, fun _ => rfl, fun _ => rfl⟩
        simp [b, bSeq, sSet, xCall, aCons, aNil, xVar, xC, en, f1, setS, h2, h4, h5, x2, c7, h7, sIf, tBl, tOr', tNo, xTup, szOk, g1, g2, bN, xP]
      · have g1 := fits_is lo f2 xz yz uz vz (by decide)
        have g2 := fits_is f2 lo uz vz xz yz (by decide)
        refine ⟨_, [Slot.fz (.scr ns), .fz (fr u v), .fz (fr u v), .un, .fz (.int k), .fz (.int c)], rfl, ?_, u, v, _, _, _, rfl, f2, uz, vz, fun _ => rfl, fun _ => rfl, fun _ => rfl⟩
        simp [b, bSeq, sSet, xCall, aCons, aNil, xVar, xC, en, f1, setS, h2, h4, h5, x2, c7, h7, sIf, tBl, tOr', tNo, xTup, szOk, g1, g2, bN, xP])
  obtain ⟨a1, b1, g1, l1, z1, z2⟩ := great_is (ns.getD 0 0) (ns.getD 1 0)
  obtain ⟨a2, b2, g2, l2, z3, z4⟩ := great_is (ns.getD 2 0) (ns.getD 3 0)
  have w1 := fits_is l1 l2 z1 z2 z3 z4 (by decide)
  have w2 := fits_is l2 l1 z3 z4 z1 z2 (by decide)
  have w3 := refused_is (d := 1) z1 z2 (by decide) (by decide)
  have c0 := cell_is ns 0
  have c1 := cell_is ns 1
  have c2 := cell_is ns 2
  have c3 := cell_is ns 3
  simp at c0 c1 c2 c3 g1 g2 w1 w2 w3
  have e' := e
  simp [b, bSeq] at e'
  unfold sem_law runB
  simp [bSeq, sSet, xCall, aCons, aNil, xVar, xC, en, setS, xTup, szOk, sForE, xSl, pN, pS, cut, e']
  simp [xCall, aCons, aNil, xVar, xC, en, c0, c1, c2, c3, g1, g2, setS, h2, h4, h5, sRet, xP, xAn, w1, w2, w3, xTup, szOk]
end Ow.k03
end
section
set_option linter.all false
set_option maxRecDepth 100000
set_option maxHeartbeats 4000000
namespace Ow.k03
open PySem L2 PySem.Spec Ow.Lib
abbrev topS (i : Nat) : Stmt := PySem.Challenge.pw_standup_k03_quotients.main.body.getD i (.Pass ⟨0, 0, 0, 0⟩)
abbrev st_divisor : Stmt := topS 7
abbrev st_ratio : Stmt := topS 8
abbrev st_over : Stmt := topS 9
abbrev st__law_cell_at : Stmt := topS 11
abbrev st__law_whole : Stmt := topS 12
abbrev st__law_divisor : Stmt := topS 13
abbrev st__law_lowest : Stmt := topS 14
abbrev st__law_is_fraction : Stmt := topS 15
abbrev st__law_fraction_by : Stmt := topS 16
abbrev st__law_great : Stmt := topS 17
abbrev st__law_worth : Stmt := topS 18
abbrev st__law_refused : Stmt := topS 19
abbrev st__law_fits : Stmt := topS 20
abbrev st_law : Stmt := topS 21
structure Txt (K : PySem.W.Frag) (mg : Str → Option Value) (ad : Nat → Addr) (fd : Nat → FuncData) (Y : Cl) : Prop where
  f_divisor : Fun K "divisor" "divisor" st_divisor (ad 0) (fd 0)
  g_divisor : mg "divisor" = some (.ref (ad 0))
  b_divisor : Binds K (fd 0) ["one", "other"] []
  f_ratio : Fun K "ratio" "ratio" st_ratio (ad 1) (fd 1)
  g_ratio : mg "ratio" = some (.ref (ad 1))
  b_ratio : Binds K (fd 1) ["top", "bottom"] []
  f_over : Fun K "over" "over" st_over (ad 2) (fd 2)
  g_over : mg "over" = some (.ref (ad 2))
  b_over : Binds K (fd 2) ["one", "other"] []
  f__law_cell_at : Fun K "_law_cell_at" "_law_cell_at" st__law_cell_at (ad 3) (fd 3)
  g__law_cell_at : mg "_law_cell_at" = some (.ref (ad 3))
  b__law_cell_at : Binds K (fd 3) ["_law_script", "_law_k"] []
  f__law_whole : Fun K "_law_whole" "_law_whole" st__law_whole (ad 4) (fd 4)
  g__law_whole : mg "_law_whole" = some (.ref (ad 4))
  b__law_whole : Binds K (fd 4) ["_law_found"] []
  f__law_divisor : Fun K "_law_divisor" "_law_divisor" st__law_divisor (ad 5) (fd 5)
  g__law_divisor : mg "_law_divisor" = some (.ref (ad 5))
  b__law_divisor : Binds K (fd 5) ["_law_one", "_law_other"] []
  f__law_lowest : Fun K "_law_lowest" "_law_lowest" st__law_lowest (ad 6) (fd 6)
  g__law_lowest : mg "_law_lowest" = some (.ref (ad 6))
  b__law_lowest : Binds K (fd 6) ["_law_top", "_law_bottom"] []
  f__law_is_fraction : Fun K "_law_is_fraction" "_law_is_fraction" st__law_is_fraction (ad 7) (fd 7)
  g__law_is_fraction : mg "_law_is_fraction" = some (.ref (ad 7))
  b__law_is_fraction : Binds K (fd 7) ["_law_found"] []
  f__law_fraction_by : Fun K "_law_fraction_by" "_law_fraction_by" st__law_fraction_by (ad 8) (fd 8)
  g__law_fraction_by : mg "_law_fraction_by" = some (.ref (ad 8))
  b__law_fraction_by : Binds K (fd 8) ["_law_cell", "_law_k"] []
  f__law_great : Fun K "_law_great" "_law_great" st__law_great (ad 9) (fd 9)
  g__law_great : mg "_law_great" = some (.ref (ad 9))
  b__law_great : Binds K (fd 9) ["_law_one", "_law_other"] []
  f__law_worth : Fun K "_law_worth" "_law_worth" st__law_worth (ad 10) (fd 10)
  g__law_worth : mg "_law_worth" = some (.ref (ad 10))
  b__law_worth : Binds K (fd 10) ["_law_found", "_law_top", "_law_bottom"] []
  f__law_refused : Fun K "_law_refused" "_law_refused" st__law_refused (ad 11) (fd 11)
  g__law_refused : mg "_law_refused" = some (.ref (ad 11))
  b__law_refused : Binds K (fd 11) ["_law_one", "_law_other"] []
  f__law_fits : Fun K "_law_fits" "_law_fits" st__law_fits (ad 12) (fd 12)
  g__law_fits : mg "_law_fits" = some (.ref (ad 12))
  b__law_fits : Binds K (fd 12) ["_law_one", "_law_other"] []
  f_law : Fun K "law" "law" st_law (ad 13) (fd 13)
  g_law : mg "law" = some (.ref (ad 13))
  b_law : Binds K (fd 13) ["_law_script"] []
  m_abs : mg "abs" = none
  m_bool : mg "bool" = none
  m_enumerate : mg "enumerate" = none
  m_int : mg "int" = none
  m_isinstance : mg "isinstance" = none
  m_len : mg "len" = none
  m_tuple : mg "tuple" = none
  c_MapError : mg "MapError" = some (.ref (Y.at_ 0))
  c_NoNumber : mg "NoNumber" = some (.ref (Y.at_ 1))
  c_NoOne : mg "NoOne" = some (.ref (Y.at_ 2))
  c_NoTie : mg "NoTie" = some (.ref (Y.at_ 3))
  c_NoMap : mg "NoMap" = some (.ref (Y.at_ 12))
  x_NoNumber : PySem.W.excIn K (Y.at_ 1) [.type "ValueError", .type "Exception", .type "BaseException", .type "object"] "ValueError.__new__" = true
  k_NoNumber : PySem.W.keepIn K (.ref (Y.at_ 1)) = true
  s1_NoNumber : PySem.W.subIn K (.ref (Y.at_ 1)) (.type "BaseException") = some true
  s2_NoNumber : PySem.W.typeIn K (.ref (Y.at_ 1)) = some (.type "type")
  exC : ∀ c, exOk c = true → ExCl K (Y.at_ c)
  exA : ∀ c, c ∈ [1, 2, 3, 12] → ExAsk K Y exOk c
  exV : ExVe K Y exOk
  exM : ∀ c, exOk c = true → PySem.W.exmOne K (.ref (Y.at_ c)) (.ref (Y.at_ 0)) = some true
section
variable {P : Program} {w : World} {K : PySem.W.Frag} {mg : Str → Option Value} {base : Heap} {ad : Nat → Addr} {fd : Nat → FuncData} {Y : Cl}
theorem Txt.r_NoNumber {X : Cx} {ad : Nat → Addr} {fd : Nat → FuncData} (T : Txt X.K X.mg ad fd Y) : Raises X (.ref (Y.at_ 1)) := raises_own T.s1_NoNumber T.s2_NoNumber
theorem sc_divisor : FnScope ["one", "other"] ["one", "other"] (defScope st_divisor) := ⟨rfl, rfl, rfl, by decide +kernel, rfl, by decide +kernel, by decide +kernel⟩
theorem ok_divisor (T : Txt K mg ad fd Y) : FnOk P w K mg base CX0 1 (ad 0) (fd 0) ["one", "other"] (spFn K Y false 2 sem_divisor) :=
  have sc := sc_divisor
  fn0 (M := fun _ => true) T.f_divisor sc rfl rfl fun cdv A outer s H E hr =>
 (b_cons (s_set 0 sc.nd (j_abs rfl T.m_abs (j_var 0)))
 (b_cons (s_set 1 sc.nd (j_abs rfl T.m_abs (j_var 1)))
 (b_cons (s_while PassesOwn.never (t_gt (j_var 1) j_int) (b_one (s_par 0 1 rfl sc.nd (j_var 1) (j_mod (j_var 0) (j_var 1)))))
 (b_one (s_retV 0)))))
theorem sc_ratio : FnScope ["top", "bottom", "by"] ["top", "bottom"] (defScope st_ratio) := ⟨rfl, rfl, rfl, by decide +kernel, rfl, by decide +kernel, by decide +kernel⟩
theorem ok_ratio (T : Txt K mg ad fd Y) : FnOk P w K mg base CX0 2 (ad 1) (fd 1) ["top", "bottom"] (spFn K Y false 2 sem_ratio) :=
  have sc := sc_ratio
  fn0 (M := fun _ => true) T.f_ratio sc rfl rfl fun cdv A outer s H E hr =>
 (b_cons (s_if (t_eq hr (j_var 1) j_int) (b_one s_raise0) b_nil)
 (b_cons (s_set 2 sc.nd (j_call (ok_divisor T) (hr.mono (by decide)) T.g_divisor T.f_divisor.kp T.b_divisor (a_cons (j_var 0) (a_cons (j_var 1) a_nil))))
 (b_cons (s_if (t_lt (j_var 1) j_int) (b_one (s_set 2 sc.nd (j_sub j_int (j_var 2)))) b_nil)
 (b_one (s_ret (jn_tup (an_cons (j_div (j_var 0) (j_var 2)) (an_cons (j_div (j_var 1) (j_var 2)) an_nil))))))))
theorem okX_ratio (T : Txt K mg ad fd Y) : FnOk P w K mg base (L2.CX P w) 2 (ad 1) (fd 1) ["top", "bottom"] (spFn K Y true 2 semX_ratio) :=
  have sc := sc_ratio
  fnX (M := fun _ => true) T.f_ratio sc rfl rfl fun cdv A outer s H E hr =>
  have tk := takes_of rfl rfl rfl rfl
 (b_cons (s_if (t_eq hr (j_var 1) j_int) (b_one (s_raise rfl tk PySem.F.excBase_ValueError T.x_NoNumber T.c_NoNumber T.k_NoNumber T.r_NoNumber)) b_nil)
 (b_cons (s_set 2 sc.nd (j_call (ok_divisor T) (hr.mono (by decide)) T.g_divisor T.f_divisor.kp T.b_divisor (a_cons (j_var 0) (a_cons (j_var 1) a_nil))))
 (b_cons (s_if (t_lt (j_var 1) j_int) (b_one (s_set 2 sc.nd (j_sub j_int (j_var 2)))) b_nil)
 (b_one (s_ret (jn_tup (an_cons (j_div (j_var 0) (j_var 2)) (an_cons (j_div (j_var 1) (j_var 2)) an_nil))))))))
theorem sc_over : FnScope ["one", "other"] ["one", "other"] (defScope st_over) := ⟨rfl, rfl, rfl, by decide +kernel, rfl, by decide +kernel, by decide +kernel⟩
theorem ok_over (T : Txt K mg ad fd Y) : FnOk P w K mg base CX0 3 (ad 2) (fd 2) ["one", "other"] (spFn K Y false 2 sem_over) :=
  have sc := sc_over
  fn0 (M := fun _ => true) T.f_over sc rfl rfl fun cdv A outer s H E hr =>
 (b_one (s_ret (j_call (ok_ratio T) (hr.mono (by decide)) T.g_ratio T.f_ratio.kp T.b_ratio (a_cons (j_mul (j_at (j_var 0) j_int) (j_at (j_var 1) j_int)) (a_cons (j_mul (j_at (j_var 0) j_int) (j_at (j_var 1) j_int)) a_nil)))))
theorem okX_over (T : Txt K mg ad fd Y) : FnOk P w K mg base (L2.CX P w) 3 (ad 2) (fd 2) ["one", "other"] (spFn K Y true 2 semX_over) :=
  have sc := sc_over
  fnX (M := fun _ => true) T.f_over sc rfl rfl fun cdv A outer s H E hr =>
  have tk := takes_of rfl rfl rfl rfl
 (b_one (s_ret (j_callX (okX_ratio T) (hr.mono (by decide)) T.g_ratio T.f_ratio.kp T.b_ratio tk (a_cons (j_mul (j_at (j_var 0) j_int) (j_at (j_var 1) j_int)) (a_cons (j_mul (j_at (j_var 0) j_int) (j_at (j_var 1) j_int)) a_nil)))))
theorem sc__law_cell_at : FnScope ["_law_script", "_law_k"] ["_law_script", "_law_k"] (defScope st__law_cell_at) := ⟨rfl, rfl, rfl, by decide +kernel, rfl, by decide +kernel, by decide +kernel⟩
theorem ok__law_cell_at (T : Txt K mg ad fd Y) : FnOk P w K mg base CX0 1 (ad 3) (fd 3) ["_law_script", "_law_k"] (spFn K Y false 2 sem__law_cell_at) :=
  have sc := sc__law_cell_at
  fn0 (M := fun _ => true) T.f__law_cell_at sc rfl rfl fun cdv A outer s H E hr =>
 (b_cons (s_if (t_lt (j_var 1) (j_len rfl T.m_len (j_var 0))) (b_one (s_ret (j_p (j_at (j_var 0) (j_var 1))))) b_nil)
 (b_one (s_ret j_int)))
theorem sc__law_whole : FnScope ["_law_found"] ["_law_found"] (defScope st__law_whole) := ⟨rfl, rfl, rfl, by decide +kernel, rfl, by decide +kernel, by decide +kernel⟩
theorem ok__law_whole (T : Txt K mg ad fd Y) : FnOk P w K mg base CX0 1 (ad 4) (fd 4) ["_law_found"] (spFn K Y false 1 sem__law_whole) :=
  have sc := sc__law_whole
  fn0 (M := fun _ => true) T.f__law_whole sc rfl rfl fun cdv A outer s H E hr =>
 (b_one (s_ret (j_p (j_and (j_isB rfl T.m_isinstance rfl T.m_int (by decide +kernel) (j_var 0)) (j_one (j_not (j_isB rfl T.m_isinstance rfl T.m_bool (by decide +kernel) (j_var 0))))))))
theorem sc__law_divisor : FnScope ["_law_one", "_law_other"] ["_law_one", "_law_other"] (defScope st__law_divisor) := ⟨rfl, rfl, rfl, by decide +kernel, rfl, by decide +kernel, by decide +kernel⟩
theorem ok__law_divisor (T : Txt K mg ad fd Y) : FnOk P w K mg base CX0 1 (ad 5) (fd 5) ["_law_one", "_law_other"] (spFn K Y false 2 sem__law_divisor) :=
  have sc := sc__law_divisor
  fn0 (M := fun _ => true) T.f__law_divisor sc rfl rfl fun cdv A outer s H E hr =>
 (b_cons (s_set 0 sc.nd (j_abs rfl T.m_abs (j_var 0)))
 (b_cons (s_set 1 sc.nd (j_abs rfl T.m_abs (j_var 1)))
 (b_cons (s_while PassesOwn.never (t_gt (j_var 1) j_int) (b_one (s_par 0 1 rfl sc.nd (j_var 1) (j_mod (j_var 0) (j_var 1)))))
 (b_one (s_retV 0)))))
theorem sc__law_lowest : FnScope ["_law_top", "_law_bottom", "_law_by"] ["_law_top", "_law_bottom"] (defScope st__law_lowest) := ⟨rfl, rfl, rfl, by decide +kernel, rfl, by decide +kernel, by decide +kernel⟩
theorem ok__law_lowest (T : Txt K mg ad fd Y) : FnOk P w K mg base CX0 2 (ad 6) (fd 6) ["_law_top", "_law_bottom"] (spFn K Y false 2 sem__law_lowest) :=
  have sc := sc__law_lowest
  fn0 (M := fun _ => true) T.f__law_lowest sc rfl rfl fun cdv A outer s H E hr =>
 (b_cons (s_set 2 sc.nd (j_call (ok__law_divisor T) (hr.mono (by decide)) T.g__law_divisor T.f__law_divisor.kp T.b__law_divisor (a_cons (j_var 0) (a_cons (j_var 1) a_nil))))
 (b_cons (s_if (t_lt (j_var 1) j_int) (b_one (s_set 2 sc.nd (j_sub j_int (j_var 2)))) b_nil)
 (b_one (s_ret (jn_tup (an_cons (j_div (j_var 0) (j_var 2)) (an_cons (j_div (j_var 1) (j_var 2)) an_nil)))))))
theorem sc__law_is_fraction : FnScope ["_law_found"] ["_law_found"] (defScope st__law_is_fraction) := ⟨rfl, rfl, rfl, by decide +kernel, rfl, by decide +kernel, by decide +kernel⟩
theorem ok__law_is_fraction (T : Txt K mg ad fd Y) : FnOk P w K mg base CX0 2 (ad 7) (fd 7) ["_law_found"] (spFn K Y false 1 sem__law_is_fraction) :=
  have sc := sc__law_is_fraction
  fn0 (M := fun _ => true) T.f__law_is_fraction sc rfl rfl fun cdv A outer s H E hr =>
 (b_cons (s_if (t_w (w_or (t_not (t_val (j_isB rfl T.m_isinstance rfl T.m_tuple (by decide +kernel) (j_var 0)))) (w_or (t_ne hr (j_len rfl T.m_len (j_var 0)) j_int) (w_or (t_not (t_val (j_n (j_call (ok__law_whole T) (hr.mono (by decide)) T.g__law_whole T.f__law_whole.kp T.b__law_whole (a_cons (j_at (j_var 0) j_int) a_nil))))) (w_or1 (t_not (t_val (j_n (j_call (ok__law_whole T) (hr.mono (by decide)) T.g__law_whole T.f__law_whole.kp T.b__law_whole (a_cons (j_at (j_var 0) j_int) a_nil)))))))))) (b_one (s_ret j_bl)) b_nil)
 (b_one (s_ret (j_p (j_and (j_gt (j_at (j_var 0) j_int) j_int) (j_one (j_eq hr (j_n (j_call (ok__law_divisor T) (hr.mono (by decide)) T.g__law_divisor T.f__law_divisor.kp T.b__law_divisor (a_cons (j_at (j_var 0) j_int) (a_cons (j_at (j_var 0) j_int) a_nil)))) j_int)))))))
theorem sc__law_fraction_by : FnScope ["_law_cell", "_law_k", "_law_number", "_law_top"] ["_law_cell", "_law_k"] (defScope st__law_fraction_by) := ⟨rfl, rfl, rfl, by decide +kernel, rfl, by decide +kernel, by decide +kernel⟩
theorem ok__law_fraction_by (T : Txt K mg ad fd Y) : FnOk P w K mg base CX0 3 (ad 8) (fd 8) ["_law_cell", "_law_k"] (spFn K Y false 2 sem__law_fraction_by) :=
  have sc := sc__law_fraction_by
  fn0 (M := fun _ => true) T.f__law_fraction_by sc rfl rfl fun cdv A outer s H E hr =>
 (b_cons (s_set 2 sc.nd (j_add (j_mod (j_var 0) (j_pow j_int j_int)) (j_mul j_int (j_add (j_var 1) j_int))))
 (b_cons (s_set 2 sc.nd (j_mod (j_mul (j_var 2) (j_var 2)) j_int))
 (b_cons (s_set 3 sc.nd (j_p (j_at (j_lst (a_cons (j_sub (j_mod (j_div (j_var 2) j_int) j_int) j_int) (a_cons (j_sub (j_mod (j_div (j_var 2) j_int) j_int) (j_pow j_int j_int)) (a_cons (j_sub (j_mod (j_var 0) (j_mul j_int (j_pow j_int j_int))) (j_pow j_int j_int)) a_nil)))) (j_mod (j_div (j_var 2) j_int) j_int))))
 (b_one (s_ret (j_call (ok__law_lowest T) (hr.mono (by decide)) T.g__law_lowest T.f__law_lowest.kp T.b__law_lowest (a_cons (j_var 3) (a_cons (j_add j_int (j_mod (j_var 2) j_int)) a_nil))))))))
theorem sc__law_great : FnScope ["_law_one", "_law_other", "_law_top"] ["_law_one", "_law_other"] (defScope st__law_great) := ⟨rfl, rfl, rfl, by decide +kernel, rfl, by decide +kernel, by decide +kernel⟩
theorem ok__law_great (T : Txt K mg ad fd Y) : FnOk P w K mg base CX0 3 (ad 9) (fd 9) ["_law_one", "_law_other"] (spFn K Y false 2 sem__law_great) :=
  have sc := sc__law_great
  fn0 (M := fun _ => true) T.f__law_great sc rfl rfl fun cdv A outer s H E hr =>
 (b_cons (s_set 2 sc.nd (j_sub (j_mod (j_var 0) (j_sub (j_mul j_int (j_pow j_int j_int)) j_int)) (j_sub (j_pow j_int j_int) j_int)))
 (b_one (s_ret (j_call (ok__law_lowest T) (hr.mono (by decide)) T.g__law_lowest T.f__law_lowest.kp T.b__law_lowest (a_cons (j_var 2) (a_cons (j_add j_int (j_mod (j_var 1) (j_sub (j_pow j_int j_int) j_int))) a_nil))))))
theorem sc__law_worth : FnScope ["_law_found", "_law_top", "_law_bottom"] ["_law_found", "_law_top", "_law_bottom"] (defScope st__law_worth) := ⟨rfl, rfl, rfl, by decide +kernel, rfl, by decide +kernel, by decide +kernel⟩
theorem ok__law_worth (T : Txt K mg ad fd Y) : FnOk P w K mg base CX0 3 (ad 10) (fd 10) ["_law_found", "_law_top", "_law_bottom"] (spFn K Y false 3 sem__law_worth) :=
  have sc := sc__law_worth
  fn0 (M := fun _ => true) T.f__law_worth sc rfl rfl fun cdv A outer s H E hr =>
 (b_one (s_ret (j_p (j_and (j_n (j_call (ok__law_is_fraction T) (hr.mono (by decide)) T.g__law_is_fraction T.f__law_is_fraction.kp T.b__law_is_fraction (a_cons (j_var 0) a_nil))) (j_one (j_eq hr (j_mul (j_at (j_var 0) j_int) (j_var 2)) (j_mul (j_var 1) (j_at (j_var 0) j_int))))))))
theorem sc__law_refused : FnScope ["_law_one", "_law_other", "_law_caught", "e"] ["_law_one", "_law_other"] (defScope st__law_refused) := ⟨rfl, rfl, rfl, by decide +kernel, rfl, by decide +kernel, by decide +kernel⟩
theorem ok__law_refused (T : Txt K mg ad fd Y) : FnOk P w K mg base CX0 4 (ad 11) (fd 11) ["_law_one", "_law_other"] (spFn K Y false 2 sem__law_refused) :=
  have sc := sc__law_refused
  fn0 (M := fun _ => true) T.f__law_refused sc rfl rfl fun cdv A outer s H E hr =>
 (b_cons (s_set 2 sc.nd j_non)
 (b_cons (s_try (i := 3) (v := 2) rfl rfl rfl sc.nd ⟨rfl, by decide, .inl T.c_MapError⟩ T.exM (fun w pn xe tk => (j_n (j_callX (okX_over T) (hr.mono (by decide)) T.g_over T.f_over.kp T.b_over tk (a_cons (j_var 0) (a_cons (j_var 1) a_nil))))))
 (b_one (s_ret (j_p (j_and (j_isX T.exC (T.exA 1 (by decide)) rfl T.m_isinstance rfl T.c_NoNumber (j_var 2)) (j_one (j_not (j_isT (T.exC) (by intro c hc; exact T.exA c (by revert hc; revert c; decide)) rfl T.m_isinstance (j_var 2) (cs_cons (p1 := _) T.c_NoMap (cs_cons (p1 := _) T.c_NoOne (cs_cons (p1 := _) T.c_NoTie cs_nil))))))))))))
theorem sc__law_fits : FnScope ["_law_one", "_law_other"] ["_law_one", "_law_other"] (defScope st__law_fits) := ⟨rfl, rfl, rfl, by decide +kernel, rfl, by decide +kernel, by decide +kernel⟩
theorem ok__law_fits (T : Txt K mg ad fd Y) : FnOk P w K mg base CX0 5 (ad 12) (fd 12) ["_law_one", "_law_other"] (spFn K Y false 2 sem__law_fits) :=
  have sc := sc__law_fits
  fn0 (M := fun _ => true) T.f__law_fits sc rfl rfl fun cdv A outer s H E hr =>
 (b_cons (s_if (t_eq hr (j_at (j_var 1) j_int) j_int) (b_one (s_ret (j_call (ok__law_refused T) (hr.mono (by decide)) T.g__law_refused T.f__law_refused.kp T.b__law_refused (a_cons (j_var 0) (a_cons (j_var 1) a_nil))))) b_nil)
 (b_one (s_ret (j_call (ok__law_worth T) (hr.mono (by decide)) T.g__law_worth T.f__law_worth.kp T.b__law_worth (a_cons (j_n (j_call (ok_over T) (hr.mono (by decide)) T.g_over T.f_over.kp T.b_over (a_cons (j_var 0) (a_cons (j_var 1) a_nil)))) (a_cons (j_mul (j_at (j_var 0) j_int) (j_at (j_var 1) j_int)) (a_cons (j_mul (j_at (j_var 0) j_int) (j_at (j_var 1) j_int)) a_nil)))))))
theorem sc_law : FnScope ["_law_script", "_law_last", "_law_one", "_law_other", "_law_k", "_law_cell"] ["_law_script"] (defScope st_law) := ⟨rfl, rfl, rfl, by decide +kernel, rfl, by decide +kernel, by decide +kernel⟩
theorem ok_law (T : Txt K mg ad fd Y) : FnOk P w K mg base CX0 6 (ad 13) (fd 13) ["_law_script"] (spFn K Y false 1 sem_law) :=
  have sc := sc_law
  fn0 (M := fun _ => true) T.f_law sc rfl rfl fun cdv A outer s H E hr =>
 (b_cons (s_set 1 sc.nd (jn_tup (an_cons j_int (an_cons j_int an_nil))))
 (b_cons (s_forE 4 5 PassesOwn.never rfl sc.nd T.m_enumerate (j_slice (j_var 0) o_none (o_some j_int)) (b_cons (s_set 2 sc.nd (j_call (ok__law_fraction_by T) (hr.mono (by decide)) T.g__law_fraction_by T.f__law_fraction_by.kp T.b__law_fraction_by (a_cons (j_var 5) (a_cons (j_var 4) a_nil))))
 (b_cons (s_if (t_eq hr (j_mod (j_var 5) j_int) j_int) (b_one (s_set 2 sc.nd (jn_tup (an_cons j_int (an_cons j_int an_nil))))) b_nil)
 (b_cons (s_if (t_w (w_or (t_not (t_val (j_n (j_call (ok__law_fits T) (hr.mono (by decide)) T.g__law_fits T.f__law_fits.kp T.b__law_fits (a_cons (j_var 1) (a_cons (j_var 2) a_nil)))))) (w_or1 (t_not (t_val (j_n (j_call (ok__law_fits T) (hr.mono (by decide)) T.g__law_fits T.f__law_fits.kp T.b__law_fits (a_cons (j_var 2) (a_cons (j_var 1) a_nil))))))))) (b_one (s_ret j_bl)) b_nil)
 (b_one (s_set 1 sc.nd (j_p (j_var 2))))))))
 (b_cons (s_set 2 sc.nd (j_call (ok__law_great T) (hr.mono (by decide)) T.g__law_great T.f__law_great.kp T.b__law_great (a_cons (j_n (j_call (ok__law_cell_at T) (hr.mono (by decide)) T.g__law_cell_at T.f__law_cell_at.kp T.b__law_cell_at (a_cons (j_var 0) (a_cons j_int a_nil)))) (a_cons (j_n (j_call (ok__law_cell_at T) (hr.mono (by decide)) T.g__law_cell_at T.f__law_cell_at.kp T.b__law_cell_at (a_cons (j_var 0) (a_cons j_int a_nil)))) a_nil))))
 (b_cons (s_set 3 sc.nd (j_call (ok__law_great T) (hr.mono (by decide)) T.g__law_great T.f__law_great.kp T.b__law_great (a_cons (j_n (j_call (ok__law_cell_at T) (hr.mono (by decide)) T.g__law_cell_at T.f__law_cell_at.kp T.b__law_cell_at (a_cons (j_var 0) (a_cons j_int a_nil)))) (a_cons (j_n (j_call (ok__law_cell_at T) (hr.mono (by decide)) T.g__law_cell_at T.f__law_cell_at.kp T.b__law_cell_at (a_cons (j_var 0) (a_cons j_int a_nil)))) a_nil))))
 (b_one (s_ret (j_p (j_and (j_n (j_call (ok__law_fits T) (hr.mono (by decide)) T.g__law_fits T.f__law_fits.kp T.b__law_fits (a_cons (j_var 2) (a_cons (j_var 3) a_nil)))) (j_and (j_n (j_call (ok__law_fits T) (hr.mono (by decide)) T.g__law_fits T.f__law_fits.kp T.b__law_fits (a_cons (j_var 3) (a_cons (j_var 2) a_nil)))) (j_one (j_n (j_call (ok__law_refused T) (hr.mono (by decide)) T.g__law_refused T.f__law_refused.kp T.b__law_refused (a_cons (j_var 2) (a_cons (j_tup (a_cons j_int (a_cons j_int a_nil))) a_nil))))))))))))))
end

end Ow.k03
end
section
set_option linter.all false
set_option maxRecDepth 100000
set_option maxHeartbeats 4000000
namespace Ow.k03
open PySem L2 PySem.Spec Ow.Lib
/-- the classes' places -/
def YY (f : Nat → Addr) : Cl := ⟨f, fun i => (match i with | 12 => "place" | 13 => "count" | 14 => "places" | 15 => "row" | _ => "" : String)⟩
def spL (K : PySem.W.Frag) : Sp := fun vs H Q _ => ∃ (a : Addr) (ns : List Int), vs = [.ref a] ∧ SqL K H a (ns.map V.int) ∧ ns.length ≤ 63 ∧ ∀ H', Q (.bl true) H'
theorem hsp {K : PySem.W.Frag} {Y : Cl} {vs : List V} {H : Hp} {Q : VK} {E : XK} (h : spL K vs H Q E) : spFn K Y false 1 sem_law vs H Q E := by
  obtain ⟨a, ns, rfl, hS, hl, k⟩ := h
  refine ⟨[.scr ns], rfl, .cons (.scr hS) .nil, ?_⟩
  rw [main ns hl]
  rintro v H' ⟨_, fp, o, _⟩
  cases o with
  | pur _ r =>
    cases r
    exact k _
theorem all_mk {l : PySem.W.OpenLaw} {w : World} {K : PySem.W.Frag} {h : Heap} {mg : Str → Option Value} {fa : Addr} (X : K.In h) (G : h.Ns mainGlobals mg) (hfa : mg "law" = some (.ref fa))
    {f0 : Addr} {od0 an0 : Option Addr} {sl0 : Array (Option Value)} {oc0 kV0 dc0 pm0 cd0 ct0 : Value}
    {f1 : Addr} {od1 an1 : Option Addr} {sl1 : Array (Option Value)} {oc1 kV1 dc1 pm1 cd1 ct1 : Value}
    {f2 : Addr} {od2 an2 : Option Addr} {sl2 : Array (Option Value)} {oc2 kV2 dc2 pm2 cd2 ct2 : Value}
    {f3 : Addr} {od3 an3 : Option Addr} {sl3 : Array (Option Value)} {oc3 kV3 dc3 pm3 cd3 ct3 : Value}
    {f4 : Addr} {od4 an4 : Option Addr} {sl4 : Array (Option Value)} {oc4 kV4 dc4 pm4 cd4 ct4 : Value}
    {f5 : Addr} {od5 an5 : Option Addr} {sl5 : Array (Option Value)} {oc5 kV5 dc5 pm5 cd5 ct5 : Value}
    {f6 : Addr} {od6 an6 : Option Addr} {sl6 : Array (Option Value)} {oc6 kV6 dc6 pm6 cd6 ct6 : Value}
    {f7 : Addr} {od7 an7 : Option Addr} {sl7 : Array (Option Value)} {oc7 kV7 dc7 pm7 cd7 ct7 : Value}
    {f8 : Addr} {od8 an8 : Option Addr} {sl8 : Array (Option Value)} {oc8 kV8 dc8 pm8 cd8 ct8 : Value}
    {f9 : Addr} {od9 an9 : Option Addr} {sl9 : Array (Option Value)} {oc9 kV9 dc9 pm9 cd9 ct9 : Value}
    {f10 : Addr} {od10 an10 : Option Addr} {sl10 : Array (Option Value)} {oc10 kV10 dc10 pm10 cd10 ct10 : Value}
    {f11 : Addr} {od11 an11 : Option Addr} {sl11 : Array (Option Value)} {oc11 kV11 dc11 pm11 cd11 ct11 : Value}
    {f12 : Addr} {od12 an12 : Option Addr} {sl12 : Array (Option Value)} {oc12 kV12 dc12 pm12 cd12 ct12 : Value}
    {f13 : Addr} {od13 an13 : Option Addr} {sl13 : Array (Option Value)} {oc13 kV13 dc13 pm13 cd13 ct13 : Value}
    {C_MapError : Addr}
    {C_NoNumber : Addr}
    {C_NoOne : Addr}
    {C_NoTie : Addr}
    {C_NoMap : Addr}
    (a0 : PySem.W.nsIn K mainGlobals "divisor" = some (some (.ref f0)))
    (l0 : K.lookup f0 = some ⟨oc0, od0, .func (PySem.W.fnOf "divisor" "divisor" (defArgs st_divisor) (defBody st_divisor) (defScope st_divisor) .none kV0 dc0 pm0 an0 cd0 ct0), sl0⟩)
    (c0 : PySem.W.codeIn K cd0 "divisor" = true)
    (k0 : PySem.W.keepIn K (.ref f0) = true)
    (a1 : PySem.W.nsIn K mainGlobals "ratio" = some (some (.ref f1)))
    (l1 : K.lookup f1 = some ⟨oc1, od1, .func (PySem.W.fnOf "ratio" "ratio" (defArgs st_ratio) (defBody st_ratio) (defScope st_ratio) .none kV1 dc1 pm1 an1 cd1 ct1), sl1⟩)
    (c1 : PySem.W.codeIn K cd1 "ratio" = true)
    (k1 : PySem.W.keepIn K (.ref f1) = true)
    (a2 : PySem.W.nsIn K mainGlobals "over" = some (some (.ref f2)))
    (l2 : K.lookup f2 = some ⟨oc2, od2, .func (PySem.W.fnOf "over" "over" (defArgs st_over) (defBody st_over) (defScope st_over) .none kV2 dc2 pm2 an2 cd2 ct2), sl2⟩)
    (c2 : PySem.W.codeIn K cd2 "over" = true)
    (k2 : PySem.W.keepIn K (.ref f2) = true)
    (a3 : PySem.W.nsIn K mainGlobals "_law_cell_at" = some (some (.ref f3)))
    (l3 : K.lookup f3 = some ⟨oc3, od3, .func (PySem.W.fnOf "_law_cell_at" "_law_cell_at" (defArgs st__law_cell_at) (defBody st__law_cell_at) (defScope st__law_cell_at) .none kV3 dc3 pm3 an3 cd3 ct3), sl3⟩)
    (c3 : PySem.W.codeIn K cd3 "_law_cell_at" = true)
    (k3 : PySem.W.keepIn K (.ref f3) = true)
    (a4 : PySem.W.nsIn K mainGlobals "_law_whole" = some (some (.ref f4)))
    (l4 : K.lookup f4 = some ⟨oc4, od4, .func (PySem.W.fnOf "_law_whole" "_law_whole" (defArgs st__law_whole) (defBody st__law_whole) (defScope st__law_whole) .none kV4 dc4 pm4 an4 cd4 ct4), sl4⟩)
    (c4 : PySem.W.codeIn K cd4 "_law_whole" = true)
    (k4 : PySem.W.keepIn K (.ref f4) = true)
    (a5 : PySem.W.nsIn K mainGlobals "_law_divisor" = some (some (.ref f5)))
    (l5 : K.lookup f5 = some ⟨oc5, od5, .func (PySem.W.fnOf "_law_divisor" "_law_divisor" (defArgs st__law_divisor) (defBody st__law_divisor) (defScope st__law_divisor) .none kV5 dc5 pm5 an5 cd5 ct5), sl5⟩)
    (c5 : PySem.W.codeIn K cd5 "_law_divisor" = true)
    (k5 : PySem.W.keepIn K (.ref f5) = true)
    (a6 : PySem.W.nsIn K mainGlobals "_law_lowest" = some (some (.ref f6)))
    (l6 : K.lookup f6 = some ⟨oc6, od6, .func (PySem.W.fnOf "_law_lowest" "_law_lowest" (defArgs st__law_lowest) (defBody st__law_lowest) (defScope st__law_lowest) .none kV6 dc6 pm6 an6 cd6 ct6), sl6⟩)
    (c6 : PySem.W.codeIn K cd6 "_law_lowest" = true)
    (k6 : PySem.W.keepIn K (.ref f6) = true)
    (a7 : PySem.W.nsIn K mainGlobals "_law_is_fraction" = some (some (.ref f7)))
    (l7 : K.lookup f7 = some ⟨oc7, od7, .func (PySem.W.fnOf "_law_is_fraction" "_law_is_fraction" (defArgs st__law_is_fraction) (defBody st__law_is_fraction) (defScope st__law_is_fraction) .none kV7 dc7 pm7 an7 cd7 ct7), sl7⟩)
    (c7 : PySem.W.codeIn K cd7 "_law_is_fraction" = true)
    (k7 : PySem.W.keepIn K (.ref f7) = true)
    (a8 : PySem.W.nsIn K mainGlobals "_law_fraction_by" = some (some (.ref f8)))
    (l8 : K.lookup f8 = some ⟨oc8, od8, .func (PySem.W.fnOf "_law_fraction_by" "_law_fraction_by" (defArgs st__law_fraction_by) (defBody st__law_fraction_by) (defScope st__law_fraction_by) .none kV8 dc8 pm8 an8 cd8 ct8), sl8⟩)
    (c8 : PySem.W.codeIn K cd8 "_law_fraction_by" = true)
    (k8 : PySem.W.keepIn K (.ref f8) = true)
    (a9 : PySem.W.nsIn K mainGlobals "_law_great" = some (some (.ref f9)))
    (l9 : K.lookup f9 = some ⟨oc9, od9, .func (PySem.W.fnOf "_law_great" "_law_great" (defArgs st__law_great) (defBody st__law_great) (defScope st__law_great) .none kV9 dc9 pm9 an9 cd9 ct9), sl9⟩)
    (c9 : PySem.W.codeIn K cd9 "_law_great" = true)
    (k9 : PySem.W.keepIn K (.ref f9) = true)
    (a10 : PySem.W.nsIn K mainGlobals "_law_worth" = some (some (.ref f10)))
    (l10 : K.lookup f10 = some ⟨oc10, od10, .func (PySem.W.fnOf "_law_worth" "_law_worth" (defArgs st__law_worth) (defBody st__law_worth) (defScope st__law_worth) .none kV10 dc10 pm10 an10 cd10 ct10), sl10⟩)
    (c10 : PySem.W.codeIn K cd10 "_law_worth" = true)
    (k10 : PySem.W.keepIn K (.ref f10) = true)
    (a11 : PySem.W.nsIn K mainGlobals "_law_refused" = some (some (.ref f11)))
    (l11 : K.lookup f11 = some ⟨oc11, od11, .func (PySem.W.fnOf "_law_refused" "_law_refused" (defArgs st__law_refused) (defBody st__law_refused) (defScope st__law_refused) .none kV11 dc11 pm11 an11 cd11 ct11), sl11⟩)
    (c11 : PySem.W.codeIn K cd11 "_law_refused" = true)
    (k11 : PySem.W.keepIn K (.ref f11) = true)
    (a12 : PySem.W.nsIn K mainGlobals "_law_fits" = some (some (.ref f12)))
    (l12 : K.lookup f12 = some ⟨oc12, od12, .func (PySem.W.fnOf "_law_fits" "_law_fits" (defArgs st__law_fits) (defBody st__law_fits) (defScope st__law_fits) .none kV12 dc12 pm12 an12 cd12 ct12), sl12⟩)
    (c12 : PySem.W.codeIn K cd12 "_law_fits" = true)
    (k12 : PySem.W.keepIn K (.ref f12) = true)
    (a13 : PySem.W.nsIn K mainGlobals "law" = some (some (.ref f13)))
    (l13 : K.lookup f13 = some ⟨oc13, od13, .func (PySem.W.fnOf "law" "law" (defArgs st_law) (defBody st_law) (defScope st_law) .none kV13 dc13 pm13 an13 cd13 ct13), sl13⟩)
    (c13 : PySem.W.codeIn K cd13 "law" = true)
    (k13 : PySem.W.keepIn K (.ref f13) = true)
    (z_abs : PySem.W.nsIn K mainGlobals "abs" = some none)
    (z_bool : PySem.W.nsIn K mainGlobals "bool" = some none)
    (z_enumerate : PySem.W.nsIn K mainGlobals "enumerate" = some none)
    (z_int : PySem.W.nsIn K mainGlobals "int" = some none)
    (z_isinstance : PySem.W.nsIn K mainGlobals "isinstance" = some none)
    (z_len : PySem.W.nsIn K mainGlobals "len" = some none)
    (z_tuple : PySem.W.nsIn K mainGlobals "tuple" = some none)
    (g_MapError : PySem.W.nsIn K mainGlobals "MapError" = some (some (.ref C_MapError)))
    (g_NoNumber : PySem.W.nsIn K mainGlobals "NoNumber" = some (some (.ref C_NoNumber)))
    (g_NoOne : PySem.W.nsIn K mainGlobals "NoOne" = some (some (.ref C_NoOne)))
    (g_NoTie : PySem.W.nsIn K mainGlobals "NoTie" = some (some (.ref C_NoTie)))
    (g_NoMap : PySem.W.nsIn K mainGlobals "NoMap" = some (some (.ref C_NoMap)))
    (x_NoNumber : PySem.W.excIn K C_NoNumber [.type "ValueError", .type "Exception", .type "BaseException", .type "object"] "ValueError.__new__" = true)
    (k_NoNumber : PySem.W.keepIn K (.ref C_NoNumber) = true)
    (s1_NoNumber : PySem.W.subIn K (.ref C_NoNumber) (.type "BaseException") = some true)
    (s2_NoNumber : PySem.W.typeIn K (.ref C_NoNumber) = some (.type "type"))
    (ecl_NoNumber : (PySem.W.clsIn K C_NoNumber).isSome = true)
    (ega_NoNumber : PySem.W.findIn K (.ref C_NoNumber) "__getattribute__" = some (some (.builtin "BaseException.__getattribute__")))
    (egt_NoNumber : PySem.W.findIn K (.ref C_NoNumber) "__getattr__" = some none)
    (esub_NoNumber : PySem.W.subIn K (.ref C_NoNumber) (.type "BaseException") = some true)
    (eca_NoNumber : PySem.W.findIn K (.ref C_NoNumber) "__class__" = some (some (.builtin "object.__class__")))
    (ecn_NoNumber : PySem.W.specialIn K (.builtin "object.__class__") "__get__" = some (some (.builtin "getset_descriptor.__get__")))
    (ect_NoNumber : PySem.W.takesIn K (.builtin "object.__class__") = some true)
    (ecm_NoNumber : PySem.W.mroIn K C_NoNumber (.type "object") = some true)
    (n_NoMap : PySem.W.kitOne K (.type "NoneType") (.ref C_NoMap) = some false)
    (q_NoMap_NoNumber : PySem.W.kitOne K (.ref C_NoNumber) (.ref C_NoMap) = some false)
    (n_NoNumber : PySem.W.kitOne K (.type "NoneType") (.ref C_NoNumber) = some false)
    (q_NoNumber_NoNumber : PySem.W.kitOne K (.ref C_NoNumber) (.ref C_NoNumber) = some true)
    (n_NoOne : PySem.W.kitOne K (.type "NoneType") (.ref C_NoOne) = some false)
    (q_NoOne_NoNumber : PySem.W.kitOne K (.ref C_NoNumber) (.ref C_NoOne) = some false)
    (n_NoTie : PySem.W.kitOne K (.type "NoneType") (.ref C_NoTie) = some false)
    (q_NoTie_NoNumber : PySem.W.kitOne K (.ref C_NoNumber) (.ref C_NoTie) = some false)
    (nV : PySem.W.kitOne K (.type "NoneType") (.type "ValueError") = some false)
    (v_NoNumber : PySem.W.kitOne K (.ref C_NoNumber) (.type "ValueError") = some true)
    (m_NoNumber : PySem.W.exmOne K (.ref C_NoNumber) (.ref C_MapError) = some true) :
    ∃ fd : FuncData, (∀ (s : Shared) (v : Value), BindsTo s fd ⟨[v], []⟩ [("_law_script", v)]) ∧ ∀ base : Heap, K.In base → base.Ns mainGlobals mg → FnOk l.prog w K mg base CX0 6 fa fd ["_law_script"] (spL K) := by
  have e := hfa.symm.trans (PySem.W.mg_of X G a13)
  cases e
  have F0 := fun_mk (st := st_divisor) l0 c0 k0
  have F1 := fun_mk (st := st_ratio) l1 c1 k1
  have F2 := fun_mk (st := st_over) l2 c2 k2
  have F3 := fun_mk (st := st__law_cell_at) l3 c3 k3
  have F4 := fun_mk (st := st__law_whole) l4 c4 k4
  have F5 := fun_mk (st := st__law_divisor) l5 c5 k5
  have F6 := fun_mk (st := st__law_lowest) l6 c6 k6
  have F7 := fun_mk (st := st__law_is_fraction) l7 c7 k7
  have F8 := fun_mk (st := st__law_fraction_by) l8 c8 k8
  have F9 := fun_mk (st := st__law_great) l9 c9 k9
  have F10 := fun_mk (st := st__law_worth) l10 c10 k10
  have F11 := fun_mk (st := st__law_refused) l11 c11 k11
  have F12 := fun_mk (st := st__law_fits) l12 c12 k12
  have F13 := fun_mk (st := st_law) l13 c13 k13
  have T : Txt K mg (fun i => match i with | 0 => f0 | 1 => f1 | 2 => f2 | 3 => f3 | 4 => f4 | 5 => f5 | 6 => f6 | 7 => f7 | 8 => f8 | 9 => f9 | 10 => f10 | 11 => f11 | 12 => f12 | 13 => fa | _ => 0) (fun i => match i with | 0 => PySem.W.fnOf "divisor" "divisor" (defArgs st_divisor) (defBody st_divisor) (defScope st_divisor) .none kV0 dc0 pm0 an0 cd0 ct0 | 1 => PySem.W.fnOf "ratio" "ratio" (defArgs st_ratio) (defBody st_ratio) (defScope st_ratio) .none kV1 dc1 pm1 an1 cd1 ct1 | 2 => PySem.W.fnOf "over" "over" (defArgs st_over) (defBody st_over) (defScope st_over) .none kV2 dc2 pm2 an2 cd2 ct2 | 3 => PySem.W.fnOf "_law_cell_at" "_law_cell_at" (defArgs st__law_cell_at) (defBody st__law_cell_at) (defScope st__law_cell_at) .none kV3 dc3 pm3 an3 cd3 ct3 | 4 => PySem.W.fnOf "_law_whole" "_law_whole" (defArgs st__law_whole) (defBody st__law_whole) (defScope st__law_whole) .none kV4 dc4 pm4 an4 cd4 ct4 | 5 => PySem.W.fnOf "_law_divisor" "_law_divisor" (defArgs st__law_divisor) (defBody st__law_divisor) (defScope st__law_divisor) .none kV5 dc5 pm5 an5 cd5 ct5 | 6 => PySem.W.fnOf "_law_lowest" "_law_lowest" (defArgs st__law_lowest) (defBody st__law_lowest) (defScope st__law_lowest) .none kV6 dc6 pm6 an6 cd6 ct6 | 7 => PySem.W.fnOf "_law_is_fraction" "_law_is_fraction" (defArgs st__law_is_fraction) (defBody st__law_is_fraction) (defScope st__law_is_fraction) .none kV7 dc7 pm7 an7 cd7 ct7 | 8 => PySem.W.fnOf "_law_fraction_by" "_law_fraction_by" (defArgs st__law_fraction_by) (defBody st__law_fraction_by) (defScope st__law_fraction_by) .none kV8 dc8 pm8 an8 cd8 ct8 | 9 => PySem.W.fnOf "_law_great" "_law_great" (defArgs st__law_great) (defBody st__law_great) (defScope st__law_great) .none kV9 dc9 pm9 an9 cd9 ct9 | 10 => PySem.W.fnOf "_law_worth" "_law_worth" (defArgs st__law_worth) (defBody st__law_worth) (defScope st__law_worth) .none kV10 dc10 pm10 an10 cd10 ct10 | 11 => PySem.W.fnOf "_law_refused" "_law_refused" (defArgs st__law_refused) (defBody st__law_refused) (defScope st__law_refused) .none kV11 dc11 pm11 an11 cd11 ct11 | 12 => PySem.W.fnOf "_law_fits" "_law_fits" (defArgs st__law_fits) (defBody st__law_fits) (defScope st__law_fits) .none kV12 dc12 pm12 an12 cd12 ct12 | 13 => PySem.W.fnOf "law" "law" (defArgs st_law) (defBody st_law) (defScope st_law) .none kV13 dc13 pm13 an13 cd13 ct13 | _ => PySem.W.fnOf "law" "law" (defArgs st_law) (defBody st_law) (defScope st_law) .none kV13 dc13 pm13 an13 cd13 ct13) (YY (fun i => match i with | 0 => C_MapError | 1 => C_NoNumber | 2 => C_NoOne | 3 => C_NoTie | 12 => C_NoMap | _ => 0)) :=
    { f_divisor := F0
      g_divisor := PySem.W.mg_of X G a0
      b_divisor := F0.binds (ps := ["one", "other"]) fun _ _ _ _ _ _ us hl => match us, hl with | [_, _], _ => rfl
      f_ratio := F1
      g_ratio := PySem.W.mg_of X G a1
      b_ratio := F1.binds (ps := ["top", "bottom"]) fun _ _ _ _ _ _ us hl => match us, hl with | [_, _], _ => rfl
      f_over := F2
      g_over := PySem.W.mg_of X G a2
      b_over := F2.binds (ps := ["one", "other"]) fun _ _ _ _ _ _ us hl => match us, hl with | [_, _], _ => rfl
      f__law_cell_at := F3
      g__law_cell_at := PySem.W.mg_of X G a3
      b__law_cell_at := F3.binds (ps := ["_law_script", "_law_k"]) fun _ _ _ _ _ _ us hl => match us, hl with | [_, _], _ => rfl
      f__law_whole := F4
      g__law_whole := PySem.W.mg_of X G a4
      b__law_whole := F4.binds (ps := ["_law_found"]) fun _ _ _ _ _ _ us hl => match us, hl with | [_], _ => rfl
      f__law_divisor := F5
      g__law_divisor := PySem.W.mg_of X G a5
      b__law_divisor := F5.binds (ps := ["_law_one", "_law_other"]) fun _ _ _ _ _ _ us hl => match us, hl with | [_, _], _ => rfl
      f__law_lowest := F6
      g__law_lowest := PySem.W.mg_of X G a6
      b__law_lowest := F6.binds (ps := ["_law_top", "_law_bottom"]) fun _ _ _ _ _ _ us hl => match us, hl with | [_, _], _ => rfl
      f__law_is_fraction := F7
      g__law_is_fraction := PySem.W.mg_of X G a7
      b__law_is_fraction := F7.binds (ps := ["_law_found"]) fun _ _ _ _ _ _ us hl => match us, hl with | [_], _ => rfl
      f__law_fraction_by := F8
      g__law_fraction_by := PySem.W.mg_of X G a8
      b__law_fraction_by := F8.binds (ps := ["_law_cell", "_law_k"]) fun _ _ _ _ _ _ us hl => match us, hl with | [_, _], _ => rfl
      f__law_great := F9
      g__law_great := PySem.W.mg_of X G a9
      b__law_great := F9.binds (ps := ["_law_one", "_law_other"]) fun _ _ _ _ _ _ us hl => match us, hl with | [_, _], _ => rfl
      f__law_worth := F10
      g__law_worth := PySem.W.mg_of X G a10
      b__law_worth := F10.binds (ps := ["_law_found", "_law_top", "_law_bottom"]) fun _ _ _ _ _ _ us hl => match us, hl with | [_, _, _], _ => rfl
      f__law_refused := F11
      g__law_refused := PySem.W.mg_of X G a11
      b__law_refused := F11.binds (ps := ["_law_one", "_law_other"]) fun _ _ _ _ _ _ us hl => match us, hl with | [_, _], _ => rfl
      f__law_fits := F12
      g__law_fits := PySem.W.mg_of X G a12
      b__law_fits := F12.binds (ps := ["_law_one", "_law_other"]) fun _ _ _ _ _ _ us hl => match us, hl with | [_, _], _ => rfl
      f_law := F13
      g_law := PySem.W.mg_of X G a13
      b_law := F13.binds (ps := ["_law_script"]) fun _ _ _ _ _ _ us hl => match us, hl with | [_], _ => rfl
      m_abs := PySem.W.mg_none_of X G z_abs
      m_bool := PySem.W.mg_none_of X G z_bool
      m_enumerate := PySem.W.mg_none_of X G z_enumerate
      m_int := PySem.W.mg_none_of X G z_int
      m_isinstance := PySem.W.mg_none_of X G z_isinstance
      m_len := PySem.W.mg_none_of X G z_len
      m_tuple := PySem.W.mg_none_of X G z_tuple
      c_MapError := PySem.W.mg_of X G g_MapError
      c_NoNumber := PySem.W.mg_of X G g_NoNumber
      c_NoOne := PySem.W.mg_of X G g_NoOne
      c_NoTie := PySem.W.mg_of X G g_NoTie
      c_NoMap := PySem.W.mg_of X G g_NoMap
      x_NoNumber := x_NoNumber
      k_NoNumber := k_NoNumber
      s1_NoNumber := s1_NoNumber
      s2_NoNumber := s2_NoNumber
      exC := fun c hc => by
        have hc' : c = 1 := by simpa [exOk] using hc
        rcases hc' with rfl
        · exact ⟨ecl_NoNumber, ega_NoNumber, egt_NoNumber, esub_NoNumber, eca_NoNumber, ecn_NoNumber, ect_NoNumber, ecm_NoNumber⟩
      exA := fun c hc => by
        have hc' : c = 1 ∨ c = 2 ∨ c = 3 ∨ c = 12 := by simpa using hc
        rcases hc' with rfl | rfl | rfl | rfl
        · exact ⟨n_NoNumber, fun c hc => by
            have hc' : c = 1 := by simpa [exOk] using hc
            rcases hc' with rfl
            · exact q_NoNumber_NoNumber⟩
        · exact ⟨n_NoOne, fun c hc => by
            have hc' : c = 1 := by simpa [exOk] using hc
            rcases hc' with rfl
            · exact q_NoOne_NoNumber⟩
        · exact ⟨n_NoTie, fun c hc => by
            have hc' : c = 1 := by simpa [exOk] using hc
            rcases hc' with rfl
            · exact q_NoTie_NoNumber⟩
        · exact ⟨n_NoMap, fun c hc => by
            have hc' : c = 1 := by simpa [exOk] using hc
            rcases hc' with rfl
            · exact q_NoMap_NoNumber⟩
      exV := ⟨nV, fun c hc => by
        have hc' : c = 1 := by simpa [exOk] using hc
        rcases hc' with rfl
        · exact v_NoNumber⟩
      exM := fun c hc => by
        have hc' : c = 1 := by simpa [exOk] using hc
        rcases hc' with rfl
        · exact m_NoNumber }
  exact ⟨PySem.W.fnOf "law" "law" (defArgs st_law) (defBody st_law) (defScope st_law) .none kV13 dc13 pm13 an13 cd13 ct13, fun s v => .of_eq rfl, fun base _ _ => (ok_law (P := l.prog) (w := w) (base := base) T).imp fun vs H Q E h => hsp h⟩

end Ow.k03
end
section
open PySem PySem.W PyProof.Rows in
set_option maxRecDepth 100000 in
set_option maxHeartbeats 0 in
theorem PySem.Challenge.cw_standup_k03_quotients_holds : PySem.Challenge.rw_standup_k03_quotients.Holds := by
  w_on; o_law; k_head; (case hw => w_witness2)
  k_fill
  refine L2.walk_of (l := PySem.Challenge.rw_standup_k03_quotients) (n := 63) (k := 6) (x := "_law_script") (CX := fun _ => L2.CX0) (sp := fun w => Ow.k03.spL _) rfl (by decide) rfl ⟨rfl, by decide, by decide⟩ (fun w h Y => PySem.W.kIn_of Y) ?F (fun _ _ a ns hl _ hS => ⟨a, ns, rfl, hS, hl, fun _ => rfl⟩) (fun _ _ _ _ _ h => h)
  case F =>
    intro w mg fa h KX G hmg
    refine' Ow.k03.all_mk KX G hmg ?a0 ?l0 ?c0 ?k0 ?a1 ?l1 ?c1 ?k1 ?a2 ?l2 ?c2 ?k2 ?a3 ?l3 ?c3 ?k3 ?a4 ?l4 ?c4 ?k4 ?a5 ?l5 ?c5 ?k5 ?a6 ?l6 ?c6 ?k6 ?a7 ?l7 ?c7 ?k7 ?a8 ?l8 ?c8 ?k8 ?a9 ?l9 ?c9 ?k9 ?a10 ?l10 ?c10 ?k10 ?a11 ?l11 ?c11 ?k11 ?a12 ?l12 ?c12 ?k12 ?a13 ?l13 ?c13 ?k13 ?z_abs ?z_bool ?z_enumerate ?z_int ?z_isinstance ?z_len ?z_tuple ?g_MapError ?g_NoNumber ?g_NoOne ?g_NoTie ?g_NoMap ?x_NoNumber ?k_NoNumber ?s1_NoNumber ?s2_NoNumber ?ecl_NoNumber ?ega_NoNumber ?egt_NoNumber ?esub_NoNumber ?eca_NoNumber ?ecn_NoNumber ?ect_NoNumber ?ecm_NoNumber ?n_NoMap ?q_NoMap_NoNumber ?n_NoNumber ?q_NoNumber_NoNumber ?n_NoOne ?q_NoOne_NoNumber ?n_NoTie ?q_NoTie_NoNumber ?nV ?v_NoNumber ?m_NoNumber
    (case a0 => first | k_is | kit_is | (with_unfolding_all rfl))
    (case l0 => first | k_is | kit_is | (with_unfolding_all rfl))
    (case c0 => first | k_is | kit_is | (with_unfolding_all rfl))
    (case k0 => first | k_is | kit_is | (with_unfolding_all rfl))
    (case a1 => first | k_is | kit_is | (with_unfolding_all rfl))
    (case l1 => first | k_is | kit_is | (with_unfolding_all rfl))
    (case c1 => first | k_is | kit_is | (with_unfolding_all rfl))
    (case k1 => first | k_is | kit_is | (with_unfolding_all rfl))
    (case a2 => first | k_is | kit_is | (with_unfolding_all rfl))
    (case l2 => first | k_is | kit_is | (with_unfolding_all rfl))
    (case c2 => first | k_is | kit_is | (with_unfolding_all rfl))
    (case k2 => first | k_is | kit_is | (with_unfolding_all rfl))
    (case a3 => first | k_is | kit_is | (with_unfolding_all rfl))
    (case l3 => first | k_is | kit_is | (with_unfolding_all rfl))
    (case c3 => first | k_is | kit_is | (with_unfolding_all rfl))
    (case k3 => first | k_is | kit_is | (with_unfolding_all rfl))
    (case a4 => first | k_is | kit_is | (with_unfolding_all rfl))
    (case l4 => first | k_is | kit_is | (with_unfolding_all rfl))
    (case c4 => first | k_is | kit_is | (with_unfolding_all rfl))
    (case k4 => first | k_is | kit_is | (with_unfolding_all rfl))
    (case a5 => first | k_is | kit_is | (with_unfolding_all rfl))
    (case l5 => first | k_is | kit_is | (with_unfolding_all rfl))
    (case c5 => first | k_is | kit_is | (with_unfolding_all rfl))
    (case k5 => first | k_is | kit_is | (with_unfolding_all rfl))
    (case a6 => first | k_is | kit_is | (with_unfolding_all rfl))
    (case l6 => first | k_is | kit_is | (with_unfolding_all rfl))
    (case c6 => first | k_is | kit_is | (with_unfolding_all rfl))
    (case k6 => first | k_is | kit_is | (with_unfolding_all rfl))
    (case a7 => first | k_is | kit_is | (with_unfolding_all rfl))
    (case l7 => first | k_is | kit_is | (with_unfolding_all rfl))
    (case c7 => first | k_is | kit_is | (with_unfolding_all rfl))
    (case k7 => first | k_is | kit_is | (with_unfolding_all rfl))
    (case a8 => first | k_is | kit_is | (with_unfolding_all rfl))
    (case l8 => first | k_is | kit_is | (with_unfolding_all rfl))
    (case c8 => first | k_is | kit_is | (with_unfolding_all rfl))
    (case k8 => first | k_is | kit_is | (with_unfolding_all rfl))
    (case a9 => first | k_is | kit_is | (with_unfolding_all rfl))
    (case l9 => first | k_is | kit_is | (with_unfolding_all rfl))
    (case c9 => first | k_is | kit_is | (with_unfolding_all rfl))
    (case k9 => first | k_is | kit_is | (with_unfolding_all rfl))
    (case a10 => first | k_is | kit_is | (with_unfolding_all rfl))
    (case l10 => first | k_is | kit_is | (with_unfolding_all rfl))
    (case c10 => first | k_is | kit_is | (with_unfolding_all rfl))
    (case k10 => first | k_is | kit_is | (with_unfolding_all rfl))
    (case a11 => first | k_is | kit_is | (with_unfolding_all rfl))
    (case l11 => first | k_is | kit_is | (with_unfolding_all rfl))
    (case c11 => first | k_is | kit_is | (with_unfolding_all rfl))
    (case k11 => first | k_is | kit_is | (with_unfolding_all rfl))
    (case a12 => first | k_is | kit_is | (with_unfolding_all rfl))
    (case l12 => first | k_is | kit_is | (with_unfolding_all rfl))
    (case c12 => first | k_is | kit_is | (with_unfolding_all rfl))
    (case k12 => first | k_is | kit_is | (with_unfolding_all rfl))
    (case a13 => first | k_is | kit_is | (with_unfolding_all rfl))
    (case l13 => first | k_is | kit_is | (with_unfolding_all rfl))
    (case c13 => first | k_is | kit_is | (with_unfolding_all rfl))
    (case k13 => first | k_is | kit_is | (with_unfolding_all rfl))
    (case z_abs => first | k_is | kit_is | (with_unfolding_all rfl))
    (case z_bool => first | k_is | kit_is | (with_unfolding_all rfl))
    (case z_enumerate => first | k_is | kit_is | (with_unfolding_all rfl))
    (case z_int => first | k_is | kit_is | (with_unfolding_all rfl))
    (case z_isinstance => first | k_is | kit_is | (with_unfolding_all rfl))
    (case z_len => first | k_is | kit_is | (with_unfolding_all rfl))
    (case z_tuple => first | k_is | kit_is | (with_unfolding_all rfl))
    (case g_MapError => first | k_is | kit_is | (with_unfolding_all rfl))
    (case g_NoNumber => first | k_is | kit_is | (with_unfolding_all rfl))
    (case g_NoOne => first | k_is | kit_is | (with_unfolding_all rfl))
    (case g_NoTie => first | k_is | kit_is | (with_unfolding_all rfl))
    (case g_NoMap => first | k_is | kit_is | (with_unfolding_all rfl))
    (case x_NoNumber => first | k_is | kit_is | (with_unfolding_all rfl))
    (case k_NoNumber => first | k_is | kit_is | (with_unfolding_all rfl))
    (case s1_NoNumber => first | k_is | kit_is | (with_unfolding_all rfl))
    (case s2_NoNumber => first | k_is | kit_is | (with_unfolding_all rfl))
    (case ecl_NoNumber => first | k_is | kit_is | (with_unfolding_all rfl))
    (case ega_NoNumber => first | k_is | kit_is | (with_unfolding_all rfl))
    (case egt_NoNumber => first | k_is | kit_is | (with_unfolding_all rfl))
    (case esub_NoNumber => first | k_is | kit_is | (with_unfolding_all rfl))
    (case eca_NoNumber => first | k_is | kit_is | (with_unfolding_all rfl))
    (case ecn_NoNumber => first | k_is | kit_is | (with_unfolding_all rfl))
    (case ect_NoNumber => first | k_is | kit_is | (with_unfolding_all rfl))
    (case ecm_NoNumber => first | k_is | kit_is | (with_unfolding_all rfl))
    (case n_NoMap => first | k_is | kit_is | (with_unfolding_all rfl))
    (case q_NoMap_NoNumber => first | k_is | kit_is | (with_unfolding_all rfl))
    (case n_NoNumber => first | k_is | kit_is | (with_unfolding_all rfl))
    (case q_NoNumber_NoNumber => first | k_is | kit_is | (with_unfolding_all rfl))
    (case n_NoOne => first | k_is | kit_is | (with_unfolding_all rfl))
    (case q_NoOne_NoNumber => first | k_is | kit_is | (with_unfolding_all rfl))
    (case n_NoTie => first | k_is | kit_is | (with_unfolding_all rfl))
    (case q_NoTie_NoNumber => first | k_is | kit_is | (with_unfolding_all rfl))
    (case nV => first | k_is | kit_is | (with_unfolding_all rfl))
    (case v_NoNumber => first | k_is | kit_is | (with_unfolding_all rfl))
    (case m_NoNumber => first | k_is | kit_is | (with_unfolding_all rfl))
end
