import PyProof.Rows.All
import Wide.All
import OpenK.AllK
import Wide.FinOn
import HandS.ForMost
import HandS.ForExc
import HandS.IsInst
import HandS.TupAny
import HandS.Wide
import HandS.Style
import HandS.Text
import HandS.ExcOwn
import HandS.CallSlots
import HandS.Defaults
import HandS.Iter
import HandS.Comp
import HandS.ExcInit
import HandS.NestedK
import HandS.FStr
import HandS.ClsMeth
import KE.KExcSuper
import HandS.TryMany
import HandS.ExcIs
import KE.KExcIs
import HandS.WideBits
import HandS.Deep
import HandS.WordsDict
import PyProof.Rows.SeqMore
import KE.GoesEnum
import KE.KSuper
import HandS.HeadHook3
import HandS.EndBits
import HandS.HeadEnd
import HandS.HeadNt
import KE.KStateDown
import HandS.Head0
import HandS.Head1
import HandS.Head2
import PySem.Challenge.RW_bargainhall_k07_whole_trees
set_option Elab.async false
set_option linter.all false
set_option maxRecDepth 100000
section PdA_text
set_option maxHeartbeats 4000000
namespace Pd
open PySem PySem.Spec PyProof.Rows L2

/-- short enough for one object -/
def Fits (n : Nat) : Prop := n.log2 < 20
instance (n : Nat) : Decidable (Fits n) := inferInstanceAs (Decidable (n.log2 < 20))
theorem Fits.lt {n : Nat} (h : Fits n) : n < sizeLine := by
  have h1 : n < 2 ^ 20 := by
    by_cases hz : n = 0
    · rw [hz]
      decide +kernel
    · exact (Nat.log2_lt hz).mp h
  rw [sizeLine_eq]
  omega
theorem Fits.le {n : Nat} (h : Fits n) : n ≤ sizeLine := Nat.le_of_lt h.lt
theorem Fits.of {n : Nat} (h : n < 2 ^ 20) : Fits n := by
  by_cases hz : n = 0
  · rw [hz]
    decide +kernel
  · exact (Nat.log2_lt hz).mpr h
/-- small enough for a range -/
def Fit62 (j : Int) : Prop := j.natAbs.log2 < 60
instance (j : Int) : Decidable (Fit62 j) := inferInstanceAs (Decidable (j.natAbs.log2 < 60))
theorem Fit62.ab {j : Int} (h : Fit62 j) : j.natAbs < 2 ^ 60 := by
  by_cases hz : j.natAbs = 0
  · rw [hz]
    decide +kernel
  · exact (Nat.log2_lt hz).mp h
theorem Fit62.lo {j : Int} (h : Fit62 j) : -(2 ^ 62) ≤ j := by
  have := h.ab
  omega
theorem Fit62.hi {j : Int} (h : Fit62 j) : j < 2 ^ 62 := by
  have := h.ab
  omega
theorem Fit62.of {j : Int} (h : j.natAbs < 2 ^ 60) : Fit62 j := by
  by_cases hz : j.natAbs = 0
  · show j.natAbs.log2 < 60
    rw [hz]
    decide +kernel
  · exact (Nat.log2_lt hz).mpr h
/-- data as trees; an instance by its class's name, its attributes in order; a def by its name -/
inductive D where
  | non | bl (b : Bool) | int (i : Int) | str (s : Str) | tup (xs : List D) | lst (xs : List D) | dic (ks : List Key) (xs : List D) | ins (C : Str) (ns : List Str) (xs : List D) | fn (x : Str)

section
variable (K : PySem.W.Frag) (mg : Str → Option Value)
/-- a list that never changes again -/
def FzL (K : PySem.W.Frag) (H : Hp) (a : Addr) (vs : List V) : Prop := (∃ o, H a = some (.frz o (.lst vs))) ∨
    ∃ (o : Obj) (its : Array Value) (n : Nat), K.lookup a = some o ∧ o.cls = .type "list" ∧ o.dict = none ∧ o.data = .seq its n ∧ its.size ≤ sizeLine ∧ Vals vs its.toList
/-- a tuple -/
def FzT (K : PySem.W.Frag) (H : Hp) (a : Addr) (vs : List V) : Prop := (H a = some (.tup vs)) ∨
    ∃ (o : Obj) (its : Array Value) (n : Nat), K.lookup a = some o ∧ o.cls = .type "tuple" ∧ o.data = .seq its n ∧ its.size ≤ sizeLine ∧ Vals vs its.toList
mutual
def Rep (H : Hp) : D → V → Prop
  | .non, v => v = .non
  | .bl b, v => v = .bl b
  | .int i, v => v = .int i
  | .str x, v => v = .str x
  | .tup ds, v => ∃ a vs, v = .ref a ∧ FzT K H a vs ∧ Reps H ds vs
  | .lst ds, v => ∃ a vs, v = .ref a ∧ FzL K H a vs ∧ Reps H ds vs
  | .dic ks ds, v => ∃ a vs o, v = .ref a ∧ H a = some (.frz o (.dK (ks.zip vs))) ∧ ks.length = vs.length ∧ Reps H ds vs
  | .ins C ns ds, v => ∃ a Ca dx vs o, v = .ref a ∧ mg C = some (.ref Ca) ∧ H a = some (.frz o (.ins Ca dx (ns.zip vs))) ∧ ns.length = vs.length ∧ Reps H ds vs
  | .fn x, v => ∃ f, v = .ref f ∧ mg x = some (.ref f)
def Reps (H : Hp) : List D → List V → Prop
  | [], vs => vs = []
  | d :: ds, vs => ∃ v r, vs = v :: r ∧ Rep H d v ∧ Reps H ds r
end
end
/-- what no step takes away -/
structure Stay (H H' : Hp) : Prop where
  tup : ∀ b xs, H b = some (.tup xs) → H' b = some (.tup xs)
  frz : ∀ b o u, H b = some (.frz o u) → H' b = some (.frz o u)
theorem Stay.refl (H : Hp) : Stay H H := ⟨fun _ _ h => h, fun _ _ _ h => h⟩
theorem Stay.trans {H H1 H2 : Hp} (a : Stay H H1) (b : Stay H1 H2) : Stay H H2 := ⟨fun c xs h => b.tup c xs (a.tup c xs h), fun c o u h => b.frz c o u (a.frz c o u h)⟩
theorem Stay.of_same {H H' : Hp} (s : Same H H') : Stay H H' := ⟨fun b _ h => s b _ h, fun b _ _ h => s b _ h⟩
section
variable {K : PySem.W.Frag} {mg : Str → Option Value} {H H' : Hp}
theorem FzL.stay {a : Addr} {vs : List V} (s : Stay H H') (h : FzL K H a vs) : FzL K H' a vs := by
  rcases h with ⟨o, h⟩ | h
  · exact .inl ⟨o, s.frz _ _ _ h⟩
  · exact .inr h
theorem FzT.stay {a : Addr} {vs : List V} (s : Stay H H') (h : FzT K H a vs) : FzT K H' a vs := by
  rcases h with h | h
  · exact .inl (s.tup _ _ h)
  · exact .inr h
theorem FzL.sq {a : Addr} {vs : List V} (h : FzL K H a vs) : SqL K H a vs := by
  rcases h with ⟨o, h⟩ | h
  · exact .inl (.inr ⟨o, h⟩)
  · exact .inr h
theorem FzT.sq {a : Addr} {vs : List V} (h : FzT K H a vs) : SqT K H a vs := by
  rcases h with h | h
  · exact .inl (.inl h)
  · exact .inr h
mutual
theorem Rep.stay (s : Stay H H') : ∀ (d : D) (v : V), Rep K mg H d v → Rep K mg H' d v
  | .non, _, h => h
  | .bl _, _, h => h
  | .int _, _, h => h
  | .str _, _, h => h
  | .fn _, _, h => h
  | .tup ds, _, h => by
    obtain ⟨a, vs, e, q, r⟩ := h
    exact ⟨a, vs, e, q.stay s, Reps.stay s ds vs r⟩
  | .lst ds, _, h => by
    obtain ⟨a, vs, e, q, r⟩ := h
    exact ⟨a, vs, e, q.stay s, Reps.stay s ds vs r⟩
  | .dic ks ds, _, h => by
    obtain ⟨a, vs, o, e, q, l, r⟩ := h
    exact ⟨a, vs, o, e, s.frz _ _ _ q, l, Reps.stay s ds vs r⟩
  | .ins C ns ds, _, h => by
    obtain ⟨a, Ca, dx, vs, o, e, m, q, l, r⟩ := h
    exact ⟨a, Ca, dx, vs, o, e, m, s.frz _ _ _ q, l, Reps.stay s ds vs r⟩
theorem Reps.stay (s : Stay H H') : ∀ (ds : List D) (vs : List V), Reps K mg H ds vs → Reps K mg H' ds vs
  | [], _, h => h
  | d :: ds, _, h => by
    obtain ⟨v, r, e, h1, h2⟩ := h
    exact ⟨v, r, e, Rep.stay s d v h1, Reps.stay s ds r h2⟩
end
theorem Reps.len : ∀ {ds : List D} {vs : List V}, Reps K mg H ds vs → vs.length = ds.length
  | [], _, h => by
    cases h
    rfl
  | d :: ds, _, h => by
    obtain ⟨v, r, rfl, _, h2⟩ := h
    rw [List.length_cons, List.length_cons, Reps.len h2]
theorem Reps.cons {d : D} {ds : List D} {v : V} {vs : List V} (h : Rep K mg H d v) (r : Reps K mg H ds vs) : Reps K mg H (d :: ds) (v :: vs) := ⟨v, vs, rfl, h, r⟩
theorem Reps.nil : Reps K mg H [] [] := rfl
theorem Reps.app : ∀ {ds es : List D} {vs ws : List V}, Reps K mg H ds vs → Reps K mg H es ws → Reps K mg H (ds ++ es) (vs ++ ws)
  | [], _, _, _, h, r => by
    cases h
    exact r
  | d :: ds, _, _, _, h, r => by
    obtain ⟨v, w, rfl, h1, h2⟩ := h
    exact ⟨v, w ++ _, rfl, h1, Reps.app h2 r⟩
theorem Reps.get : ∀ {ds : List D} {vs : List V} {i : Nat} {d : D}, Reps K mg H ds vs → ds[i]? = some d → ∃ v, vs[i]? = some v ∧ Rep K mg H d v
  | [], _, _, _, _, e => by simp at e
  | d :: ds, _, 0, _, h, e => by
    obtain ⟨v, r, rfl, h1, _⟩ := h
    have e' : d = _ := Option.some.inj e
    subst e'
    exact ⟨v, rfl, h1⟩
  | d :: ds, _, i + 1, x, h, e => by
    obtain ⟨v, r, rfl, _, h2⟩ := h
    exact Reps.get (i := i) h2 e
theorem Reps.get' : ∀ {ds : List D} {vs : List V} {i : Nat} {v : V}, Reps K mg H ds vs → vs[i]? = some v → ∃ d, ds[i]? = some d ∧ Rep K mg H d v := fun {ds vs i v} h e => by
  have l := h.len
  obtain ⟨hi, _⟩ := List.getElem?_eq_some_iff.mp e
  have hi' : i < ds.length := by omega
  obtain ⟨w, e2, r⟩ := h.get (List.getElem?_eq_getElem hi')
  rw [e] at e2
  cases e2
  exact ⟨_, List.getElem?_eq_getElem hi', r⟩
theorem Reps.set : ∀ {ds : List D} {vs : List V} {d : D} {v : V} (i : Nat), Reps K mg H ds vs → Rep K mg H d v → Reps K mg H (ds.set i d) (vs.set i v)
  | [], _, _, _, _, h, _ => by
    cases h
    exact rfl
  | _ :: ds, _, d, v, 0, h, q => by
    obtain ⟨w, r, rfl, _, h2⟩ := h
    exact ⟨v, r, rfl, q, h2⟩
  | x :: ds, _, d, v, i + 1, h, q => by
    obtain ⟨w, r, rfl, h1, h2⟩ := h
    exact ⟨w, r.set i v, rfl, h1, Reps.set i h2 q⟩
theorem Reps.take : ∀ {ds : List D} {vs : List V} (n : Nat), Reps K mg H ds vs → Reps K mg H (ds.take n) (vs.take n)
  | [], _, n, h => by
    cases h
    rw [List.take_nil, List.take_nil]
    exact rfl
  | _ :: _, _, 0, _ => rfl
  | _ :: ds, _, n + 1, h => by
    obtain ⟨w, r, rfl, h1, h2⟩ := h
    exact ⟨w, r.take n, rfl, h1, Reps.take n h2⟩
theorem Reps.drop : ∀ {ds : List D} {vs : List V} (n : Nat), Reps K mg H ds vs → Reps K mg H (ds.drop n) (vs.drop n)
  | [], _, n, h => by
    cases h
    rw [List.drop_nil, List.drop_nil]
    exact rfl
  | _ :: _, _, 0, h => h
  | _ :: ds, _, n + 1, h => by
    obtain ⟨w, r, rfl, h1, h2⟩ := h
    exact Reps.drop n h2
end
end Pd
end PdA_text

section PdB_text
set_option maxHeartbeats 4000000
namespace Pd
open PySem PySem.Spec PyProof.Rows L2
/-- an exception: its class's name, its attributes -/
structure Ex where
  C : Str
  ns : List Str := []
  xs : List D := []
/-- what an object that may change holds -/
inductive Cn where
  | lst (xs : List D) | dic (ks : List Key) (xs : List D) | ins (C : Str) (ns : List Str) (xs : List D)
def Cn.toD : Cn → D
  | .lst xs => .lst xs
  | .dic ks xs => .dic ks xs
  | .ins C ns xs => .ins C ns xs
/-- what a slot holds: nothing known | data | an object of our own (b: made here; else the caller's) | the exception in hand -/
inductive SV where
  | no | dat (d : D) | own (b : Bool) (c : Cn) | exc (e : Ex)
/-- fixed through a body: the heap at the entry, the caller's objects, the exception that a suite holds, objects in the making that no step may touch -/
structure Fx where
  H0 : Hp
  B : List Addr
  xi : Option (Addr × Option Addr × Value) := none
  pr : List (Addr × HO) := []
section
variable (K : PySem.W.Frag) (mg : Str → Option Value) (F : Fx)
def RepC (H : Hp) : Cn → HO → Prop
  | .lst xs, o => ∃ vs, o = .lst vs ∧ Reps K mg H xs vs
  | .dic ks xs, o => ∃ vs, o = .dK (ks.zip vs) ∧ ks.length = vs.length ∧ Reps K mg H xs vs
  | .ins C ns xs, o => ∃ Ca dx vs, o = .ins Ca dx (ns.zip vs) ∧ mg C = some (.ref Ca) ∧ ns.length = vs.length ∧ Reps K mg H xs vs
def ExcRep (H : Hp) (e : Ex) (cls : Value) (d : Option Addr) : Prop := ∃ C, mg e.C = some (.ref C) ∧ cls = .ref C ∧
  match d with
  | none => e.ns = [] ∧ e.xs = []
  | some dx => ∃ vs, H dx = some (.xd (e.ns.zip vs)) ∧ e.ns.length = vs.length ∧ Reps K mg H e.xs vs
def SlotOk (H : Hp) (x : Option (Option V)) : SV → Prop
  | .no => True
  | .dat d => ∃ v, x = some (some v) ∧ Rep K mg H d v
  | .own b c => ∃ a ho, x = some (some (.ref a)) ∧ H a = some ho ∧ RepC K mg H c ho ∧ (b = true → F.H0 a = none) ∧ (b = false → a ∈ F.B)
  | .exc e => ∃ a d cls, F.xi = some (a, d, cls) ∧ x = some (some (.ref a)) ∧ ExcRep K mg H e cls d
structure EnvD (σ : L2.St) (H : Hp) (S : List SV) : Prop where
  len : σ.length = S.length
  slot : ∀ (i : Nat) (sv : SV), S[i]? = some sv → SlotOk K mg F H (σ[i]?) sv
  inj : ∀ (i j : Nat) (a : Addr) (b : Bool) (c : Cn) (b' : Bool) (c' : Cn), S[i]? = some (.own b c) → S[j]? = some (.own b' c') → σ[i]? = some (some (.ref a)) → σ[j]? = some (some (.ref a)) → i = j
  frame : ∀ b o, F.H0 b = some o → b ∉ F.B → H b = some o
  bor : ∀ a ∈ F.B, ∃ o, H a = some o
  prot : ∀ p ∈ F.pr, H p.1 = some p.2 ∧ ∀ (i : Nat) b c, S[i]? = some (.own b c) → σ[i]? ≠ some (some (.ref p.1))
/-- data, or an object of our own as it is now -/
def RepU (H : Hp) (d : D) (v : V) : Prop := Rep K mg H d v ∨ ∃ (c : Cn) (a : Addr) (ho : HO), d = c.toD ∧ v = .ref a ∧ H a = some ho ∧ RepC K mg H c ho
/-- an expression's value -/
def RV (σ : L2.St) (H : Hp) (S : List SV) (v : V) : SV → Prop
  | .dat d => Rep K mg H d v
  | .own b c => b = true ∧ ∃ a ho, v = .ref a ∧ H a = some ho ∧ RepC K mg H c ho ∧ F.H0 a = none ∧ (∀ p ∈ F.pr, p.1 ≠ a) ∧ ∀ (i : Nat) b' c', S[i]? = some (.own b' c') → σ[i]? ≠ some (some (.ref a))
  | _ => False
end
section
variable {K : PySem.W.Frag} {mg : Str → Option Value} {F : Fx} {σ : L2.St} {H H' : Hp} {S : List SV}
theorem RepC.stay {c : Cn} {o : HO} (s : Stay H H') (h : RepC K mg H c o) : RepC K mg H' c o := by
  cases c with
  | lst xs =>
    obtain ⟨vs, e, r⟩ := h
    exact ⟨vs, e, r.stay s _ _⟩
  | dic ks xs =>
    obtain ⟨vs, e, l, r⟩ := h
    exact ⟨vs, e, l, r.stay s _ _⟩
  | ins C ns xs =>
    obtain ⟨Ca, dx, vs, e, m, l, r⟩ := h
    exact ⟨Ca, dx, vs, e, m, l, r.stay s _ _⟩
theorem RepC.mut {c : Cn} {o : HO} (h : RepC K mg H c o) : Mut (some o) := by
  cases c with
  | lst xs =>
    obtain ⟨vs, e, r⟩ := h
    rw [e]
    exact True.intro
  | dic ks xs =>
    obtain ⟨vs, e, l, r⟩ := h
    rw [e]
    exact True.intro
  | ins C ns xs =>
    obtain ⟨Ca, dx, vs, e, m, l, r⟩ := h
    rw [e]
    exact True.intro
theorem RepC.frz {c : Cn} {o : HO} {a : Addr} {ob : Obj} (h : RepC K mg H c o) (e : H a = some (.frz ob o)) : Rep K mg H c.toD (.ref a) := by
  cases c with
  | lst xs =>
    obtain ⟨vs, rfl, r⟩ := h
    exact ⟨a, vs, rfl, .inl ⟨ob, e⟩, r⟩
  | dic ks xs =>
    obtain ⟨vs, rfl, l, r⟩ := h
    exact ⟨a, vs, ob, rfl, e, l, r⟩
  | ins C ns xs =>
    obtain ⟨Ca, dx, vs, rfl, m, l, r⟩ := h
    exact ⟨a, Ca, dx, vs, ob, rfl, m, e, l, r⟩
theorem mut_tup {o : HO} {xs : List V} (m : Mut (some o)) : o ≠ .tup xs := fun e => by
  rw [e] at m
  exact m
theorem mut_frz {o u : HO} {ob : Obj} (m : Mut (some o)) : o ≠ .frz ob u := fun e => by
  rw [e] at m
  exact m
theorem mut_xd {o : HO} {fs : List (Str × V)} (m : Mut (some o)) : o ≠ .xd fs := fun e => by
  rw [e] at m
  exact m
/-- an object of ours is changed, or locked -/
theorem stay_upd {a : Addr} {o u : HO} (h : H a = some o) (m : Mut (some o)) : Stay H (upd H a u) :=
  ⟨fun b xs e => by rw [upd_ne (fun z => mut_tup m (by rw [z, h] at e; exact Option.some.inj e))]; exact e,
   fun b ob v e => by rw [upd_ne (fun z => mut_frz m (by rw [z, h] at e; exact Option.some.inj e))]; exact e⟩
theorem ExcRep.keep {e : Ex} {cls : Value} {d : Option Addr} (s : Stay H H') (k : ∀ b fs, H b = some (.xd fs) → H' b = some (.xd fs)) (h : ExcRep K mg H e cls d) : ExcRep K mg H' e cls d := by
  obtain ⟨C, m, rfl, q⟩ := h
  refine ⟨C, m, rfl, ?_⟩
  cases d with
  | none => exact q
  | some dx =>
    obtain ⟨vs, q1, q2, q3⟩ := q
    exact ⟨vs, k _ _ q1, q2, q3.stay s _ _⟩
theorem upd_xd {a b : Addr} {o u : HO} {fs : List (Str × V)} (h : H a = some o) (m : Mut (some o)) (e : H b = some (.xd fs)) : upd H a u b = some (.xd fs) := by
  rw [upd_ne (fun z => mut_xd m (by rw [z, h] at e; exact Option.some.inj e))]
  exact e
/-- more objects -/
theorem EnvD.same (I : EnvD K mg F σ H S) (s : Same H H') : EnvD K mg F σ H' S := by
  have st := Stay.of_same s
  refine ⟨I.len, fun i sv e => ?_, I.inj, fun b o h n => s _ _ (I.frame b o h n), fun a h => ?_, fun p hp => ⟨s _ _ (I.prot p hp).1, (I.prot p hp).2⟩⟩
  · have q := I.slot i sv e
    cases sv with
    | no => exact True.intro
    | dat d =>
      obtain ⟨v, e1, r⟩ := q
      exact ⟨v, e1, r.stay st _ _⟩
    | own b c =>
      obtain ⟨a, ho, e1, e2, r, q1, q2⟩ := q
      exact ⟨a, ho, e1, s _ _ e2, r.stay st, q1, q2⟩
    | exc e =>
      obtain ⟨a, d, cls, e1, e2, r⟩ := q
      exact ⟨a, d, cls, e1, e2, r.keep st fun b fs h => s _ _ h⟩
  · obtain ⟨o, e⟩ := I.bor a h
    exact ⟨o, s _ _ e⟩
/-- an object of ours takes another content (c' some) or is locked (none) -/
theorem EnvD.put (I : EnvD K mg F σ H S) {i : Nat} {b : Bool} {c : Cn} {a : Addr} {ho u : HO} (e : S[i]? = some (.own b c)) (ex : σ[i]? = some (some (.ref a))) (ea : H a = some ho) (m : Mut (some ho))
    {sv : SV} (q : SlotOk K mg F (upd H a u) (some (some (.ref a))) sv) (hs : ∀ b' c', sv = .own b' c' → True) : EnvD K mg F σ (upd H a u) (S.set i sv) := by
  have st := stay_upd (u := u) ea m
  have hi : i < S.length := by
    obtain ⟨h, _⟩ := List.getElem?_eq_some_iff.mp e
    exact h
  obtain ⟨a0, ho0, e1, e2, r, q1, q2⟩ := I.slot i _ e
  have ea0 : a0 = a := by
    rw [ex] at e1
    exact (V.ref.inj (Option.some.inj (Option.some.inj e1))).symm
  subst ea0
  have orig : ∀ {j : Nat} {bj : Bool} {cj : Cn}, (S.set i sv)[j]? = some (.own bj cj) → ∃ b' c', S[j]? = some (.own b' c') := fun {j bj cj} ej => by
      by_cases hj : j = i
      · subst hj
        exact ⟨b, c, e⟩
      · rw [List.getElem?_set_ne (Ne.symm hj)] at ej
        exact ⟨_, _, ej⟩
  refine ⟨by rw [List.length_set]; exact I.len, fun j sw ej => ?_, fun j k a' bj cj bk ck ej ek sj sk => ?_, fun b' o h n => ?_, fun a' h => ?_, fun p hp => ⟨?_, fun j b' c' ej => ?_⟩⟩
  · by_cases hj : j = i
    · subst hj
      rw [List.getElem?_set_self hi] at ej
      cases ej
      rw [ex]
      exact q
    · rw [List.getElem?_set_ne (Ne.symm hj)] at ej
      have p := I.slot j sw ej
      cases sw with
      | no => exact True.intro
      | dat d =>
        obtain ⟨v, w1, w2⟩ := p
        exact ⟨v, w1, w2.stay st _ _⟩
      | own b' c' =>
        obtain ⟨a', ho', w1, w2, w3, w4, w5⟩ := p
        have ne : a' ≠ a0 := fun z => by
          subst z
          exact hj (I.inj _ _ _ _ _ _ _ ej e w1 ex)
        exact ⟨a', ho', w1, by rw [upd_ne ne]; exact w2, w3.stay st, w4, w5⟩
      | exc x =>
        obtain ⟨a', d, cls, w1, w2, w3⟩ := p
        exact ⟨a', d, cls, w1, w2, w3.keep st fun b fs h => upd_xd ea m h⟩
  · obtain ⟨_, _, ej'⟩ := orig ej
    obtain ⟨_, _, ek'⟩ := orig ek
    exact I.inj j k a' _ _ _ _ ej' ek' sj sk
  · have ne : b' ≠ a0 := fun z => by
      subst z
      cases b with
      | true =>
        rw [q1 rfl] at h
        cases h
      | false => exact n (q2 rfl)
    rw [upd_ne ne]
    exact I.frame b' o h n
  · by_cases h' : a' = a0
    · exact ⟨u, by rw [h', upd_same]⟩
    · obtain ⟨o, e'⟩ := I.bor a' h
      exact ⟨o, by rw [upd_ne h']; exact e'⟩
  · rw [upd_ne fun z => (I.prot p hp).2 i _ _ e (by rw [z]; exact ex)]
    exact (I.prot p hp).1
  · obtain ⟨_, _, ej'⟩ := orig ej
    exact (I.prot p hp).2 j _ _ ej'
theorem EnvD.own (I : EnvD K mg F σ H S) {i : Nat} {b : Bool} {c : Cn} (e : S[i]? = some (.own b c)) : ∃ a ho, σ[i]? = some (some (.ref a)) ∧ H a = some ho ∧ RepC K mg H c ho := by
  obtain ⟨a, ho, e1, e2, r, _⟩ := I.slot i _ e
  exact ⟨a, ho, e1, e2, r⟩
theorem EnvD.dat (I : EnvD K mg F σ H S) {i : Nat} {d : D} (e : S[i]? = some (.dat d)) : ∃ v, σ[i]? = some (some v) ∧ Rep K mg H d v := I.slot i _ e
/-- another content -/
theorem EnvD.write (I : EnvD K mg F σ H S) {i : Nat} {b : Bool} {c c' : Cn} {a : Addr} {ho u : HO} (e : S[i]? = some (.own b c)) (ex : σ[i]? = some (some (.ref a))) (ea : H a = some ho) (m : Mut (some ho))
    (r : RepC K mg H c' u) : EnvD K mg F σ (upd H a u) (S.set i (.own b c')) := by
  obtain ⟨a0, ho0, e1, e2, _, q1, q2⟩ := I.slot i _ e
  have ea0 : a0 = a := by
    rw [ex] at e1
    exact (V.ref.inj (Option.some.inj (Option.some.inj e1))).symm
  subst ea0
  exact I.put e ex ea m ⟨a0, u, rfl, upd_same, r.stay (stay_upd ea m), q1, q2⟩ fun _ _ _ => True.intro
/-- locked for good -/
theorem EnvD.freeze (I : EnvD K mg F σ H S) {i : Nat} {b : Bool} {c : Cn} {a : Addr} {ho : HO} (ob : Obj) (e : S[i]? = some (.own b c)) (ex : σ[i]? = some (some (.ref a))) (ea : H a = some ho)
    (r : RepC K mg H c ho) : EnvD K mg F σ (upd H a (.frz ob ho)) (S.set i (.dat c.toD)) :=
  I.put e ex ea r.mut ⟨_, rfl, (r.stay (stay_upd ea r.mut)).frz upd_same⟩ fun _ _ _ => True.intro
/-- a slot takes a value -/
theorem EnvD.store (I : EnvD K mg F σ H S) {i : Nat} {v : V} {sv : SV} (hi : i < S.length) (r : RV K mg F σ H S v sv) : EnvD K mg F (σ.set i (some v)) H (S.set i sv) := by
  have hi' : i < σ.length := by
    rw [I.len]
    exact hi
  refine ⟨by rw [List.length_set, List.length_set]; exact I.len, fun j sw ej => ?_, fun j k a b c b' c' ej ek sj sk => ?_, I.frame, I.bor, fun p hp => ⟨(I.prot p hp).1, fun j b' c' ej => ?_⟩⟩
  · by_cases hj : j = i
    · subst hj
      rw [List.getElem?_set_self hi] at ej
      cases ej
      rw [List.getElem?_set_self hi']
      cases sv with
      | no => exact True.intro
      | dat d => exact ⟨v, rfl, r⟩
      | own b c =>
        obtain ⟨rfl, a, ho, rfl, e2, r2, q1, q3, q2⟩ := r
        exact ⟨a, ho, rfl, e2, r2, fun _ => q1, fun z => nomatch z⟩
      | exc e => exact r.elim
    · rw [List.getElem?_set_ne (Ne.symm hj)] at ej
      rw [List.getElem?_set_ne (Ne.symm hj)]
      exact I.slot j sw ej
  · have key : ∀ {j k : Nat} {b : Bool} {c : Cn} {b' : Bool} {c' : Cn}, (S.set i sv)[j]? = some (.own b c) → (S.set i sv)[k]? = some (.own b' c') → (σ.set i (some v))[j]? = some (some (.ref a)) → (σ.set i (some v))[k]? = some (some (.ref a)) → j = i → k = i := by
      intro j k b c b' c' ej ek sj sk hj
      subst hj
      by_cases hk : k = j
      · exact hk
      · rw [List.getElem?_set_self hi] at ej
        cases ej
        rw [List.getElem?_set_self hi'] at sj
        rw [List.getElem?_set_ne (Ne.symm hk)] at ek sk
        obtain ⟨_, a', ho, e1, e2, r2, q1, q3, q2⟩ := r
        have ev : v = .ref a := Option.some.inj (Option.some.inj sj)
        rw [ev] at e1
        cases e1
        exact absurd sk (q2 k _ _ ek)
    by_cases hj : j = i
    · rw [hj, key ej ek sj sk hj]
    · by_cases hk : k = i
      · exact absurd (key ek ej sk sj hk) hj
      · rw [List.getElem?_set_ne (Ne.symm hj)] at ej sj
        rw [List.getElem?_set_ne (Ne.symm hk)] at ek sk
        exact I.inj j k a _ _ _ _ ej ek sj sk
  · by_cases hj : j = i
    · subst hj
      rw [List.getElem?_set_self hi] at ej
      rw [List.getElem?_set_self hi']
      cases ej
      obtain ⟨_, a, ho, rfl, _, _, _, q3, _⟩ := r
      exact fun z => q3 p hp (V.ref.inj (Option.some.inj (Option.some.inj z))).symm
    · rw [List.getElem?_set_ne (Ne.symm hj)] at ej
      rw [List.getElem?_set_ne (Ne.symm hj)]
      exact (I.prot p hp).2 j _ _ ej
/-- a slot is forgotten -/
theorem EnvD.forget (I : EnvD K mg F σ H S) (i : Nat) (x : Option V) : EnvD K mg F (σ.set i x) H (S.set i .no) := by
  have orig : ∀ {j : Nat} {sv : SV}, (S.set i .no)[j]? = some sv → sv = .no ∨ (j ≠ i ∧ S[j]? = some sv) := fun {j sv} e => by
    by_cases hj : j = i
    · subst hj
      by_cases hl : j < S.length
      · rw [List.getElem?_set_self hl] at e
        exact .inl (Option.some.inj e).symm
      · rw [List.getElem?_eq_none (by rw [List.length_set]; omega)] at e
        cases e
    · rw [List.getElem?_set_ne (Ne.symm hj)] at e
      exact .inr ⟨hj, e⟩
  refine ⟨by rw [List.length_set, List.length_set]; exact I.len, fun j sw ej => ?_, fun j k a b c b' c' ej ek sj sk => ?_, I.frame, I.bor, fun p hp => ⟨(I.prot p hp).1, fun j b' c' ej => ?_⟩⟩
  · rcases orig ej with rfl | ⟨hj, e⟩
    · exact True.intro
    · rw [List.getElem?_set_ne (Ne.symm hj)]
      exact I.slot j sw e
  · rcases orig ej with z | ⟨hj, e1⟩
    · cases z
    · rcases orig ek with z | ⟨hk, e2⟩
      · cases z
      · rw [List.getElem?_set_ne (Ne.symm hj)] at sj
        rw [List.getElem?_set_ne (Ne.symm hk)] at sk
        exact I.inj j k a _ _ _ _ e1 e2 sj sk
  · rcases orig ej with z | ⟨hj, e1⟩
    · cases z
    · rw [List.getElem?_set_ne (Ne.symm hj)]
      exact (I.prot p hp).2 j _ _ e1
theorem set_getElem {α : Type} {l : List α} {i : Nat} {x : α} (h : l[i]? = some x) : l.set i x = l := by
  apply List.ext_getElem?
  intro j
  by_cases hj : j = i
  · subst hj
    obtain ⟨hl, _⟩ := List.getElem?_eq_some_iff.mp h
    rw [List.getElem?_set_self hl, h]
  · rw [List.getElem?_set_ne (Ne.symm hj)]
theorem EnvD.drop (I : EnvD K mg F σ H S) (i : Nat) : EnvD K mg F σ H (S.set i .no) := by
  by_cases hl : i < σ.length
  · have e := I.forget i (σ[i]'hl)
    rw [set_getElem (List.getElem?_eq_getElem hl)] at e
    exact e
  · have hs : S.length ≤ i := by rw [← I.len]; omega
    rw [List.set_eq_of_length_le hs]
    exact I
theorem EnvD.fresh (I : EnvD K mg F σ H S) {p : Addr} (h : H p = none) : F.H0 p = none := by
  cases q : F.H0 p with
  | none => rfl
  | some o =>
    by_cases hb : p ∈ F.B
    · obtain ⟨o', e⟩ := I.bor p hb
      rw [h] at e
      cases e
    · rw [I.frame p o q hb] at h
      cases h
theorem EnvD.noal (I : EnvD K mg F σ H S) {p : Addr} (h : H p = none) : ∀ (i : Nat) b c, S[i]? = some (.own b c) → σ[i]? ≠ some (some (.ref p)) := fun i b c e z => by
  obtain ⟨a, ho, e1, e2, _⟩ := I.slot i _ e
  rw [z] at e1
  cases e1
  rw [h] at e2
  cases e2
theorem EnvD.noprot (I : EnvD K mg F σ H S) {p : Addr} (h : H p = none) : ∀ q ∈ F.pr, q.1 ≠ p := fun q hq z => by
  rw [← z, (I.prot q hq).1] at h
  cases h
/-- one more object that no step may touch -/
theorem EnvD.shield (I : EnvD K mg F σ H S) {D : Addr} {o : HO} (e : H D = some o) (n : ∀ (i : Nat) b c, S[i]? = some (.own b c) → σ[i]? ≠ some (some (.ref D))) : EnvD K mg { F with pr := (D, o) :: F.pr } σ H S :=
  ⟨I.len, I.slot, I.inj, I.frame, I.bor, fun p hp => by
    rcases List.mem_cons.mp hp with rfl | hp
    · exact ⟨e, n⟩
    · exact I.prot p hp⟩
theorem EnvD.unshield {D : Addr} {o : HO} (I : EnvD K mg { F with pr := (D, o) :: F.pr } σ H S) : EnvD K mg F σ H S ∧ H D = some o ∧ ∀ (i : Nat) b c, S[i]? = some (.own b c) → σ[i]? ≠ some (some (.ref D)) :=
  ⟨⟨I.len, I.slot, I.inj, I.frame, I.bor, fun p hp => I.prot p (List.mem_cons_of_mem _ hp)⟩, I.prot (D, o) List.mem_cons_self⟩
end
end Pd
end PdB_text

section PdC_text
set_option maxHeartbeats 4000000
namespace Pd
open PySem PySem.Spec PyProof.Rows L2
/-- how an expression ends -/
inductive Res (α : Type) where
  | ok (a : α) (S : List SV) | exc (e : Ex) (S : List SV) | bad
def Res.bind {α β : Type} (r : Res α) (f : α → List SV → Res β) : Res β := match r with
  | .ok a S => f a S
  | .exc e S => .exc e S
  | .bad => .bad
def Res.map {α β : Type} (r : Res α) (f : α → β) : Res β := r.bind fun a S => .ok (f a) S
@[simp] theorem Res.bind_ok {α β : Type} (a : α) (S : List SV) (f : α → List SV → Res β) : (Res.ok a S).bind f = f a S := rfl
@[simp] theorem Res.bind_exc {α β : Type} (e : Ex) (S : List SV) (f : α → List SV → Res β) : (Res.exc e S : Res α).bind f = .exc e S := rfl
@[simp] theorem Res.bind_bad {α β : Type} (f : α → List SV → Res β) : (Res.bad : Res α).bind f = .bad := rfl
@[simp] theorem Res.map_ok {α β : Type} (a : α) (S : List SV) (f : α → β) : (Res.ok a S).map f = .ok (f a) S := rfl
@[simp] theorem Res.map_exc {α β : Type} (e : Ex) (S : List SV) (f : α → β) : (Res.exc e S : Res α).map f = .exc e S := rfl
@[simp] theorem Res.map_bad {α β : Type} (f : α → β) : (Res.bad : Res α).map f = .bad := rfl
/-- what an operand is: data, or a name as it is when the operation runs -/
inductive Opd where
  | val (d : D) | var (i : Nat)
def getS (S : List SV) (i : Nat) : Option D := match S[i]? with
  | some (.dat d) => some d
  | some (.own _ c) => some c.toD
  | _ => none
def Opd.get (S : List SV) : Opd → Option D
  | .val d => some d
  | .var i => getS S i
abbrev GE := List SV → Res SV
abbrev GV := List SV → Res D
abbrev GO := List SV → Res Opd
abbrev GA := List SV → Res (List Opd)
abbrev GT := List SV → Res Bool
section
variable (K : PySem.W.Frag) (mg : Str → Option Value) (F : Fx) (W : WX)
/-- the end of a reading: R says how the value is borne -/
def OutG {α β : Type} (R : L2.St → Hp → List SV → α → β → Prop) (σ : L2.St) (H : Hp) (r : Res α) (Q : β → Hp → Prop) : Prop := match r with
  | .ok a S => ∀ v H', EnvD K mg F σ H' S → R σ H' S a v → Stay H H' → Q v H'
  | .exc e S => ∀ cls d H', EnvD K mg F σ H' S → ExcRep K mg H' e cls d → Stay H H' → W cls d σ H'
  | .bad => False
def tG {α β : Type} (R : L2.St → Hp → List SV → α → β → Prop) (g : List SV → Res α) : L2.St → Hp → (β → Hp → Prop) → Prop := fun σ H Q => ∃ S, EnvD K mg F σ H S ∧ OutG K mg F W R σ H (g S) Q
abbrev RE : L2.St → Hp → List SV → SV → V → Prop := fun σ H S sv v => RV K mg F σ H S v sv
abbrev RD : L2.St → Hp → List SV → D → V → Prop := fun _ H _ d v => Rep K mg H d v
def RO : L2.St → Hp → List SV → Opd → V → Prop := fun σ H _ o v => match o with
  | .val d => Rep K mg H d v
  | .var i => σ[i]? = some (some v)
def ROs : L2.St → Hp → List SV → List Opd → List V → Prop := fun σ H S os vs => Paired (fun o v => RO K mg σ H S o v) os vs
abbrev RB : L2.St → Hp → List SV → Bool → Bool → Prop := fun _ _ _ a b => a = b
end
section
variable (X : Cx) (F : Fx) (W : WX)
structure PD (e : Expr) (g : GE) : Prop where
  pe : PE X e (tG X.K X.mg F W (RE X.K X.mg F) g)
structure PV (e : Expr) (g : GV) : Prop where
  pe : PE X e (tG X.K X.mg F W (RD X.K X.mg) g)
structure PO (e : Expr) (g : GO) : Prop where
  pe : PE X e (tG X.K X.mg F W (RO X.K X.mg) g)
structure PAs (es : List Expr) (g : GA) : Prop where
  pa : PA X es (tG X.K X.mg F W (ROs X.K X.mg) g)
structure PB (e : Expr) (g : GT) : Prop where
  pt : PT X e (tG X.K X.mg F W RB g)
structure PBw (e : Expr) (g : GT) : Prop where
  pw : PW X e (tG X.K X.mg F W RB g)
end
theorem PBw.pb {X : Cx} {F : Fx} {W : WX} {e : Expr} {g : GT} (h : PBw X F W e g) : PB X F W e g := ⟨h.pw.pt⟩
section
variable {K : PySem.W.Frag} {mg : Str → Option Value} {F : Fx} {W : WX} {σ : L2.St} {H H' : Hp} {S : List SV}
theorem RepU.of {d : D} {v : V} (h : Rep K mg H d v) : RepU K mg H d v := .inl h
theorem RO.stay {o : Opd} {v : V} {S S' : List SV} (s : Stay H H') (h : RO K mg σ H S o v) : RO K mg σ H' S' o v := by
  cases o with
  | val d => exact Rep.stay s d v h
  | var i => exact h
theorem ROs.stay {S S' : List SV} (s : Stay H H') : ∀ {os : List Opd} {vs : List V}, ROs K mg σ H S os vs → ROs K mg σ H' S' os vs
  | _, _, .nil => .nil
  | _, _, .cons h r => .cons (RO.stay s h) (ROs.stay (S := S) (S' := S') s r)
theorem RO.unf {o : Opd} {v : V} {d : D} {S0 : List SV} (I : EnvD K mg F σ H S) (h : RO K mg σ H S0 o v) (e : o.get S = some d) : RepU K mg H d v := by
  cases o with
  | val d' =>
    cases e
    exact .inl h
  | var i =>
    have e' : getS S i = some d := e
    unfold getS at e'
    cases q : S[i]? with
    | none =>
      rw [q] at e'
      cases e'
    | some sv =>
      rw [q] at e'
      cases sv with
      | no => cases e'
      | dat d' =>
        cases e'
        obtain ⟨v', e1, r⟩ := I.dat q
        have h' : σ[i]? = some (some v) := h
        rw [h'] at e1
        cases e1
        exact .inl r
      | own b c =>
        cases e'
        obtain ⟨a, ho, e1, e2, r⟩ := I.own q
        have h' : σ[i]? = some (some v) := h
        rw [h'] at e1
        cases e1
        exact .inr ⟨c, a, ho, rfl, rfl, e2, r⟩
      | exc _ => cases e'
theorem RepU.tup {ds : List D} {v : V} (h : RepU K mg H (.tup ds) v) : ∃ a vs, v = .ref a ∧ FzT K H a vs ∧ Reps K mg H ds vs := by
  rcases h with h | ⟨c, a, ho, e, _⟩
  · exact h
  · cases c <;> cases e
theorem RepU.lst {ds : List D} {v : V} (h : RepU K mg H (.lst ds) v) : ∃ a vs, v = .ref a ∧ SqL K H a vs ∧ Reps K mg H ds vs := by
  rcases h with h | ⟨c, a, ho, e, ev, ea, r⟩
  · obtain ⟨a, vs, e, q, r⟩ := h
    exact ⟨a, vs, e, q.sq, r⟩
  · cases c with
    | lst xs =>
      cases e
      obtain ⟨vs, rfl, r⟩ := r
      exact ⟨a, vs, ev, SqL.of ea, r⟩
    | _ => cases e
theorem RepU.int {i : Int} {v : V} (h : RepU K mg H (.int i) v) : v = .int i := by
  rcases h with h | ⟨c, a, ho, e, _⟩
  · exact h
  · cases c <;> cases e
theorem RepU.str {x : Str} {v : V} (h : RepU K mg H (.str x) v) : v = .str x := by
  rcases h with h | ⟨c, a, ho, e, _⟩
  · exact h
  · cases c <;> cases e
theorem RepU.bl {x : Bool} {v : V} (h : RepU K mg H (.bl x) v) : v = .bl x := by
  rcases h with h | ⟨c, a, ho, e, _⟩
  · exact h
  · cases c <;> cases e
theorem RepU.non {v : V} (h : RepU K mg H .non v) : v = .non := by
  rcases h with h | ⟨c, a, ho, e, _⟩
  · exact h
  · cases c <;> cases e
/-- a new value of an operation -/
def RN (K : PySem.W.Frag) (mg : Str → Option Value) (H H' : Hp) (v : V) : SV → Prop
  | .dat d => Rep K mg H' d v
  | .own b c => b = true ∧ ∃ a ho, v = .ref a ∧ H a = none ∧ H' a = some ho ∧ RepC K mg H' c ho
  | _ => False
theorem RN.rv {v : V} {sv : SV} (I : EnvD K mg F σ H S) (h : RN K mg H H' v sv) : RV K mg F σ H' S v sv := by
  cases sv with
  | no => exact h
  | dat d => exact h
  | own b c =>
    obtain ⟨e, a, ho, e1, e2, e3, r⟩ := h
    exact ⟨e, a, ho, e1, e3, r, I.fresh e2, I.noprot e2, I.noal e2⟩
  | exc _ => exact h
theorem same_upd {p : Addr} {o : HO} (h : H p = none) : Same H (upd H p o) := fun b x e => by
  rw [upd_ne (ne_of_none e h)]
  exact e
end
theorem _root_.L2.PE.imp {X : Cx} {e : Expr} {t t' : TE} (h : PE X e t) (i : ∀ σ H Q, t' σ H Q → t σ H Q) : PE X e t' := ⟨fun pins s σ H Q I q => h.run pins s σ H Q I (i σ H Q q)⟩
theorem _root_.L2.PT.imp {X : Cx} {e : Expr} {t t' : TT} (h : PT X e t) (i : ∀ σ H Q, t' σ H Q → t σ H Q) : PT X e t' := ⟨fun pins s σ H Q I q => h.run pins s σ H Q I (i σ H Q q)⟩
theorem _root_.L2.PW.imp {X : Cx} {e : Expr} {t t' : TT} (h : PW X e t) (i : ∀ σ H Q, t' σ H Q → t σ H Q) : PW X e t' := ⟨fun wh pins s σ H Q I q => h.run wh pins s σ H Q I (i σ H Q q)⟩
theorem _root_.L2.PA.imp {X : Cx} {es : List Expr} {t t' : TA} (h : PA X es t) (i : ∀ σ H Q, t' σ H Q → t σ H Q) : PA X es t' := ⟨fun pos pins s σ H Q I q => h.run pos pins s σ H Q I (i σ H Q q)⟩
theorem _root_.L2.PS.imp {X : Cx} {st : Stmt} {t t' : TS} (h : PS X st t) (i : ∀ D σ H, t' D σ H → t D σ H) : PS X st t' := ⟨fun pins s σ H D I q => h.run pins s σ H D I (i D σ H q)⟩
theorem _root_.L2.PSs.imp {X : Cx} {st : List Stmt} {t t' : TS} (h : PSs X st t) (i : ∀ D σ H, t' D σ H → t D σ H) : PSs X st t' := ⟨fun pins s σ H D I q => h.run pins s σ H D I (i D σ H q)⟩

/-! ### composing readings -/
section
variable {K : PySem.W.Frag} {mg : Str → Option Value} {F : Fx} {W : WX}
/-- first g, then f of its value: with what stands kept -/
theorem tG.bind {α β α' β' : Type} {R : L2.St → Hp → List SV → α → β → Prop} {R' : L2.St → Hp → List SV → α' → β' → Prop} {g : List SV → Res α} {f : α → List SV → Res α'} {σ : L2.St} {H : Hp} {Q : β' → Hp → Prop} {Q0 : β → Hp → Prop}
    (h : tG K mg F W R' (fun S => (g S).bind f) σ H Q)
    (k : ∀ a S1 v H1, EnvD K mg F σ H1 S1 → R σ H1 S1 a v → Stay H H1 → OutG K mg F W R' σ H1 (f a S1) Q → Q0 v H1) : tG K mg F W R g σ H Q0 := by
  obtain ⟨S, I, q0⟩ := h
  have q : OutG K mg F W R' σ H ((g S).bind f) Q := q0
  refine ⟨S, I, ?_⟩
  cases e : g S with
  | ok a S1 =>
    rw [e] at q
    intro v H1 I1 r s
    refine k a S1 v H1 I1 r s ?_
    have q' : OutG K mg F W R' σ H (f a S1) Q := q
    cases e2 : f a S1 with
    | ok a' S2 =>
      rw [e2] at q'
      exact fun v' H2 I2 r2 s2 => q' v' H2 I2 r2 (s.trans s2)
    | exc x S2 =>
      rw [e2] at q'
      exact fun cls d H2 I2 r2 s2 => q' cls d H2 I2 r2 (s.trans s2)
    | bad =>
      rw [e2] at q'
      exact q'
  | exc x S1 =>
    rw [e] at q
    exact q
  | bad =>
    rw [e] at q
    exact q
theorem OutG.ok {α β : Type} {R : L2.St → Hp → List SV → α → β → Prop} {σ : L2.St} {H : Hp} {a : α} {S : List SV} {v : β} {Q : β → Hp → Prop} (q : OutG K mg F W R σ H (.ok a S) Q) (I : EnvD K mg F σ H S) (r : R σ H S a v) : Q v H := q v H I r (Stay.refl H)
theorem OutG.okN {α β : Type} {R : L2.St → Hp → List SV → α → β → Prop} {σ : L2.St} {H H' : Hp} {a : α} {S : List SV} {v : β} {Q : β → Hp → Prop} (q : OutG K mg F W R σ H (.ok a S) Q) (I : EnvD K mg F σ H S) (s : Same H H') (r : R σ H' S a v) : Q v H' := q v H' (I.same s) r (Stay.of_same s)
theorem OutG.weak {α β : Type} {R : L2.St → Hp → List SV → α → β → Prop} {σ : L2.St} {H H' : Hp} {r : Res α} {Q : β → Hp → Prop} (q : OutG K mg F W R σ H r Q) (s : Stay H H') : OutG K mg F W R σ H' r Q := by
  cases r with
  | ok a S => exact fun v H2 I2 r2 s2 => q v H2 I2 r2 (s.trans s2)
  | exc x S => exact fun cls d H2 I2 r2 s2 => q cls d H2 I2 r2 (s.trans s2)
  | bad => exact q
/-- what is asked of a further reading -/
theorem OutG.tg {α β : Type} {R : L2.St → Hp → List SV → α → β → Prop} {σ : L2.St} {H : Hp} {S : List SV} {g : List SV → Res α} {Q : β → Hp → Prop} (q : OutG K mg F W R σ H (g S) Q) (I : EnvD K mg F σ H S) : tG K mg F W R g σ H Q := ⟨S, I, q⟩
end
/-! ### freezing -/
/-- the value, if it is an object that changes, may be locked for good -/
def tFrz (t : TE) : TE := fun σ H Q => t σ H fun v H1 => Q v H1 ∨ ∃ a u, v = .ref a ∧ H1 a = some u ∧ Mut (some u) ∧ ∀ o, Q v (upd H1 a (.frz o u))
theorem pe_frz {X : Cx} {e : Expr} {t : TE} (h : PE X e t) : PE X e (tFrz t) := by
  refine ⟨fun pins s σ H Q I q => thn (h.run pins s σ H _ I q) fun v s1 ⟨x, H1, I1, r1, q1⟩ => ?_⟩
  rcases q1 with q1 | ⟨a, u, e, ea, m, q1⟩
  · exact ⟨x, H1, I1, r1, q1⟩
  · obtain ⟨o, I2⟩ := I1.lock ea m
    exact ⟨x, _, I2, r1, q1 o⟩
/-- an expression's value, as data -/
def gV (g : GE) : GV := fun S => (g S).bind fun sv S1 => match sv with
  | .dat d => .ok d S1
  | .own _ c => .ok c.toD S1
  | _ => .bad
section
variable {X : Cx} {F : Fx} {W : WX} {e : Expr}
theorem PD.v {g : GE} (h : PD X F W e g) : PV X F W e (gV g) := by
  refine ⟨(pe_frz h.pe).imp fun σ H Q q => ?_⟩
  refine tG.bind q fun sv S1 v H1 I1 r s k => ?_
  cases sv with
  | no => exact r.elim
  | exc _ => exact r.elim
  | dat d => exact .inl (k.ok I1 r)
  | own b c =>
    obtain ⟨_, a, ho, rfl, e2, r2, q1, q3, q2⟩ := r
    refine .inr ⟨a, ho, rfl, e2, r2.mut, fun o => ?_⟩
    have st := stay_upd (u := .frz o ho) e2 r2.mut
    refine k _ _ ?_ ((r2.stay st).frz upd_same) st
    refine ⟨I1.len, fun j sw ej => ?_, I1.inj, fun b' o' h n => ?_, fun a' h => ?_, fun p hp => ⟨by rw [upd_ne (q3 p hp)]; exact (I1.prot p hp).1, (I1.prot p hp).2⟩⟩
    · have p := I1.slot j sw ej
      cases sw with
      | no => exact True.intro
      | dat d =>
        obtain ⟨v, w1, w2⟩ := p
        exact ⟨v, w1, w2.stay st _ _⟩
      | own b' c' =>
        obtain ⟨a', ho', w1, w2, w3, w4, w5⟩ := p
        have ne : a' ≠ a := fun z => by
          subst z
          exact q2 j _ _ ej w1
        exact ⟨a', ho', w1, by rw [upd_ne ne]; exact w2, w3.stay st, w4, w5⟩
      | exc x =>
        obtain ⟨a', d, cls, w1, w2, w3⟩ := p
        exact ⟨a', d, cls, w1, w2, w3.keep st fun b fs h => upd_xd e2 r2.mut h⟩
    · have ne : b' ≠ a := fun z => by
        subst z
        rw [q1] at h
        cases h
      rw [upd_ne ne]
      exact I1.frame b' o' h n
    · by_cases h' : a' = a
      · exact ⟨_, by rw [h', upd_same]⟩
      · obtain ⟨o', e'⟩ := I1.bor a' h
        exact ⟨o', by rw [upd_ne h']; exact e'⟩
/-- data as an operand, as a value -/
def gO (g : GV) : GO := fun S => (g S).bind fun d S1 => .ok (.val d) S1
def gE (g : GV) : GE := fun S => (g S).bind fun d S1 => .ok (.dat d) S1
theorem PV.o {g : GV} (h : PV X F W e g) : PO X F W e (gO g) := ⟨h.pe.imp fun σ H Q q => tG.bind q fun d S1 v H1 I1 r s k => k.ok (a := Opd.val d) I1 r⟩
theorem PV.d {g : GV} (h : PV X F W e g) : PD X F W e (gE g) := ⟨h.pe.imp fun σ H Q q => tG.bind q fun d S1 v H1 I1 r s k => k.ok (a := SV.dat d) I1 r⟩
theorem PD.o {g : GE} (h : PD X F W e g) : PO X F W e (gO (gV g)) := h.v.o
/-! ### names and constants -/
/-- a name as an operand -/
def gVar (i : Nat) : GO := fun S => match getS S i with
  | some _ => .ok (.var i) S
  | none => .bad
theorem getS_env {σ : L2.St} {H : Hp} {S : List SV} {i : Nat} {d : D} {K : PySem.W.Frag} {mg : Str → Option Value} (I : EnvD K mg F σ H S) (e : getS S i = some d) : ∃ v, σ[i]? = some (some v) := by
  unfold getS at e
  cases q : S[i]? with
  | none =>
    rw [q] at e
    cases e
  | some sv =>
    cases sv with
    | no =>
      rw [q] at e
      cases e
    | exc _ =>
      rw [q] at e
      cases e
    | dat d' =>
      obtain ⟨v, e1, _⟩ := I.dat q
      exact ⟨v, e1⟩
    | own b c =>
      obtain ⟨a, ho, e1, _⟩ := I.own q
      exact ⟨_, e1⟩
theorem po_var {i : Nat} {x : Str} {pos : Pos} (h : PE X (.Name x pos) (tVar i)) : PO X F W (.Name x pos) (gVar i) := by
  refine ⟨h.imp fun σ H Q ⟨S, I, q⟩ => ?_⟩
  unfold gVar at q
  cases e : getS S i with
  | none =>
    rw [e] at q
    exact q.elim
  | some d =>
    rw [e] at q
    obtain ⟨v, e1⟩ := getS_env I e
    exact ⟨v, e1, q.ok I (show RO X.K X.mg σ H S (.var i) v from e1)⟩
/-- a name as data: what it holds is locked -/
def gNam (i : Nat) : GV := fun S => match S[i]? with
  | some (.dat d) => .ok d S
  | some (.own _ c) => .ok c.toD (S.set i (.dat c.toD))
  | _ => .bad
theorem pv_nam {i : Nat} {x : Str} {pos : Pos} (h : PE X (.Name x pos) (tVar i)) : PV X F W (.Name x pos) (gNam i) := by
  refine ⟨(pe_frz h).imp fun σ H Q ⟨S, I, q⟩ => ?_⟩
  unfold gNam at q
  cases e : S[i]? with
  | none =>
    rw [e] at q
    exact q.elim
  | some sv =>
    rw [e] at q
    cases sv with
    | no => exact q.elim
    | exc _ => exact q.elim
    | dat d =>
      obtain ⟨v, e1, r⟩ := I.dat e
      exact ⟨v, e1, .inl (q.ok I r)⟩
    | own b c =>
      obtain ⟨a, ho, e1, e2, r⟩ := I.own e
      refine ⟨_, e1, .inr ⟨a, ho, rfl, e2, r.mut, fun o => ?_⟩⟩
      have st := stay_upd (u := .frz o ho) e2 r.mut
      exact q _ _ (I.freeze o e e1 e2 r) ((r.stay st).frz upd_same) st
/-- a name's own object is handed on, the name forgotten -/
def gMove (i : Nat) : GE := fun S => match S[i]? with
  | some (.dat d) => .ok (.dat d) S
  | some (.own true c) => .ok (.own true c) (S.set i .no)
  | some (.own false c) => .ok (.dat c.toD) (S.set i (.dat c.toD))
  | _ => .bad
theorem pd_move {i : Nat} {x : Str} {pos : Pos} (h : PE X (.Name x pos) (tVar i)) : PD X F W (.Name x pos) (gMove i) := by
  refine ⟨(pe_frz h).imp fun σ H Q ⟨S, I, q⟩ => ?_⟩
  unfold gMove at q
  cases e : S[i]? with
  | none =>
    rw [e] at q
    exact q.elim
  | some sv =>
    rw [e] at q
    cases sv with
    | no => exact q.elim
    | exc _ => exact q.elim
    | dat d =>
      obtain ⟨v, e1, r⟩ := I.dat e
      exact ⟨v, e1, .inl (q.ok (a := SV.dat d) I r)⟩
    | own b c =>
      obtain ⟨a, ho, e1, e2, r, q1, q2⟩ := I.slot i _ e
      cases b with
      | true =>
        refine ⟨_, e1, .inl ?_⟩
        refine q.ok (a := SV.own true c) (I.drop i) ⟨rfl, a, ho, rfl, e2, r, q1 rfl, fun p hp z => (I.prot p hp).2 i _ _ e (by rw [z]; exact e1), fun j b' c' ej sj => ?_⟩
        by_cases hj : j = i
        · subst hj
          by_cases hl : j < S.length
          · rw [List.getElem?_set_self hl] at ej
            cases ej
          · rw [List.getElem?_eq_none (by rw [List.length_set]; omega)] at ej
            cases ej
        · rw [List.getElem?_set_ne (Ne.symm hj)] at ej
          exact hj (I.inj _ _ _ _ _ _ _ ej e sj e1)
      | false =>
        refine ⟨_, e1, .inr ⟨a, ho, rfl, e2, r.mut, fun o => ?_⟩⟩
        have st := stay_upd (u := .frz o ho) e2 r.mut
        exact q _ _ (I.freeze o e e1 e2 r) ((r.stay st).frz upd_same) st
/-- a constant -/
def gC (d : D) : GV := fun S => .ok d S
theorem pv_c {d : D} {v : V} (h : PE X e (tC v)) (r : ∀ H, Rep X.K X.mg H d v) : PV X F W e (gC d) := ⟨h.imp fun σ H Q ⟨S, I, q⟩ => q.ok (R := RD X.K X.mg) I (r H)⟩
theorem pv_int {i : Int} {j pos} : PV X F W (.Constant (.int i) j pos) (gC (.int i)) := pv_c pe_int fun _ => rfl
theorem pv_bl {b : Bool} {j pos} : PV X F W (.Constant (.bool b) j pos) (gC (.bl b)) := pv_c pe_bl fun _ => rfl
theorem pv_non {j pos} : PV X F W (.Constant .none j pos) (gC .non) := pv_c pe_non fun _ => rfl
theorem pv_str {x : Str} {j pos} : PV X F W (.Constant (.str x) j pos) (gC (.str x)) := pv_c pe_str fun _ => rfl
end
end Pd
end PdC_text

section PdD_text
set_option maxHeartbeats 4000000
namespace Pd
open PySem PySem.Spec PyProof.Rows L2
/-! ### two-place operations -/
def OpD (K : PySem.W.Frag) (mg : Str → Option Value) (r : R2) (f : D → D → Option SV) : Prop :=
  ∀ (H : Hp) (x y : V) (d1 d2 : D) (sv : SV) (Q : VK), RepU K mg H d1 x → RepU K mg H d2 y → f d1 d2 = some sv → (∀ v H', Same H H' → RN K mg H H' v sv → Q v H') → r x y H Q
theorem orOp {X : Cx} {f : Value → Value → Sem Value} {r r' : R2} (h : OpR X f r) (h' : OpR X f r') : OpR X f (fun x y H Q => r x y H Q ∨ r' x y H Q) := by
  intro pins s σ H x y v u Q I rx ry q
  rcases q with q | q
  · exact h pins s σ H x y v u Q I rx ry q
  · exact h' pins s σ H x y v u Q I rx ry q
theorem OpD.or {K : PySem.W.Frag} {mg : Str → Option Value} {r r' : R2} {f f' : D → D → Option SV} (h : OpD K mg r f) (h' : OpD K mg r' f') : OpD K mg (fun x y H Q => r x y H Q ∨ r' x y H Q) (fun a b => (f a b).or (f' a b)) := by
  intro H x y d1 d2 sv Q r1 r2 e q
  cases e1 : f d1 d2 with
  | some z =>
    simp only [e1, Option.some_or] at e
    exact .inl (h H x y d1 d2 sv Q r1 r2 (e1.trans e) q)
  | none =>
    simp only [e1, Option.none_or] at e
    exact .inr (h' H x y d1 d2 sv Q r1 r2 e q)
def gBin (f : D → D → Option SV) (ga gb : GO) : GE := fun S => (ga S).bind fun o1 S1 => (gb S1).bind fun o2 S2 => match o1.get S2, o2.get S2 with
  | some d1, some d2 => (match f d1 d2 with
    | some sv => .ok sv S2
    | none => .bad)
  | _, _ => .bad
section
variable {X : Cx} {F : Fx} {W : WX} {a b c : Expr} {pos : Pos} {ga gb gc : GO} {r r' : R2} {f f' : D → D → Option SV}
theorem bin_imp (hf : OpD X.K X.mg r f) {σ : L2.St} {H : Hp} {Q : VK} (q : tG X.K X.mg F W (RE X.K X.mg F) (gBin f ga gb) σ H Q) :
    tOp r (tG X.K X.mg F W (RO X.K X.mg) ga) (tG X.K X.mg F W (RO X.K X.mg) gb) σ H Q := by
  refine tG.bind q fun o1 S1 x H1 I1 r1 _ k => ?_
  refine tG.bind (k.tg (g := fun S1 => (gb S1).bind fun o2 S2 => match o1.get S2, o2.get S2 with
    | some d1, some d2 => (match f d1 d2 with
      | some sv => .ok sv S2
      | none => .bad)
    | _, _ => .bad) I1) fun o2 S2 y H2 I2 r2 s2 k2 => ?_
  cases e1 : o1.get S2 with
  | none =>
    simp only [e1] at k2
    exact k2.elim
  | some d1 =>
    cases e2 : o2.get S2 with
    | none =>
      simp only [e1, e2] at k2
      exact k2.elim
    | some d2 =>
      cases e3 : f d1 d2 with
      | none =>
        simp only [e1, e2, e3] at k2
        exact k2.elim
      | some sv =>
        simp only [e1, e2, e3] at k2
        exact hf H2 x y d1 d2 sv Q (RO.unf I2 (RO.stay (S' := S2) s2 r1) e1) (RO.unf I2 r2 e2) e3 fun v H' s n => k2.okN I2 s (RN.rv I2 n)
theorem pd_bin {op : Operator} (ho : OpR X (binaryOp op) r) (hf : OpD X.K X.mg r f) (ha : PO X F W a ga) (hb : PO X F W b gb) : PD X F W (.BinOp a op b pos) (gBin f ga gb) :=
  ⟨(pe_op ho ha.pe hb.pe).imp fun σ H Q q => bin_imp hf q⟩
theorem pd_cmp {op : CmpOp} (ho : OpR X (compareOp op) r) (hf : OpD X.K X.mg r f) (ha : PO X F W a ga) (hb : PO X F W b gb) (hm : behindInMarks op b = false) : PD X F W (.Compare a [op] [b] pos) (gBin f ga gb) :=
  ⟨(pe_cmpR ho ha.pe hb.pe hm).imp fun σ H Q q => bin_imp hf q⟩
/-- a value as a test: True or False -/
def gB (g : GE) : GT := fun S => (g S).bind fun sv S1 => match sv with
  | .dat (.bl b) => .ok b S1
  | _ => .bad
theorem gB_imp {g : GE} {t : TE} (i : ∀ σ H Q, tG X.K X.mg F W (RE X.K X.mg F) g σ H Q → t σ H Q) {σ : L2.St} {H : Hp} {Q : Bool → Hp → Prop} (q : tG X.K X.mg F W RB (gB g) σ H Q) : tTest t σ H Q := by
  refine i σ H _ (tG.bind q fun sv S1 v H1 I1 r s k => ?_)
  cases sv with
  | no => exact k.elim
  | exc _ => exact k.elim
  | own _ _ => exact k.elim
  | dat d =>
    cases d with
    | bl b => exact ⟨b, r, k.ok (R := RB) I1 rfl⟩
    | _ => exact k.elim
theorem pb_cmp {op : CmpOp} (ho : OpR X (compareOp op) r) (hf : OpD X.K X.mg r f) (ha : PO X F W a ga) (hb : PO X F W b gb) (hm : behindInMarks op b = false) : PB X F W (.Compare a [op] [b] pos) (gB (gBin f ga gb)) :=
  ⟨(pt_cmpR ho ha.pe hb.pe hm).imp fun σ H Q q => gB_imp (fun σ H Q z => bin_imp hf z) q⟩
/-- a < b < c -/
def gChain (f f' : D → D → Option SV) (ga gb gc : GO) : GE := fun S => (ga S).bind fun o1 S1 => (gb S1).bind fun o2 S2 => match o1.get S2, o2.get S2 with
  | some d1, some d2 => (match f d1 d2 with
    | some (.dat (.bl true)) => (gc S2).bind fun o3 S3 => (match o2.get S3, o3.get S3 with
      | some d2, some d3 => (match f' d2 d3 with
        | some sv => .ok sv S3
        | none => .bad)
      | _, _ => .bad)
    | some (.dat (.bl false)) => .ok (.dat (.bl false)) S2
    | _ => .bad)
  | _, _ => .bad
theorem chain_imp (hf : OpD X.K X.mg r f) (hf' : OpD X.K X.mg r' f') {σ : L2.St} {H : Hp} {Q : VK} (q : tG X.K X.mg F W (RE X.K X.mg F) (gChain f f' ga gb gc) σ H Q) :
    tChain r r' (tG X.K X.mg F W (RO X.K X.mg) ga) (tG X.K X.mg F W (RO X.K X.mg) gb) (tG X.K X.mg F W (RO X.K X.mg) gc) σ H Q := by
  refine tG.bind q fun o1 S1 x H1 I1 r1 _ k => ?_
  refine tG.bind (k.tg (g := fun S1 => (gb S1).bind fun o2 S2 => match o1.get S2, o2.get S2 with
    | some d1, some d2 => (match f d1 d2 with
      | some (.dat (.bl true)) => (gc S2).bind fun o3 S3 => (match o2.get S3, o3.get S3 with
        | some d2, some d3 => (match f' d2 d3 with
          | some sv => .ok sv S3
          | none => .bad)
        | _, _ => .bad)
      | some (.dat (.bl false)) => .ok (.dat (.bl false)) S2
      | _ => .bad)
    | _, _ => .bad) I1) fun o2 S2 y H2 I2 r2 s2 k2 => ?_
  cases e1 : o1.get S2 with
  | none =>
    simp only [e1] at k2
    exact k2.elim
  | some d1 =>
    cases e2 : o2.get S2 with
    | none =>
      simp only [e1, e2] at k2
      exact k2.elim
    | some d2 =>
      cases e3 : f d1 d2 with
      | none =>
        simp only [e1, e2, e3] at k2
        exact k2.elim
      | some sv =>
        simp only [e1, e2, e3] at k2
        refine hf H2 x y d1 d2 sv _ (RO.unf I2 (RO.stay (S' := S2) s2 r1) e1) (RO.unf I2 r2 e2) e3 fun v H' s n => ?_
        cases sv with
        | no => exact k2.elim
        | exc _ => exact k2.elim
        | own _ _ => exact k2.elim
        | dat d =>
          cases d with
          | bl b =>
            refine ⟨b, n, ?_⟩
            cases b with
            | false => exact iteF (k2.okN I2 s rfl)
            | true =>
              refine iteT ?_
              have I3 := I2.same s
              have st := Stay.of_same s
              have k2' : OutG X.K X.mg F W (RE X.K X.mg F) σ H2 ((gc S2).bind fun o3 S3 => (match o2.get S3, o3.get S3 with
                | some d2, some d3 => (match f' d2 d3 with
                  | some sv => .ok sv S3
                  | none => .bad)
                | _, _ => .bad)) Q := k2
              refine tG.bind ((k2'.weak st).tg (g := fun S2 => (gc S2).bind fun o3 S3 => (match o2.get S3, o3.get S3 with
                | some d2, some d3 => (match f' d2 d3 with
                  | some sv => .ok sv S3
                  | none => .bad)
                | _, _ => .bad)) I3) fun o3 S3 z H3 I4 r3 s3 k3 => ?_
              cases e4 : o2.get S3 with
              | none =>
                simp only [e4] at k3
                exact k3.elim
              | some d2' =>
                cases e5 : o3.get S3 with
                | none =>
                  simp only [e4, e5] at k3
                  exact k3.elim
                | some d3 =>
                  cases e6 : f' d2' d3 with
                  | none =>
                    simp only [e4, e5, e6] at k3
                    exact k3.elim
                  | some sv =>
                    simp only [e4, e5, e6] at k3
                    exact hf' H3 y z d2' d3 sv Q (RO.unf I4 (RO.stay (S' := S3) (st.trans s3) r2) e4) (RO.unf I4 r3 e5) e6 fun v H' s n => k3.okN I4 s (RN.rv I4 n)
          | _ => exact k2.elim
theorem pd_chain {op op' : CmpOp} (ho : OpR X (compareOp op) r) (hf : OpD X.K X.mg r f) (ho' : OpR X (compareOp op') r') (hf' : OpD X.K X.mg r' f') (ha : PO X F W a ga) (hb : PO X F W b gb) (hc : PO X F W c gc)
    (hm : lastMarks [op, op'] [b, c] = false := by with_unfolding_all rfl) : PD X F W (.Compare a [op, op'] [b, c] pos) (gChain f f' ga gb gc) :=
  ⟨(pe_chain ho ho' ha.pe hb.pe hc.pe hm).imp fun σ H Q q => chain_imp hf hf' q⟩
theorem pb_chain {op op' : CmpOp} (ho : OpR X (compareOp op) r) (hf : OpD X.K X.mg r f) (ho' : OpR X (compareOp op') r') (hf' : OpD X.K X.mg r' f') (ha : PO X F W a ga) (hb : PO X F W b gb) (hc : PO X F W c gc)
    (hm : lastMarks [op, op'] [b, c] = false := by with_unfolding_all rfl) : PB X F W (.Compare a [op, op'] [b, c] pos) (gB (gChain f f' ga gb gc)) :=
  ⟨(pt_chain ho ho' ha.pe hb.pe hc.pe hm).imp fun σ H Q q => gB_imp (fun σ H Q z => chain_imp hf hf' z) q⟩
end
end Pd
end PdD_text

section PdE_text
set_option maxHeartbeats 4000000
namespace Pd
open PySem PySem.Spec PyProof.Rows L2
section
variable {X : Cx} {F : Fx} {W : WX} {a b c e : Expr} {es rest : List Expr} {pos : Pos}
/-! ### and, or, not, if -/
def gAnd (g h : GT) : GT := fun S => (g S).bind fun b S1 => if b = true then h S1 else .ok false S1
def gOr (g h : GT) : GT := fun S => (g S).bind fun b S1 => if b = true then .ok true S1 else h S1
def gNot (g : GT) : GT := fun S => (g S).bind fun b S1 => .ok (!b) S1
theorem pw_and1 {g : GT} (h : PB X F W a g) : PBw X F W (.BoolOp .And [a] pos) g := ⟨L2.pw_and1 h.pt⟩
theorem pw_or1 {g : GT} (h : PB X F W a g) : PBw X F W (.BoolOp .Or [a] pos) g := ⟨L2.pw_or1 h.pt⟩
theorem pw_and {g k : GT} (ha : PB X F W a g) (hb : PBw X F W (.BoolOp .And (b :: rest) pos) k) : PBw X F W (.BoolOp .And (a :: b :: rest) pos) (gAnd g k) :=
  ⟨(L2.pw_and ha.pt hb.pw).imp fun σ H Q q => tG.bind q fun d S1 x H1 I1 r s z => by
    have r' : d = x := r
    subst r'
    cases d with
    | true => exact iteT (z.tg I1)
    | false => exact iteF (z.ok (R := RB) I1 rfl)⟩
theorem pw_or {g k : GT} (ha : PB X F W a g) (hb : PBw X F W (.BoolOp .Or (b :: rest) pos) k) : PBw X F W (.BoolOp .Or (a :: b :: rest) pos) (gOr g k) :=
  ⟨(L2.pw_or ha.pt hb.pw).imp fun σ H Q q => tG.bind q fun d S1 x H1 I1 r s z => by
    have r' : d = x := r
    subst r'
    cases d with
    | true => exact iteT (z.ok (R := RB) I1 rfl)
    | false => exact iteF (z.tg I1)⟩
theorem pb_not {g : GT} (h : PB X F W a g) : PB X F W (.UnaryOp .Not a pos) (gNot g) :=
  ⟨(L2.pt_not h.pt).imp fun σ H Q q => tG.bind q fun d S1 x H1 I1 r s z => by
    have r' : d = x := r
    subst r'
    exact z.ok (R := RB) I1 rfl⟩
/-- .. as values -/
def gAndV (g h : GE) : GE := fun S => (g S).bind fun sv S1 => match sv with
  | .dat (.bl true) => h S1
  | .dat (.bl false) => .ok (.dat (.bl false)) S1
  | _ => .bad
def gOrV (g h : GE) : GE := fun S => (g S).bind fun sv S1 => match sv with
  | .dat (.bl true) => .ok (.dat (.bl true)) S1
  | .dat (.bl false) => h S1
  | _ => .bad
def gNotV (g : GE) : GE := fun S => (g S).bind fun sv S1 => match sv with
  | .dat (.bl b) => .ok (.dat (.bl (!b))) S1
  | _ => .bad
theorem pd_one {op} {g : GE} (h : PD X F W a g) : PD X F W (.BoolOp op [a] pos) g := ⟨L2.pe_one h.pe⟩
theorem pd_and {g k : GE} (ha : PD X F W a g) (hb : PD X F W (.BoolOp .And (b :: rest) pos) k) : PD X F W (.BoolOp .And (a :: b :: rest) pos) (gAndV g k) :=
  ⟨(L2.pe_and ha.pe hb.pe).imp fun σ H Q q => tG.bind q fun sv S1 x H1 I1 r s z => by
    cases sv with
    | no => exact z.elim
    | exc _ => exact z.elim
    | own _ _ => exact z.elim
    | dat d =>
      cases d with
      | bl d =>
        have r' : x = .bl d := r
        subst r'
        cases d with
        | true => exact ⟨true, rfl, iteT (z.tg I1)⟩
        | false => exact ⟨false, rfl, iteF (z.ok (a := SV.dat (.bl false)) I1 rfl)⟩
      | _ => exact z.elim⟩
theorem pd_or {g k : GE} (ha : PD X F W a g) (hb : PD X F W (.BoolOp .Or (b :: rest) pos) k) : PD X F W (.BoolOp .Or (a :: b :: rest) pos) (gOrV g k) :=
  ⟨(L2.pe_or ha.pe hb.pe).imp fun σ H Q q => tG.bind q fun sv S1 x H1 I1 r s z => by
    cases sv with
    | no => exact z.elim
    | exc _ => exact z.elim
    | own _ _ => exact z.elim
    | dat d =>
      cases d with
      | bl d =>
        have r' : x = .bl d := r
        subst r'
        cases d with
        | true => exact ⟨true, rfl, iteT (z.ok (a := SV.dat (.bl true)) I1 rfl)⟩
        | false => exact ⟨false, rfl, iteF (z.tg I1)⟩
      | _ => exact z.elim⟩
theorem pd_not {g : GE} (ha : PD X F W a g) : PD X F W (.UnaryOp .Not a pos) (gNotV g) :=
  ⟨(L2.pe_not ha.pe).imp fun σ H Q q => tG.bind q fun sv S1 x H1 I1 r s z => by
    cases sv with
    | no => exact z.elim
    | exc _ => exact z.elim
    | own _ _ => exact z.elim
    | dat d =>
      cases d with
      | bl d =>
        have r' : x = .bl d := r
        subst r'
        exact ⟨d, rfl, z.ok (a := SV.dat (.bl !d)) I1 rfl⟩
      | _ => exact z.elim⟩
def gIf (g : GT) (h k : GE) : GE := fun S => (g S).bind fun b S1 => if b = true then h S1 else k S1
theorem pd_if {g : GT} {h k : GE} (hc : PB X F W c g) (ha : PD X F W a h) (hb : PD X F W b k) : PD X F W (.IfExp c a b pos) (gIf g h k) :=
  ⟨(L2.pe_ifExp hc.pt ha.pe hb.pe).imp fun σ H Q q => tG.bind q fun d S1 x H1 I1 r s z => by
    have r' : d = x := r
    subst r'
    cases d with
    | true => exact iteT (z.tg (g := h) I1)
    | false => exact iteF (z.tg (g := k) I1)⟩
/-- a value that is a bool, as a test -/
theorem pb_val {g : GE} (h : PD X F W e g) (he : ∀ whole, isTrue e X.env whole = (do let v ← whole; standAt e.pos; holding [v] (truthy v)) := by intro _; rfl) : PB X F W e (gB g) :=
  ⟨(pt_val h.pe he).imp fun σ H Q q => gB_imp (t := tG X.K X.mg F W (RE X.K X.mg F) g) (fun _ _ _ z => z) q⟩
/-- any value's truth -/
def D.truth : D → Option Bool
  | .non => some false
  | .bl b => some b
  | .int i => some (i != 0)
  | .str x => if Fits x.length then some ((x.length : Int) != 0) else none
  | .tup ds => some (!ds.isEmpty)
  | .lst ds => some (!ds.isEmpty)
  | _ => none
def gTru (g : GO) : GT := fun S => (g S).bind fun o S1 => match o.get S1 with
  | some d => (match d.truth with
    | some b => .ok b S1
    | none => .bad)
  | none => .bad
theorem Reps.emp {K : PySem.W.Frag} {mg : Str → Option Value} {H : Hp} {ds : List D} {vs : List V} (h : Reps K mg H ds vs) : vs.isEmpty = ds.isEmpty := by
  cases ds with
  | nil =>
    cases h
    rfl
  | cons d ds =>
    obtain ⟨v, r, rfl, _, _⟩ := h
    rfl
theorem truth_ok {K : PySem.W.Frag} {mg : Str → Option Value} {H : Hp} {d : D} {v : V} {b : Bool} (h : RepU K mg H d v) (e : d.truth = some b) : TruV K v H b := by
  cases d with
  | non =>
    rw [h.non]
    exact (Option.some.inj e).symm
  | bl x =>
    rw [h.bl]
    exact (Option.some.inj e).symm
  | int i =>
    rw [h.int]
    exact (Option.some.inj e).symm
  | str x =>
    rw [h.str]
    have e' : (if Fits x.length then some ((x.length : Int) != 0) else none) = some b := e
    by_cases hl : Fits x.length
    · rw [if_pos hl] at e'
      exact ⟨hl.le, (Option.some.inj e').symm⟩
    · rw [if_neg hl] at e'
      cases e'
  | tup ds =>
    obtain ⟨a, vs, rfl, q, r⟩ := h.tup
    exact .inr (.inl ⟨vs, q.sq, by rw [r.emp]; exact (Option.some.inj e).symm⟩)
  | lst ds =>
    obtain ⟨a, vs, rfl, q, r⟩ := h.lst
    exact .inl ⟨vs, q, by rw [r.emp]; exact (Option.some.inj e).symm⟩
  | _ => cases e
theorem pb_tru {g : GO} (h : PO X F W e g) (he : ∀ whole, isTrue e X.env whole = (do let v ← whole; standAt e.pos; holding [v] (truthy v)) := by intro _; rfl) : PB X F W e (gTru g) :=
  ⟨(pt_truth h.pe he).imp fun σ H Q q => tG.bind q fun o S1 x H1 I1 r s z => by
    cases e1 : o.get S1 with
    | none =>
      simp only [e1] at z
      exact z.elim
    | some d =>
      cases e2 : d.truth with
      | none =>
        simp only [e1, e2] at z
        exact z.elim
      | some b =>
        simp only [e1, e2] at z
        exact ⟨b, truth_ok (RO.unf I1 r e1) e2, z.ok (R := RB) I1 rfl⟩⟩
/-! ### lists of values -/
abbrev GVs := List SV → Res (List D)
abbrev RDs (K : PySem.W.Frag) (mg : Str → Option Value) : L2.St → Hp → List SV → List D → List V → Prop := fun _ H _ ds vs => Reps K mg H ds vs
structure PVs (X : Cx) (F : Fx) (W : WX) (es : List Expr) (g : GVs) : Prop where
  pa : PA X es (tG X.K X.mg F W (RDs X.K X.mg) g)
def gsNil : GVs := fun S => .ok [] S
def gsCons (g : GV) (h : GVs) : GVs := fun S => (g S).bind fun d S1 => (h S1).bind fun ds S2 => .ok (d :: ds) S2
theorem pvs_nil : PVs X F W [] gsNil := ⟨pa_nil.imp fun σ H Q ⟨S, I, q⟩ => q.ok (R := RDs X.K X.mg) I rfl⟩
theorem pvs_cons {g : GV} {h : GVs} (ha : PV X F W e g) (hr : PVs X F W es h) (hs : starEach (e :: es) X.env = (false, eval e X.env) :: starEach es X.env := by rfl) : PVs X F W (e :: es) (gsCons g h) :=
  ⟨(pa_cons ha.pe hr.pa hs).imp fun σ H Q q => tG.bind q fun d S1 x H1 I1 r s z =>
    tG.bind (z.tg (g := fun S1 => (h S1).bind fun ds S2 => .ok (d :: ds) S2) I1) fun ds S2 xs H2 I2 r2 s2 z2 => z2.ok (R := RDs X.K X.mg) I2 (Reps.cons (r.stay s2 _ _) r2)⟩
/-- the same as operands (for calls) -/
def gaNil : GA := fun S => .ok [] S
def gaCons (g : GO) (h : GA) : GA := fun S => (g S).bind fun o S1 => (h S1).bind fun os S2 => .ok (o :: os) S2
theorem pas_nil : PAs X F W [] gaNil := ⟨pa_nil.imp fun σ H Q ⟨S, I, q⟩ => q.ok (R := ROs X.K X.mg) I .nil⟩
theorem pas_cons {g : GO} {h : GA} (ha : PO X F W e g) (hr : PAs X F W es h) (hs : starEach (e :: es) X.env = (false, eval e X.env) :: starEach es X.env := by rfl) : PAs X F W (e :: es) (gaCons g h) :=
  ⟨(pa_cons ha.pe hr.pa hs).imp fun σ H Q q => tG.bind q fun o S1 x H1 I1 r s z =>
    tG.bind (z.tg (g := fun S1 => (h S1).bind fun os S2 => .ok (o :: os) S2) I1) fun os S2 xs H2 I2 r2 s2 z2 => z2.ok (R := ROs X.K X.mg) I2 (.cons (RO.stay (S := S1) (S' := S2) s2 r) r2)⟩
/-- a tuple, a list -/
def gTup (g : GVs) : GV := fun S => (g S).bind fun ds S1 => if Fits ds.length then .ok (.tup ds) S1 else .bad
def gLst (g : GVs) : GE := fun S => (g S).bind fun ds S1 => if Fits ds.length then .ok (.own true (.lst ds)) S1 else .bad
theorem pv_tup {g : GVs} {x1} (h : PVs X F W es g) : PV X F W (.Tuple es x1 pos) (gTup g) :=
  ⟨(pe_tup h.pa).imp fun σ H Q q => tG.bind q fun ds S1 xs H1 I1 r s z => by
    have r' : Reps X.K X.mg H1 ds xs := r
    by_cases hl : Fits ds.length
    · rw [if_pos hl] at z
      refine ⟨by rw [r'.len]; exact hl.le, fun p hp => ?_⟩
      exact z.okN (R := RD X.K X.mg) I1 (same_upd hp) ⟨p, xs, rfl, .inl upd_same, r'.stay (Stay.of_same (same_upd hp)) _ _⟩
    · rw [if_neg hl] at z
      exact z.elim⟩
theorem pd_lst {g : GVs} (h : PVs X F W es g) : PD X F W (.List es pos) (gLst g) :=
  ⟨(pe_lst h.pa).imp fun σ H Q q => tG.bind q fun ds S1 xs H1 I1 r s z => by
    have r' : Reps X.K X.mg H1 ds xs := r
    by_cases hl : Fits ds.length
    · rw [if_pos hl] at z
      refine ⟨by rw [r'.len]; exact hl.le, fun p hp => ?_⟩
      exact z.okN (R := RE X.K X.mg F) I1 (same_upd hp) (RN.rv I1 (sv := .own true (.lst ds)) ⟨rfl, p, _, rfl, hp, upd_same, xs, rfl, r'.stay (Stay.of_same (same_upd hp)) _ _⟩)
    · rw [if_neg hl] at z
      exact z.elim⟩
/-! ### one-place operations -/
def UnD (K : PySem.W.Frag) (mg : Str → Option Value) (r : V → Hp → VK → Prop) (f : D → Option SV) : Prop :=
  ∀ (H : Hp) (x : V) (d : D) (sv : SV) (Q : VK), RepU K mg H d x → f d = some sv → (∀ v H', Same H H' → RN K mg H H' v sv → Q v H') → r x H Q
def gUn (f : D → Option SV) (g : GO) : GE := fun S => (g S).bind fun o S1 => match o.get S1 with
  | some d => (match f d with
    | some sv => .ok sv S1
    | none => .bad)
  | none => .bad
theorem un_imp {r : V → Hp → VK → Prop} {f : D → Option SV} {g : GO} (hf : UnD X.K X.mg r f) {σ : L2.St} {H : Hp} {Q : VK} (q : tG X.K X.mg F W (RE X.K X.mg F) (gUn f g) σ H Q) : tG X.K X.mg F W (RO X.K X.mg) g σ H (fun x H1 => r x H1 Q) :=
  tG.bind q fun o S1 x H1 I1 r1 s z => by
    cases e1 : o.get S1 with
    | none =>
      simp only [e1] at z
      exact z.elim
    | some d =>
      cases e2 : f d with
      | none =>
        simp only [e1, e2] at z
        exact z.elim
      | some sv =>
        simp only [e1, e2] at z
        exact hf H1 x d sv Q (RO.unf I1 r1 e1) e2 fun v H' s n => z.okN I1 s (RN.rv I1 n)
theorem pd_un {op : UnaryOp} {r : V → Hp → VK → Prop} {f : D → Option SV} {g : GO} (ho : UnR X (unaryOp op) r) (hf : UnD X.K X.mg r f) (h : PO X F W a g) : PD X F W (.UnaryOp op a pos) (gUn f g) :=
  ⟨(pe_un ho h.pe).imp fun σ H Q q => un_imp hf q⟩
/-! ### subscripts -/
theorem orIx {r r' : R2} (h : IxR X r) (h' : IxR X r') : IxR X (fun x y H Q => r x y H Q ∨ r' x y H Q) := h.or h'
theorem pd_ix {r : R2} {f : D → D → Option SV} {ga gb : GO} (hr : IxR X r) (hf : OpD X.K X.mg r f) (ha : PO X F W a ga) (hb : PO X F W b gb) (hs : PlainIx b) : PD X F W (.Subscript a b pos) (gBin f ga gb) :=
  ⟨(pe_ix hr ha.pe hb.pe hs).imp fun σ H Q q => bin_imp hf q⟩
/-- a part of a slice -/
abbrev GP := List SV → Res (Option Int)
structure PP (X : Cx) (F : Fx) (W : WX) (e : Option Expr) (g : GP) : Prop where
  po : L2.PO X e (tG X.K X.mg F W (fun _ _ _ (a b : Option Int) => a = b) g)
def gpNone : GP := fun S => .ok none S
def gpSome (g : GO) : GP := fun S => (g S).bind fun o S1 => match o.get S1 with
  | some (.int i) => .ok (some i) S1
  | _ => .bad
theorem _root_.L2.PO.imp {X : Cx} {e : Option Expr} {t t' : TO} (h : L2.PO X e t) (i : ∀ σ H Q, t' σ H Q → t σ H Q) : L2.PO X e t' := ⟨fun pins s σ H Q I q => h.run pins s σ H Q I (i σ H Q q)⟩
theorem pp_none : PP X F W none gpNone := ⟨po_none.imp fun σ H Q ⟨S, I, q⟩ => q.ok (R := fun _ _ _ (a b : Option Int) => a = b) I rfl⟩
theorem pp_some {g : GO} (h : PO X F W e g) : PP X F W (some e) (gpSome g) :=
  ⟨(po_some h.pe).imp fun σ H Q q => tG.bind q fun o S1 x H1 I1 r s z => by
    cases e1 : o.get S1 with
    | none =>
      simp only [e1] at z
      exact z.elim
    | some d =>
      cases d with
      | int i =>
        simp only [e1] at z
        exact ⟨i, (RO.unf I1 r e1).int, z.ok (R := fun _ _ _ (a b : Option Int) => a = b) I1 rfl⟩
      | _ =>
        simp only [e1] at z
        exact z.elim⟩
def SlD (K : PySem.W.Frag) (mg : Str → Option Value) (r : V → Option Int → Option Int → Hp → VK → Prop) (f : D → Option Int → Option Int → Option SV) : Prop :=
  ∀ (H : Hp) (x : V) (d : D) (lo hi : Option Int) (sv : SV) (Q : VK), RepU K mg H d x → f d lo hi = some sv → (∀ v H', Same H H' → RN K mg H H' v sv → Q v H') → r x lo hi H Q
def gSl (f : D → Option Int → Option Int → Option SV) (g : GO) (l h : GP) : GE := fun S => (g S).bind fun o S1 => (l S1).bind fun lo S2 => (h S2).bind fun hi S3 => match o.get S3 with
  | some d => (match f d lo hi with
    | some sv => .ok sv S3
    | none => .bad)
  | none => .bad
theorem pd_sl {r : V → Option Int → Option Int → Hp → VK → Prop} {f : D → Option Int → Option Int → Option SV} {g : GO} {l h : GP} {lo hi : Option Expr} {p2 : Pos} (hr : SlR X r) (hf : SlD X.K X.mg r f) (he : PO X F W e g) (hl : PP X F W lo l) (hh : PP X F W hi h) :
    PD X F W (.Subscript e (.Slice lo hi none p2) pos) (gSl f g l h) :=
  ⟨(pe_slice hr he.pe hl.po hh.po).imp fun σ H Q q => tG.bind q fun o S1 x H1 I1 r1 s1 z1 =>
    tG.bind (z1.tg (g := fun S1 => (l S1).bind fun lo S2 => (h S2).bind fun hi S3 => match o.get S3 with
      | some d => (match f d lo hi with
        | some sv => .ok sv S3
        | none => .bad)
      | none => .bad) I1) fun lo S2 y H2 I2 r2 s2 z2 =>
    tG.bind (z2.tg (g := fun S2 => (h S2).bind fun hi S3 => match o.get S3 with
      | some d => (match f d lo hi with
        | some sv => .ok sv S3
        | none => .bad)
      | none => .bad) I2) fun hi S3 w H3 I3 r3 s3 z3 => by
    have r2' : lo = y := r2
    have r3' : hi = w := r3
    subst r2' r3'
    cases e1 : o.get S3 with
    | none =>
      simp only [e1] at z3
      exact z3.elim
    | some d =>
      cases e2 : f d lo hi with
      | none =>
        simp only [e1, e2] at z3
        exact z3.elim
      | some sv =>
        simp only [e1, e2] at z3
        exact hf H3 x d lo hi sv Q (RO.unf I3 (RO.stay (S' := S3) (s2.trans s3) r1) e1) e2 fun v H' s n => z3.okN I3 s (RN.rv I3 n)⟩
/-! ### calls of built-in functions and types -/
def ROu (K : PySem.W.Frag) (mg : Str → Option Value) (H : Hp) (ds : List D) (vs : List V) : Prop := Paired (fun d v => RepU K mg H d v) ds vs
def gets (S : List SV) : List Opd → Option (List D)
  | [] => some []
  | o :: os => match o.get S with
    | some d => (match gets S os with
      | some ds => some (d :: ds)
      | none => none)
    | none => none
theorem ROs.unf {K : PySem.W.Frag} {mg : Str → Option Value} {σ : L2.St} {H : Hp} {S S0 : List SV} (I : EnvD K mg F σ H S) : ∀ {os : List Opd} {vs : List V} {ds : List D}, ROs K mg σ H S0 os vs → gets S os = some ds → ROu K mg H ds vs
  | [], _, _, .nil, e => by
    cases e
    exact .nil
  | o :: os, _, _, .cons h r, e => by
    unfold gets at e
    cases e1 : o.get S with
    | none =>
      rw [e1] at e
      cases e
    | some d =>
      rw [e1] at e
      cases e2 : gets S os with
      | none =>
        simp only [e2] at e
        cases e
      | some ds =>
        simp only [e2] at e
        cases e
        exact .cons (RO.unf I h e1) (ROs.unf I (S0 := S0) r e2)
def CallD (K : PySem.W.Frag) (mg : Str → Option Value) (r : List V → Hp → VK → Prop) (f : List D → Option SV) : Prop :=
  ∀ (H : Hp) (xs : List V) (ds : List D) (sv : SV) (Q : VK), ROu K mg H ds xs → f ds = some sv → (∀ v H', Same H H' → RN K mg H H' v sv → Q v H') → r xs H Q
def gCall (f : List D → Option SV) (g : GA) : GE := fun S => (g S).bind fun os S1 => match gets S1 os with
  | some ds => (match f ds with
    | some sv => .ok sv S1
    | none => .bad)
  | none => .bad
theorem call_imp {r : List V → Hp → VK → Prop} {f : List D → Option SV} {g : GA} (hf : CallD X.K X.mg r f) {σ : L2.St} {H : Hp} {Q : VK} (q : tG X.K X.mg F W (RE X.K X.mg F) (gCall f g) σ H Q) : tG X.K X.mg F W (ROs X.K X.mg) g σ H (fun x H1 => r x H1 Q) :=
  tG.bind q fun os S1 xs H1 I1 r1 s z => by
    cases e1 : gets S1 os with
    | none =>
      simp only [e1] at z
      exact z.elim
    | some ds =>
      cases e2 : f ds with
      | none =>
        simp only [e1, e2] at z
        exact z.elim
      | some sv =>
        simp only [e1, e2] at z
        exact hf H1 xs ds sv Q (ROs.unf I1 (S0 := S1) r1 e1) e2 fun v H' s n => z.okN I1 s (RN.rv I1 n)
theorem pd_callB {r : List V → Hp → VK → Prop} {f : List D → Option SV} {g : GA} {id : String} {x : Str} {p : Pos} (hc : CallR X (.builtin id) r) (hf : CallD X.K X.mg r f) (hg : Gl X x) (hm : X.mg x = none) (hv : bootBuiltins x = some (.builtin id)) (ha : PAs X F W (e :: es) g)
    (hn : x ≠ "__name__" := by decide) (hdb : (x == ("__debug__" : Str)) = false := by decide) (he : starEach (e :: es) X.env = (false, eval e X.env) :: starEach es X.env := by rfl) (hpl : (backTo pos (starEach es X.env)).any (·.1) = false := by rfl) :
    PD X F W (.Call (.Name x p) (e :: es) [] pos) (gCall f g) := ⟨(pe_callB hc hg hm hv ha.pa hn hdb he hpl).imp fun σ H Q q => call_imp hf q⟩
theorem pd_callTy {r : List V → Hp → VK → Prop} {f : List D → Option SV} {g : GA} {T : String} {x : Str} {p : Pos} (hc : CallR X (.type T) r) (hf : CallD X.K X.mg r f) (hg : Gl X x) (hm : X.mg x = none) (hv : bootBuiltins x = some (.type T)) (ha : PAs X F W (e :: es) g)
    (hn : x ≠ "__name__" := by decide) (hdb : (x == ("__debug__" : Str)) = false := by decide) (he : starEach (e :: es) X.env = (false, eval e X.env) :: starEach es X.env := by rfl) (hpl : (backTo pos (starEach es X.env)).any (·.1) = false := by rfl) :
    PD X F W (.Call (.Name x p) (e :: es) [] pos) (gCall f g) := ⟨(pe_callTy hc hg hm hv ha.pa hn hdb he hpl).imp fun σ H Q q => call_imp hf q⟩
end
end Pd
end PdE_text

section PdG_text
set_option maxHeartbeats 4000000
namespace Pd
open PySem PySem.Spec PyProof.Rows L2
/-! ### statements -/
/-- how a statement ends -/
inductive Fl where
  | nx (S : List SV) | rt (sv : SV) (S : List SV) | bk (S : List SV) | ct (S : List SV) | exc (e : Ex) (S : List SV) | bad
abbrev GS := List SV → Fl
def Fl.bind (r : Fl) (f : GS) : Fl := match r with
  | .nx S => f S
  | r => r
def Res.st {α : Type} (r : Res α) (f : α → List SV → Fl) : Fl := match r with
  | .ok a S => f a S
  | .exc e S => .exc e S
  | .bad => .bad
@[simp] theorem Fl.bind_nx (S : List SV) (f : GS) : (Fl.nx S).bind f = f S := rfl
@[simp] theorem Fl.bind_rt (sv : SV) (S : List SV) (f : GS) : (Fl.rt sv S).bind f = .rt sv S := rfl
@[simp] theorem Fl.bind_bk (S : List SV) (f : GS) : (Fl.bk S).bind f = .bk S := rfl
@[simp] theorem Fl.bind_ct (S : List SV) (f : GS) : (Fl.ct S).bind f = .ct S := rfl
@[simp] theorem Fl.bind_exc (e : Ex) (S : List SV) (f : GS) : (Fl.exc e S).bind f = .exc e S := rfl
@[simp] theorem Fl.bind_bad (f : GS) : Fl.bad.bind f = .bad := rfl
@[simp] theorem Res.st_ok {α : Type} (a : α) (S : List SV) (f : α → List SV → Fl) : (Res.ok a S).st f = f a S := rfl
@[simp] theorem Res.st_exc {α : Type} (e : Ex) (S : List SV) (f : α → List SV → Fl) : (Res.exc e S : Res α).st f = .exc e S := rfl
@[simp] theorem Res.st_bad {α : Type} (f : α → List SV → Fl) : (Res.bad : Res α).st f = .bad := rfl
/-- the slots beside these are as they were -/
def Agr (m : List Nat) (σ σ' : L2.St) : Prop := ∀ j, j ∉ m → σ'[j]? = σ[j]?
theorem Agr.refl {m : List Nat} {σ : L2.St} : Agr m σ σ := fun _ _ => rfl
theorem Agr.trans {m n : List Nat} {σ σ1 σ2 : L2.St} (a : Agr m σ σ1) (b : Agr n σ1 σ2) : Agr (m ++ n) σ σ2 := fun j h => by
  rw [b j (fun z => h (List.mem_append_right _ z)), a j (fun z => h (List.mem_append_left _ z))]
theorem Agr.sub {m n : List Nat} {σ σ1 : L2.St} (a : Agr m σ σ1) (h : ∀ j ∈ m, j ∈ n) : Agr n σ σ1 := fun j z => a j fun y => z (h j y)
section
variable (K : PySem.W.Frag) (mg : Str → Option Value) (F : Fx) (W : WX)
def OutS (m : List Nat) (σ : L2.St) (H : Hp) (r : Fl) (D : Ends) : Prop := match r with
  | .nx S => ∀ σ' H', EnvD K mg F σ' H' S → Agr m σ σ' → Stay H H' → D.nx σ' H'
  | .rt sv S => ∀ v σ' H', EnvD K mg F σ' H' S → RV K mg F σ' H' S v sv → Agr m σ σ' → Stay H H' → D.rt v H'
  | .bk S => ∀ σ' H', EnvD K mg F σ' H' S → Agr m σ σ' → Stay H H' → D.bk σ' H'
  | .ct S => ∀ σ' H', EnvD K mg F σ' H' S → Agr m σ σ' → Stay H H' → D.ct σ' H'
  | .exc e S => ∀ cls d σ' H', EnvD K mg F σ' H' S → ExcRep K mg H' e cls d → Agr m σ σ' → Stay H H' → W cls d σ' H'
  | .bad => False
def tS (m : List Nat) (g : GS) : TS := fun D σ H => ∃ S, EnvD K mg F σ H S ∧ OutS K mg F W m σ H (g S) D
end
structure PSD (X : Cx) (F : Fx) (W : WX) (m : List Nat) (st : Stmt) (g : GS) : Prop where
  ps : PS X st (tS X.K X.mg F W m g)
structure PSsD (X : Cx) (F : Fx) (W : WX) (m : List Nat) (st : List Stmt) (g : GS) : Prop where
  ps : PSs X st (tS X.K X.mg F W m g)
section
variable {K : PySem.W.Frag} {mg : Str → Option Value} {F : Fx} {W : WX} {σ σ1 : L2.St} {H H1 : Hp} {m n : List Nat}
theorem OutS.weak {r : Fl} {D : Ends} (q : OutS K mg F W n σ H r D) (a : Agr m σ1 σ) (s : Stay H1 H) (hn : ∀ j ∈ n, j ∈ m) : OutS K mg F W n σ H r D := q
/-- from a later point to an earlier one -/
theorem OutS.back {r : Fl} {D : Ends} (q : OutS K mg F W (m ++ n) σ H r D) (a : Agr m σ σ1) (s : Stay H H1) : OutS K mg F W n σ1 H1 r D := by
  cases r with
  | nx S => exact fun σ' H' I b t => q σ' H' I (a.trans b) (s.trans t)
  | rt sv S => exact fun v σ' H' I r b t => q v σ' H' I r (a.trans b) (s.trans t)
  | bk S => exact fun σ' H' I b t => q σ' H' I (a.trans b) (s.trans t)
  | ct S => exact fun σ' H' I b t => q σ' H' I (a.trans b) (s.trans t)
  | exc e S => exact fun cls d σ' H' I r b t => q cls d σ' H' I r (a.trans b) (s.trans t)
  | bad => exact q
theorem OutS.sub {r : Fl} {D : Ends} (q : OutS K mg F W n σ H r D) (h : ∀ j ∈ m, j ∈ n) : OutS K mg F W m σ H r D := by
  cases r with
  | nx S => exact fun σ' H' I b t => q σ' H' I (b.sub h) t
  | rt sv S => exact fun v σ' H' I r b t => q v σ' H' I r (b.sub h) t
  | bk S => exact fun σ' H' I b t => q σ' H' I (b.sub h) t
  | ct S => exact fun σ' H' I b t => q σ' H' I (b.sub h) t
  | exc e S => exact fun cls d σ' H' I r b t => q cls d σ' H' I r (b.sub h) t
  | bad => exact q
/-- an expression first, then a statement's end -/
theorem tS.expr {α β : Type} {R : L2.St → Hp → List SV → α → β → Prop} {g : List SV → Res α} {f : α → List SV → Fl} {D : Ends} {Q0 : β → Hp → Prop} (h : tS K mg F W m (fun S => (g S).st f) D σ H)
    (k : ∀ a S1 v H1, EnvD K mg F σ H1 S1 → R σ H1 S1 a v → Stay H H1 → OutS K mg F W m σ H1 (f a S1) D → Q0 v H1) : tG K mg F W R g σ H Q0 := by
  obtain ⟨S, I, q0⟩ := h
  have q : OutS K mg F W m σ H ((g S).st f) D := q0
  refine ⟨S, I, ?_⟩
  cases e : g S with
  | ok a S1 =>
    rw [e] at q
    intro v H1 I1 r s
    refine k a S1 v H1 I1 r s ?_
    have q2 : OutS K mg F W ([] ++ m) σ H (f a S1) D := q
    exact q2.back Agr.refl s
  | exc x S1 =>
    rw [e] at q
    exact fun cls d H' I' r s' => q cls d σ H' I' r Agr.refl s'
  | bad =>
    rw [e] at q
    exact q
end
section
variable {X : Cx} {F : Fx} {W : WX} {m n : List Nat} {st : Stmt} {rest : List Stmt} {e c : Expr} {pos : Pos}
/-! ### blocks -/
def gNx : GS := fun S => .nx S
def gSeq (g h : GS) : GS := fun S => (g S).bind h
theorem pss_nil : PSsD X F W m [] gNx := ⟨L2.pss_nil.imp fun D σ H ⟨S, I, q⟩ => q σ H I Agr.refl (Stay.refl H)⟩
theorem pss_one {g : GS} (h : PSD X F W m st g) : PSsD X F W m [st] g := ⟨L2.pss_one h.ps⟩
theorem pss_cons {g h : GS} (h1 : PSD X F W m st g) (h2 : PSsD X F W n rest h) : PSsD X F W (m ++ n) (st :: rest) (gSeq g h) :=
  ⟨(L2.pss_cons h1.ps h2.ps).imp fun D σ H ⟨S, I, q0⟩ => by
    have q : OutS X.K X.mg F W (m ++ n) σ H ((g S).bind h) D := q0
    refine ⟨S, I, ?_⟩
    have hs : ∀ j ∈ m, j ∈ m ++ n := fun j z => List.mem_append_left _ z
    cases e : g S with
    | nx S1 =>
      rw [e] at q
      exact fun σ' H' I' a s => ⟨S1, I', OutS.back q a s⟩
    | rt sv S1 =>
      rw [e] at q
      exact OutS.sub (m := m) (n := m ++ n) (r := .rt sv S1) q hs
    | bk S1 =>
      rw [e] at q
      exact OutS.sub (m := m) (n := m ++ n) (r := .bk S1) q hs
    | ct S1 =>
      rw [e] at q
      exact OutS.sub (m := m) (n := m ++ n) (r := .ct S1) q hs
    | exc x S1 =>
      rw [e] at q
      exact OutS.sub (m := m) (n := m ++ n) (r := .exc x S1) q hs
    | bad =>
      rw [e] at q
      exact q⟩
def gBrk : GS := fun S => .bk S
def gCnt : GS := fun S => .ct S
theorem ps_pass : PSD X F W m (.Pass pos) gNx := ⟨L2.ps_pass.imp fun D σ H ⟨S, I, q⟩ => q σ H I Agr.refl (Stay.refl H)⟩
theorem ps_break : PSD X F W m (.Break pos) gBrk := ⟨L2.ps_break.imp fun D σ H ⟨S, I, q⟩ => q σ H I Agr.refl (Stay.refl H)⟩
theorem ps_continue : PSD X F W m (.Continue pos) gCnt := ⟨L2.ps_continue.imp fun D σ H ⟨S, I, q⟩ => q σ H I Agr.refl (Stay.refl H)⟩
theorem ps_doc {x j pos'} : PSD X F W m (.Expr (.Constant (.str x) j pos) pos') gNx := ⟨L2.ps_doc.imp fun D σ H ⟨S, I, q⟩ => q σ H I Agr.refl (Stay.refl H)⟩
/-- an expression whose value is dropped -/
def gDrop (g : GE) : GS := fun S => (g S).st fun _ S1 => .nx S1
theorem ps_expr {g : GE} (h : PD X F W e g) (hs : swapsWith e none pos.line X.env = pure false := by rfl) : PSD X F W m (.Expr e pos) (gDrop g) :=
  ⟨(L2.ps_expr h.pe hs).imp fun D σ H q => tS.expr q fun sv S1 v H1 I1 r s z => z σ H1 I1 Agr.refl (Stay.refl H1)⟩
def gRet (g : GE) : GS := fun S => (g S).st fun sv S1 => .rt sv S1
theorem ps_ret {g : GE} (h : PD X F W e g) : PSD X F W m (.Return (some e) pos) (gRet g) :=
  ⟨(L2.ps_ret h.pe).imp fun D σ H q => tS.expr q fun sv S1 v H1 I1 r s z => z v σ H1 I1 r Agr.refl (Stay.refl H1)⟩
def gRetN : GS := fun S => .rt (.dat .non) S
theorem ps_retN : PSD X F W m (.Return none pos) gRetN := ⟨L2.ps_retN.imp fun D σ H ⟨S, I, q⟩ => q .non σ H I rfl Agr.refl (Stay.refl H)⟩
def gIfS (g : GT) (h k : GS) : GS := fun S => (g S).st fun b S1 => if b = true then h S1 else k S1
theorem ps_if {g : GT} {h k : GS} {a b : List Stmt} (hc : PB X F W c g) (ha : PSsD X F W m a h) (hb : PSsD X F W n b k) : PSD X F W (m ++ n) (.If c a b pos) (gIfS g h k) :=
  ⟨(L2.ps_if hc.pt ha.ps hb.ps).imp fun D σ H q => tS.expr q fun d S1 x H1 I1 r s z => by
    have r' : d = x := r
    subst r'
    cases d with
    | true => exact iteT ⟨S1, I1, OutS.sub z fun j w => List.mem_append_left _ w⟩
    | false => exact iteF ⟨S1, I1, OutS.sub z fun j w => List.mem_append_right _ w⟩⟩
/-- x = e -/
def gSet (i : Nat) (g : GE) : GS := fun S => (g S).st fun sv S1 => if i < S1.length then .nx (S1.set i sv) else .bad
theorem agr_set {i : Nat} {σ : L2.St} {x : Option V} : Agr [i] σ (σ.set i x) := fun j h => by
  rw [List.getElem?_set_ne (fun z => h (by rw [z]; exact List.mem_singleton_self _))]
theorem set_out {i : Nat} {K : PySem.W.Frag} {mg : Str → Option Value} {σ : L2.St} {H : Hp} {S : List SV} {sv : SV} {v : V} {D : Ends} (I : EnvD K mg F σ H S) (r : RV K mg F σ H S v sv) (z : OutS K mg F W [i] σ H (if i < S.length then .nx (S.set i sv) else .bad) D) :
    D.nx (σ.set i (some v)) H := by
  by_cases hi : i < S.length
  · rw [if_pos hi] at z
    exact z _ _ (I.store hi r) agr_set (Stay.refl H)
  · rw [if_neg hi] at z
    exact z.elim
theorem ps_set {i : Nat} {x : Str} {g : GE} {pos' : Pos} (hN : X.N.Nodup) (hi : X.N[i]? = some x) (hx : Loc X.env.scope x) (he : PD X F W e g) (hs : swapsWith e (some (.Name x pos')) pos.line X.env = pure false := by rfl)
    (hf : X.fn x = true ∨ X.env.scope.names.lookup x = some .local := by first | exact .inl rfl | exact .inr rfl | assumption) : PSD X F W [i] (.Assign [.Name x pos'] e pos) (gSet i g) :=
  ⟨(L2.ps_set hN hi hx he.pe hs hf).imp fun D σ H q => tS.expr q fun sv S1 v H1 I1 r s z => set_out I1 r z⟩
/-- forget slots -/
def wipeS (S : List SV) : List Nat → List SV
  | [] => S
  | v :: vs => (wipeS S vs).set v .no
theorem EnvD.wipes {K : PySem.W.Frag} {mg : Str → Option Value} {σ : L2.St} {H : Hp} {S : List SV} (I : EnvD K mg F σ H S) : ∀ vs : List Nat, EnvD K mg F σ H (wipeS S vs)
  | [] => I
  | v :: vs => (EnvD.wipes I vs).drop v
def gForget (vs : List Nat) (g : GS) : GS := fun S => match g S with
  | .nx S1 => .nx (wipeS S1 vs)
  | r => r
/-- what is dead behind a statement may be forgotten -/
theorem ps_forget {g : GS} (vs : List Nat) (h : PSD X F W m st g) : PSD X F W m st (gForget vs g) :=
  ⟨h.ps.imp fun D σ H ⟨S, I, q0⟩ => by
    refine ⟨S, I, ?_⟩
    have q : OutS X.K X.mg F W m σ H (match g S with
      | .nx S1 => .nx (wipeS S1 vs)
      | r => r) D := q0
    cases e : g S with
    | nx S1 =>
      rw [e] at q
      exact fun σ' H' I' a s => q σ' H' (I'.wipes vs) a s
    | rt sv S1 =>
      rw [e] at q
      exact q
    | bk S1 =>
      rw [e] at q
      exact q
    | ct S1 =>
      rw [e] at q
      exact q
    | exc x S1 =>
      rw [e] at q
      exact q
    | bad =>
      rw [e] at q
      exact q⟩
end
end Pd
end PdG_text

section PdH_text
set_option maxHeartbeats 4000000
namespace Pd
open PySem PySem.Spec PyProof.Rows L2
/-! ### what a def is worth -/
inductive Ar where
  | ret (sv : SV) (outs : List SV) | exc (e : Ex) (outs : List SV) | bad
abbrev Mir := List SV → Ar
def isOwn : Option SV → Bool
  | some (.own _ _) => true
  | _ => false
def bor : List SV → List V → List Addr
  | .own _ _ :: as, .ref a :: vs => a :: bor as vs
  | _ :: as, _ :: vs => bor as vs
  | _, _ => []
section
variable (K : PySem.W.Frag) (mg : Str → Option Value)
def ArgOk (H : Hp) : SV → V → Prop
  | .dat d, v => Rep K mg H d v
  | .own b c, v => b = false ∧ ∃ a ho, v = .ref a ∧ H a = some ho ∧ RepC K mg H c ho
  | _, _ => False
structure ArgsOk (H : Hp) (as : List SV) (vs : List V) : Prop where
  each : Paired (ArgOk K mg H) as vs
  inj : ∀ (i j : Nat) (a : Addr) (b : Bool) (c : Cn) (b' : Bool) (c' : Cn), as[i]? = some (.own b c) → as[j]? = some (.own b' c') → vs[i]? = some (.ref a) → vs[j]? = some (.ref a) → i = j
def BackOk (H' : Hp) : SV → V → Prop
  | .own _ c, v => ∃ a ho, v = .ref a ∧ H' a = some ho ∧ RepC K mg H' c ho
  | .dat d, v => Rep K mg H' d v
  | _, _ => True
structure EndOk (H : Hp) (as : List SV) (vs : List V) (outs : List SV) (H' : Hp) : Prop where
  frame : ∀ b o, H b = some o → b ∉ bor as vs → H' b = some o
  there : ∀ b ∈ bor as vs, ∃ o, H' b = some o
  stay : Stay H H'
  back : ∀ (i : Nat) b c v, as[i]? = some (.own b c) → vs[i]? = some v → ∃ sv, outs[i]? = some sv ∧ BackOk K mg H' sv v
def spD (m : Mir) : Sp := fun vs H Q E => ∃ as, ArgsOk K mg H as vs ∧ match m as with
  | .ret sv outs => ∀ v H', EndOk K mg H as vs outs H' → RN K mg H H' v sv → Q v H'
  | .exc e outs => ∀ cls d H', EndOk K mg H as vs outs H' → ExcRep K mg H' e cls d → E cls d H'
  | .bad => False
end
/-- a body run at its arguments: np parameters, n slots, mods the slots that it stores into -/
def runBody (np n : Nat) (mods : List Nat) (g : GS) : Mir := fun as =>
  if as.length = np ∧ (mods.any fun i => isOwn as[i]?) = false then
    match g (as ++ List.replicate (n - np) .no) with
    | .nx S => .ret (.dat .non) (S.take np)
    | .rt sv S => .ret sv (S.take np)
    | .exc e S => .exc e (S.take np)
    | _ => .bad
  else .bad
theorem Paired.get2 {α β : Type} {R : α → β → Prop} : ∀ {l : List α} {m : List β} {i : Nat} {a : α} {b : β}, Paired R l m → l[i]? = some a → m[i]? = some b → R a b
  | _, _, _, _, _, .nil, e, _ => by simp at e
  | _, _, 0, _, _, .cons h _, e1, e2 => by
    cases e1
    cases e2
    exact h
  | _, _, i + 1, _, _, .cons _ t, e1, e2 => Paired.get2 (i := i) t e1 e2
theorem Paired.len {α β : Type} {R : α → β → Prop} : ∀ {l : List α} {m : List β}, Paired R l m → l.length = m.length
  | _, _, .nil => rfl
  | _, _, .cons _ t => by rw [List.length_cons, List.length_cons, Paired.len t]
theorem mem_bor : ∀ {as : List SV} {vs : List V} {a : Addr}, a ∈ bor as vs ↔ ∃ (i : Nat) (b : Bool) (c : Cn), as[i]? = some (.own b c) ∧ vs[i]? = some (.ref a)
  | [], vs, a => by
    constructor
    · intro h
      unfold bor at h
      cases h
    · rintro ⟨i, b, c, e, _⟩
      simp at e
  | sv :: as, [], a => by
    constructor
    · intro h
      cases sv <;> (unfold bor at h; cases h)
    · rintro ⟨i, b, c, _, e⟩
      simp at e
  | sv :: as, v :: vs, a => by
    have ih := @mem_bor as vs a
    have step : ∀ (P : Prop), (P ∨ ∃ (i : Nat) (b : Bool) (c : Cn), as[i]? = some (.own b c) ∧ vs[i]? = some (.ref a)) → (P → ∃ b c, sv = .own b c ∧ v = .ref a) → ∃ (i : Nat) (b : Bool) (c : Cn), (sv :: as)[i]? = some (.own b c) ∧ (v :: vs)[i]? = some (.ref a) := by
      rintro P (h | ⟨i, b, c, e1, e2⟩) hp
      · obtain ⟨b, c, rfl, rfl⟩ := hp h
        exact ⟨0, b, c, rfl, rfl⟩
      · exact ⟨i + 1, b, c, e1, e2⟩
    have back : (∃ (i : Nat) (b : Bool) (c : Cn), (sv :: as)[i]? = some (.own b c) ∧ (v :: vs)[i]? = some (.ref a)) → (∃ b c, sv = .own b c ∧ v = .ref a) ∨ ∃ (i : Nat) (b : Bool) (c : Cn), as[i]? = some (.own b c) ∧ vs[i]? = some (.ref a) := by
      rintro ⟨i, b, c, e1, e2⟩
      cases i with
      | zero =>
        cases e1
        cases e2
        exact .inl ⟨b, c, rfl, rfl⟩
      | succ i => exact .inr ⟨i, b, c, e1, e2⟩
    constructor
    · intro h
      refine step (∃ b c, sv = .own b c ∧ v = .ref a) ?_ id
      unfold bor at h
      split at h
      · rename_i e1 e2
        rename_i b0 c0 as0 a0 vs0
        cases e1
        cases e2
        rcases List.mem_cons.mp h with rfl | h
        · exact .inl ⟨_, _, rfl, rfl⟩
        · exact .inr (ih.mp h)
      · rename_i e1 e2
        cases e1
        cases e2
        exact .inr (ih.mp h)
      · rename_i h2
        cases h
    · intro h
      rcases back h with ⟨b, c, rfl, rfl⟩ | h
      · unfold bor
        exact List.mem_cons_self
      · have h' := ih.mpr h
        unfold bor
        split
        · rename_i e1 e2
          cases e1
          cases e2
          exact List.mem_cons_of_mem _ h'
        · rename_i e1 e2
          cases e1
          cases e2
          exact h'
        · rename_i h2
          exact absurd rfl (h2 _ _ _ _ rfl)
/-- the room and the wish of a body -/
structure BC (X : Cx) (W : WX) (k : Nat) : Prop where
  hr : Room k X.A
  calm : X.calm = true
  tk : Takes X W
  nd : X.N.Nodup
  po : PassesOwn (model X.prog X.w) X.A X.env X.xe
theorem BC.hu {X : Cx} {W : WX} {k : Nat} (c : BC X W k) : X.A.units + 64 < cLine := c.hr.units
theorem BC.mono {X : Cx} {W : WX} {k j : Nat} (c : BC X W k) (h : j ≤ k) : BC X W j := ⟨c.hr.mono h, c.calm, c.tk, c.nd, c.po⟩
/-- a def as its callers know it: level, name, defaults, worth -/
structure FD (P : Program) (w : World) (K : PySem.W.Frag) (mg : Str → Option Value) (base : Heap) (k : Nat) (x : Str) (dd : List D) (m : Mir) : Prop where
  ex : ∃ (f : Addr) (fd : FuncData) (ps : List Str) (ds : List Value) (dvs : List V), mg x = some (.ref f) ∧ PySem.W.keepIn K (.ref f) = true ∧ Binds K fd ps ds ∧ Vals dvs ds ∧ (∀ H, Reps K mg H dd dvs) ∧ FnOk P w K mg base (L2.CX P w) k f fd ps (spD K mg m)
section
variable {P : Program} {w : World} {K : PySem.W.Frag} {mg : Str → Option Value} {base : Heap}
/-- a def by its body -/
theorem fn_body {x qual : Str} {params : Arguments} {body : List Stmt} {scope : Scope} {dvs : List V} {kws : List (Str × V)} {f : Addr} {fd : FuncData} {N ps : List Str} {k : Nat} {mods : List Nat} {g : GS} (Fn : FunD K x qual params body scope dvs kws f fd) (S : FnScope N ps scope)
    (hb : ∀ (cdv : Value) (A : Around) (outer : List Env) (s : Shared) (H : Hp) (E : XK) (F : Fx) (W : WX), BC (cxOf (L2.CX P w) P w K mg base N qual scope f cdv A outer s H E) W k →
      PSsD (cxOf (L2.CX P w) P w K mg base N qual scope f cdv A outer s H E) F W mods body g) : FnOk P w K mg base (L2.CX P w) (k + 1) f fd ps (spD K mg (runBody ps.length N.length mods g)) := by
  have np : ps.length ≤ N.length := by
    have e := congrArg List.length S.pre
    rw [List.length_take] at e
    omega
  have un : ∀ {as : List SV}, (runBody ps.length N.length mods g as = .bad → False) → as.length = ps.length ∧ (mods.any fun i => isOwn as[i]?) = false := fun {as} h => by
    by_cases c : as.length = ps.length ∧ (mods.any fun i => isOwn as[i]?) = false
    · exact c
    · exact (h (by unfold runBody; rw [if_neg c])).elim
  refine Fn.ok S (fun vs H Q E h => ?_) (fun cdv A outer s H vs Q E hr h => ?_)
  · obtain ⟨as, ha, q⟩ := h
    rw [← Paired.len ha.each]
    exact (un fun e => by rw [e] at q; exact q).1
  · obtain ⟨as, ha, q⟩ := h
    obtain ⟨hl, hm⟩ := un fun e => by rw [e] at q; exact q
    have hlv : vs.length = ps.length := by rw [← Paired.len ha.each]; exact hl
    have bc : BC (cxOf (L2.CX P w) P w K mg base N qual scope f cdv A outer s H E) (fun cls d _ H => E cls d H) k := ⟨hr, rfl, takes_of rfl rfl rfl rfl, S.nd, passes_of rfl⟩
    refine ⟨_, (hb cdv A outer s H E ⟨H, bor as vs, none, []⟩ (fun cls d _ H => E cls d H) bc).ps, as ++ List.replicate (N.length - ps.length) .no, ?_, ?_⟩
    · have low : ∀ {i : Nat} {sv : SV}, (as ++ List.replicate (N.length - ps.length) .no)[i]? = some sv → sv = .no ∨ (as[i]? = some sv ∧ ∃ v, vs[i]? = some v ∧ (L2.start N vs)[i]? = some (some v) ∧ ArgOk K mg H sv v) := fun {i sv} e => by
        by_cases hi : i < as.length
        · rw [List.getElem?_append_left hi] at e
          have hv : i < vs.length := by omega
          refine .inr ⟨e, _, List.getElem?_eq_getElem hv, ?_, Paired.get2 ha.each e (List.getElem?_eq_getElem hv)⟩
          unfold L2.start
          rw [List.getElem?_append_left (by rw [List.length_map]; exact hv), List.getElem?_map, List.getElem?_eq_getElem hv]
          rfl
        · rw [List.getElem?_append_right (by omega), List.getElem?_replicate] at e
          split at e
          · exact .inl (Option.some.inj e).symm
          · cases e
      refine ⟨?_, fun i sv e => ?_, fun i j a b c b' c' ei ej si sj => ?_, fun b o h _ => h, fun a h => ?_, fun p hp => by cases hp⟩
      · unfold L2.start
        simp only [List.length_append, List.length_map, List.length_replicate]
        omega
      · rcases low e with rfl | ⟨e1, v, e2, e3, r⟩
        · exact True.intro
        · cases sv with
          | no => exact True.intro
          | exc _ => exact r.elim
          | dat d => exact ⟨v, e3, r⟩
          | own b c =>
            obtain ⟨rfl, a, ho, rfl, e4, r⟩ := r
            exact ⟨a, ho, e3, e4, r, (fun z => nomatch z), fun _ => mem_bor.mpr ⟨i, _, _, e1, e2⟩⟩
      · rcases low ei with z | ⟨e1, v, e2, e3, _⟩
        · cases z
        · rcases low ej with z | ⟨e1', v', e2', e3', _⟩
          · cases z
          · have si' : (L2.start N vs)[i]? = some (some (.ref a)) := si
            have sj' : (L2.start N vs)[j]? = some (some (.ref a)) := sj
            rw [si'] at e3
            rw [sj'] at e3'
            cases e3
            cases e3'
            exact ha.inj i j a _ _ _ _ e1 e1' e2 e2'
      · obtain ⟨i, b, c, e1, e2⟩ := mem_bor.mp h
        obtain ⟨_, a', ho, e3, e4, _⟩ := Paired.get2 ha.each e1 e2
        cases e3
        exact ⟨ho, e4⟩
    · have er : runBody ps.length N.length mods g as = (match g (as ++ List.replicate (N.length - ps.length) .no) with
          | .nx S => .ret (.dat .non) (S.take ps.length)
          | .rt sv S => .ret sv (S.take ps.length)
          | .exc e S => .exc e (S.take ps.length)
          | _ => .bad) := by
        unfold runBody
        rw [if_pos ⟨hl, hm⟩]
      rw [er] at q
      have fin : ∀ {S1 : List SV} {σ' : L2.St} {H' : Hp}, EnvD K mg ⟨H, bor as vs, none, []⟩ σ' H' S1 → Agr mods (L2.start N vs) σ' → Stay H H' → EndOk K mg H as vs (S1.take ps.length) H' := fun {S1 σ' H'} I a st => by
        refine ⟨I.frame, I.bor, st, fun i b c v e1 e2 => ?_⟩
        have hi : i < as.length := by
          obtain ⟨h, _⟩ := List.getElem?_eq_some_iff.mp e1
          exact h
        have hnm : i ∉ mods := fun z => by
          have hm' := List.any_eq_false.mp hm i z
          rw [e1] at hm'
          exact hm' rfl
        have es : (L2.start N vs)[i]? = some (some v) := by
          unfold L2.start
          rw [List.getElem?_append_left (by rw [List.length_map]; omega), List.getElem?_map, e2]
          rfl
        have es' : σ'[i]? = some (some v) := by rw [a i hnm, es]
        have hi' : i < S1.length := by
          rw [← I.len]
          obtain ⟨h, _⟩ := List.getElem?_eq_some_iff.mp es'
          exact h
        refine ⟨S1[i], by rw [List.getElem?_take_of_lt (by omega), List.getElem?_eq_getElem hi'], ?_⟩
        have sl := I.slot i S1[i] (List.getElem?_eq_getElem hi')
        cases q1 : S1[i] with
        | no => exact True.intro
        | exc _ => exact True.intro
        | dat d =>
          rw [q1] at sl
          obtain ⟨v', e3, r⟩ := sl
          rw [es'] at e3
          cases e3
          exact r
        | own b' c' =>
          rw [q1] at sl
          obtain ⟨a', ho, e3, e4, r, _⟩ := sl
          rw [es'] at e3
          cases e3
          exact ⟨a', ho, rfl, e4, r⟩
      have rvn : ∀ {S1 : List SV} {σ' : L2.St} {H' : Hp} {v : V} {sv : SV}, RV K mg ⟨H, bor as vs, none, []⟩ σ' H' S1 v sv → RN K mg H H' v sv := fun {S1 σ' H' v sv} r => by
        cases sv with
        | no => exact r
        | exc _ => exact r
        | dat d => exact r
        | own b c =>
          obtain ⟨e, a, ho, e1, e2, r2, e3, _⟩ := r
          exact ⟨e, a, ho, e1, e3, e2, r2⟩
      show OutS K mg ⟨H, bor as vs, none, []⟩ (fun cls d _ H => E cls d H) mods (L2.start N vs) H (g (as ++ List.replicate (N.length - ps.length) .no)) { nx := fun _ H' => Q .non H', rt := Q }
      cases e : g (as ++ List.replicate (N.length - ps.length) .no) with
      | nx S1 =>
        rw [e] at q
        exact fun σ' H' I a st => q .non H' (fin I a st) rfl
      | rt sv S1 =>
        rw [e] at q
        exact fun v σ' H' I r a st => q v H' (fin I a st) (rvn r)
      | bk S1 =>
        rw [e] at q
        exact q.elim
      | ct S1 =>
        rw [e] at q
        exact q.elim
      | exc x S1 =>
        rw [e] at q
        have nb : ∀ {b : Addr} {o : HO}, H b = some o → ¬ Mut (some o) → b ∉ bor as vs := fun {b o} h nm hb => by
          obtain ⟨i, b0, c, e1, e2⟩ := mem_bor.mp hb
          obtain ⟨_, a', ho, e3, e4, r⟩ := Paired.get2 ha.each e1 e2
          cases e3
          rw [h] at e4
          cases e4
          exact nm r.mut
        exact fun cls d σ' H' I r a _ => q cls d H' (fin I a ⟨fun b xs h => I.frame b _ h (nb h fun z => z), fun b ob u h => I.frame b _ h (nb h fun z => z)⟩) r
      | bad =>
        rw [e] at q
        exact q
end
end Pd
end PdH_text

section PdI_text
set_option maxHeartbeats 4000000
namespace Pd
open PySem PySem.Spec PyProof.Rows L2
/-! ### calls of the text's own defs -/
def argsOf (S : List SV) : List Opd → Option (List SV)
  | [] => some []
  | .val d :: os => (argsOf S os).map (SV.dat d :: ·)
  | .var i :: os => match S[i]? with
    | some (.dat d) => (argsOf S os).map (SV.dat d :: ·)
    | some (.own _ c) => (argsOf S os).map (SV.own false c :: ·)
    | _ => none
/-- the slots whose objects are lent -/
def ownIx (S : List SV) : List Opd → List Nat
  | [] => []
  | .val _ :: os => ownIx S os
  | .var i :: os => match S[i]? with
    | some (.own _ _) => i :: ownIx S os
    | _ => ownIx S os
def noDup : List Nat → Bool
  | [] => true
  | x :: xs => !xs.contains x && noDup xs
def back (b : Bool) : Option SV → SV
  | some (.own _ c) => .own b c
  | some (.dat d) => .dat d
  | _ => .no
def putBack : List Opd → List SV → List SV → List SV
  | [], _, S => S
  | .val _ :: os, outs, S => putBack os outs.tail S
  | .var i :: os, outs, S => putBack os outs.tail (match S[i]? with
    | some (.own b _) => S.set i (back b outs.head?)
    | _ => S)
theorem mem_ownIx {S : List SV} : ∀ {os : List Opd} {j : Nat}, j ∈ ownIx S os ↔ ∃ (k : Nat) (b : Bool) (c : Cn), os[k]? = some (.var j) ∧ S[j]? = some (.own b c)
  | [], j => by
    constructor
    · intro h
      cases h
    · rintro ⟨k, b, c, e, _⟩
      simp at e
  | .val d :: os, j => by
    have ih := @mem_ownIx S os j
    constructor
    · intro h
      obtain ⟨k, b, c, e1, e2⟩ := ih.mp h
      exact ⟨k + 1, b, c, e1, e2⟩
    · rintro ⟨k, b, c, e1, e2⟩
      cases k with
      | zero => cases e1
      | succ k => exact ih.mpr ⟨k, b, c, e1, e2⟩
  | .var i :: os, j => by
    have ih := @mem_ownIx S os j
    constructor
    · intro h
      unfold ownIx at h
      split at h
      · rename_i b c e
        rcases List.mem_cons.mp h with rfl | h
        · exact ⟨0, b, c, rfl, e⟩
        · obtain ⟨k, b, c, e1, e2⟩ := ih.mp h
          exact ⟨k + 1, b, c, e1, e2⟩
      · obtain ⟨k, b, c, e1, e2⟩ := ih.mp h
        exact ⟨k + 1, b, c, e1, e2⟩
    · rintro ⟨k, b, c, e1, e2⟩
      unfold ownIx
      cases k with
      | zero =>
        cases e1
        rw [e2]
        exact List.mem_cons_self
      | succ k =>
        have m := ih.mpr ⟨k, b, c, e1, e2⟩
        split
        · exact List.mem_cons_of_mem _ m
        · exact m
theorem ownIx_set {S : List SV} {i : Nat} {sv : SV} : ∀ {os : List Opd}, (∀ (k : Nat), os[k]? ≠ some (Opd.var i)) → ownIx (S.set i sv) os = ownIx S os
  | [], _ => rfl
  | .val d :: os, h => ownIx_set (os := os) fun k => h (k + 1)
  | .var j :: os, h => by
    have hj : j ≠ i := fun z => h 0 (by rw [z]; rfl)
    unfold ownIx
    rw [List.getElem?_set_ne (Ne.symm hj), ownIx_set (os := os) fun k => h (k + 1)]
theorem putBack_at : ∀ {os : List Opd} {outs S : List SV}, noDup (ownIx S os) = true → ∀ j,
    (∃ (k : Nat) (b : Bool) (c : Cn), os[k]? = some (.var j) ∧ S[j]? = some (.own b c) ∧ (putBack os outs S)[j]? = some (back b outs[k]?)) ∨ (j ∉ ownIx S os ∧ (putBack os outs S)[j]? = S[j]?)
  | [], outs, S, _, j => .inr ⟨(fun h => by cases h), rfl⟩
  | .val d :: os, outs, S, nd, j => by
    rcases putBack_at (os := os) (outs := outs.tail) (S := S) nd j with ⟨k, b, c, e1, e2, e3⟩ | ⟨h, e⟩
    · exact .inl ⟨k + 1, b, c, e1, e2, by rw [← List.getElem?_tail]; exact e3⟩
    · exact .inr ⟨h, e⟩
  | .var i :: os, outs, S, nd, j => by
    unfold ownIx at nd
    cases e0 : S[i]? with
    | none =>
      rw [e0] at nd
      have un : putBack (.var i :: os) outs S = putBack os outs.tail S := by
        show putBack os outs.tail (match S[i]? with
          | some (.own b _) => S.set i (back b outs.head?)
          | _ => S) = _
        rw [e0]
      rw [un]
      have un2 : ownIx S (.var i :: os) = ownIx S os := by
        show (match S[i]? with
          | some (.own _ _) => i :: ownIx S os
          | _ => ownIx S os) = _
        rw [e0]
      rw [un2]
      rcases putBack_at (os := os) (outs := outs.tail) (S := S) nd j with ⟨k, b, c, e1, e2, e3⟩ | ⟨h, e⟩
      · exact .inl ⟨k + 1, b, c, e1, e2, by rw [← List.getElem?_tail]; exact e3⟩
      · exact .inr ⟨h, e⟩
    | some sv =>
      by_cases ho : ∃ b c, sv = .own b c
      · obtain ⟨b, c, rfl⟩ := ho
        rw [e0] at nd
        have nd' : (!(ownIx S os).contains i && noDup (ownIx S os)) = true := nd
        rw [Bool.and_eq_true] at nd'
        obtain ⟨n1, n2⟩ := nd'
        have n1' : i ∉ ownIx S os := fun z => by
          have y := List.contains_iff_mem.mpr z
          rw [y] at n1
          cases n1
        have nov : ∀ (k : Nat), os[k]? ≠ some (Opd.var i) := fun k z => n1' (mem_ownIx.mpr ⟨k, b, c, z, e0⟩)
        have un : putBack (.var i :: os) outs S = putBack os outs.tail (S.set i (back b outs.head?)) := by
          show putBack os outs.tail (match S[i]? with
            | some (.own b _) => S.set i (back b outs.head?)
            | _ => S) = _
          rw [e0]
        have hi : i < S.length := by
          obtain ⟨h, _⟩ := List.getElem?_eq_some_iff.mp e0
          exact h
        have ih := putBack_at (os := os) (outs := outs.tail) (S := S.set i (back b outs.head?)) (by rw [ownIx_set nov]; exact n2) j
        rw [un]
        by_cases hj : j = i
        · subst hj
          refine .inl ⟨0, b, c, rfl, e0, ?_⟩
          rcases ih with ⟨k, _, _, e1, _, _⟩ | ⟨h, e⟩
          · exact absurd e1 (nov k)
          · rw [e, List.getElem?_set_self hi, List.head?_eq_getElem?]
        · rcases ih with ⟨k, b', c', e1, e2, e3⟩ | ⟨h, e⟩
          · rw [List.getElem?_set_ne (Ne.symm hj)] at e2
            exact .inl ⟨k + 1, b', c', e1, e2, by rw [← List.getElem?_tail]; exact e3⟩
          · rw [List.getElem?_set_ne (Ne.symm hj)] at e
            rw [ownIx_set nov] at h
            refine .inr ⟨fun z => ?_, e⟩
            have z' : j ∈ (match S[i]? with
              | some (.own _ _) => i :: ownIx S os
              | _ => ownIx S os) := z
            rw [e0] at z'
            rcases List.mem_cons.mp z' with y | y
            · exact hj y
            · exact h y
      · have un : putBack (.var i :: os) outs S = putBack os outs.tail S := by
          show putBack os outs.tail (match S[i]? with
            | some (.own b _) => S.set i (back b outs.head?)
            | _ => S) = _
          rw [e0]
          cases sv <;> first | rfl | exact absurd ⟨_, _, rfl⟩ ho
        have un2 : ownIx S (.var i :: os) = ownIx S os := by
          show (match S[i]? with
            | some (.own _ _) => i :: ownIx S os
            | _ => ownIx S os) = _
          rw [e0]
          cases sv <;> first | rfl | exact absurd ⟨_, _, rfl⟩ ho
        have nd' : noDup (ownIx S os) = true := by
          have z : noDup (ownIx S (.var i :: os)) = true := nd
          rw [un2] at z
          exact z
        rw [un, un2]
        rcases putBack_at (os := os) (outs := outs.tail) (S := S) nd' j with ⟨k, b, c, e1, e2, e3⟩ | ⟨h, e⟩
        · exact .inl ⟨k + 1, b, c, e1, e2, by rw [← List.getElem?_tail]; exact e3⟩
        · exact .inr ⟨h, e⟩
theorem putBack_len : ∀ {os : List Opd} {outs S : List SV}, (putBack os outs S).length = S.length
  | [], _, _ => rfl
  | .val _ :: os, outs, S => putBack_len (os := os)
  | .var i :: os, outs, S => by
    show (putBack os outs.tail _).length = _
    rw [putBack_len]
    split
    · rw [List.length_set]
    · rfl
section
variable {K : PySem.W.Frag} {mg : Str → Option Value} {F : Fx} {σ : L2.St} {H H' : Hp} {S S0 : List SV}
/-- the arguments of a call, as the callee has them -/
theorem args_at (I : EnvD K mg F σ H S) : ∀ {os : List Opd} {vs : List V} {as : List SV}, ROs K mg σ H S0 os vs → argsOf S os = some as → Paired (ArgOk K mg H) as vs ∧
    ∀ (i : Nat) b c, as[i]? = some (.own b c) → b = false ∧ ∃ j b', os[i]? = some (.var j) ∧ S[j]? = some (.own b' c) ∧ ∃ v, vs[i]? = some v ∧ σ[j]? = some (some v)
  | [], _, _, .nil, e => by
    cases e
    exact ⟨.nil, fun i b c e => by simp at e⟩
  | .val d :: os, v :: vs, _, .cons h r, e => by
    have e' : (argsOf S os).map (SV.dat d :: ·) = some _ := e
    cases q : argsOf S os with
    | none =>
      rw [q] at e'
      cases e'
    | some as =>
      rw [q] at e'
      cases e'
      obtain ⟨p, f⟩ := args_at I r q
      refine ⟨.cons h p, fun i b c e => ?_⟩
      cases i with
      | zero => cases e
      | succ i => exact f i b c e
  | .var j :: os, v :: vs, _, .cons h r, e => by
    have e' : (match S[j]? with
      | some (.dat d) => (argsOf S os).map (SV.dat d :: ·)
      | some (.own _ c) => (argsOf S os).map (SV.own false c :: ·)
      | _ => none) = some _ := e
    have h' : σ[j]? = some (some v) := h
    cases ej : S[j]? with
    | none =>
      rw [ej] at e'
      cases e'
    | some sv =>
      rw [ej] at e'
      cases sv with
      | no => cases e'
      | exc _ => cases e'
      | dat d =>
        cases q : argsOf S os with
        | none =>
          simp only [q] at e'
          cases e'
        | some as =>
          simp only [q] at e'
          cases e'
          obtain ⟨p, f⟩ := args_at I r q
          obtain ⟨v', e1, rr⟩ := I.dat ej
          rw [h'] at e1
          cases e1
          refine ⟨.cons rr p, fun i b c e => ?_⟩
          cases i with
          | zero => cases e
          | succ i => exact f i b c e
      | own b0 c0 =>
        cases q : argsOf S os with
        | none =>
          simp only [q] at e'
          cases e'
        | some as =>
          simp only [q] at e'
          cases e'
          obtain ⟨p, f⟩ := args_at I r q
          obtain ⟨a, ho, e1, e2, rr⟩ := I.own ej
          rw [h'] at e1
          cases e1
          refine ⟨.cons ⟨rfl, a, ho, rfl, e2, rr⟩ p, fun i b c e => ?_⟩
          cases i with
          | zero =>
            cases e
            exact ⟨rfl, j, b0, rfl, ej, _, rfl, h'⟩
          | succ i => exact f i b c e
theorem argsOf_len : ∀ {os : List Opd} {as : List SV}, argsOf S os = some as → as.length = os.length
  | [], _, e => by
    cases e
    rfl
  | .val d :: os, _, e => by
    have e' : (argsOf S os).map (SV.dat d :: ·) = some _ := e
    cases q : argsOf S os with
    | none =>
      rw [q] at e'
      cases e'
    | some as =>
      rw [q] at e'
      cases e'
      rw [List.length_cons, List.length_cons, argsOf_len q]
  | .var j :: os, _, e => by
    have e' : (match S[j]? with
      | some (.dat d) => (argsOf S os).map (SV.dat d :: ·)
      | some (.own _ c) => (argsOf S os).map (SV.own false c :: ·)
      | _ => none) = some _ := e
    cases q : argsOf S os with
    | none =>
      rw [q] at e'
      split at e' <;> cases e'
    | some as =>
      rw [q] at e'
      split at e' <;> first | cases e' | skip
      · rw [List.length_cons, List.length_cons, argsOf_len q]
      · rw [List.length_cons, List.length_cons, argsOf_len q]
theorem argsOf_own : ∀ {os : List Opd} {as : List SV} {k j : Nat} {b : Bool} {c : Cn}, argsOf S os = some as → os[k]? = some (.var j) → S[j]? = some (.own b c) → as[k]? = some (.own false c)
  | [], _, _, _, _, _, _, e, _ => by simp at e
  | .val d :: os, _, k, j, b, c, e, ek, ej => by
    have e' : (argsOf S os).map (SV.dat d :: ·) = some _ := e
    cases q : argsOf S os with
    | none =>
      rw [q] at e'
      cases e'
    | some as =>
      rw [q] at e'
      cases e'
      cases k with
      | zero => cases ek
      | succ k =>
        show as[k]? = _
        exact argsOf_own (os := os) q ek ej
  | .var i :: os, _, k, j, b, c, e, ek, ej => by
    have e' : (match S[i]? with
      | some (.dat d) => (argsOf S os).map (SV.dat d :: ·)
      | some (.own _ c) => (argsOf S os).map (SV.own false c :: ·)
      | _ => none) = some _ := e
    cases q : argsOf S os with
    | none =>
      rw [q] at e'
      split at e' <;> cases e'
    | some as =>
      rw [q] at e'
      cases k with
      | zero =>
        cases ek
        rw [ej] at e'
        cases e'
        rfl
      | succ k =>
        split at e' <;> first | cases e' | skip
        · show as[k]? = _
          exact argsOf_own (os := os) q ek ej
        · show as[k]? = _
          exact argsOf_own (os := os) q ek ej
theorem Paired.app {α β : Type} {R : α → β → Prop} : ∀ {l l' : List α} {m m' : List β}, Paired R l m → Paired R l' m' → Paired R (l ++ l') (m ++ m')
  | _, _, _, _, .nil, s => s
  | _, _, _, _, .cons h t, s => .cons h (Paired.app t s)
theorem dfl_args {H : Hp} : ∀ {dd : List D} {dvs : List V}, Reps K mg H dd dvs → Paired (ArgOk K mg H) (dd.map SV.dat) dvs
  | [], _, h => by
    cases h
    exact .nil
  | d :: dd, _, h => by
    obtain ⟨v, r, rfl, h1, h2⟩ := h
    exact .cons h1 (dfl_args h2)
theorem app_own {as : List SV} {dd : List D} {i : Nat} {b : Bool} {c : Cn} (e : (as ++ dd.map SV.dat)[i]? = some (.own b c)) : as[i]? = some (.own b c) ∧ i < as.length := by
  by_cases hi : i < as.length
  · rw [List.getElem?_append_left hi] at e
    exact ⟨e, hi⟩
  · rw [List.getElem?_append_right (by omega), List.getElem?_map] at e
    cases q : dd[i - as.length]? with
    | none =>
      rw [q] at e
      cases e
    | some d =>
      rw [q] at e
      cases e
/-- the arguments meet the callee -/
theorem args_ok (I : EnvD K mg F σ H S) {os : List Opd} {vs : List V} {as : List SV} {dd : List D} {dvs : List V} (r : ROs K mg σ H S0 os vs) (e : argsOf S os = some as) (nd : noDup (ownIx S os) = true) (hd : Reps K mg H dd dvs) :
    ArgsOk K mg H (as ++ dd.map SV.dat) (vs ++ dvs) := by
  obtain ⟨p, f⟩ := args_at I r e
  refine ⟨Paired.app p (dfl_args hd), fun i j a b c b' c' ei ej vi vj => ?_⟩
  have lv : as.length = vs.length := Paired.len p
  obtain ⟨ei, hi⟩ := app_own ei
  obtain ⟨ej, hj⟩ := app_own ej
  rw [List.getElem?_append_left (by omega)] at vi vj
  obtain ⟨_, x, bx, ox, sx, v, hv, hx⟩ := f i b c ei
  obtain ⟨_, y, by', oy, sy, v', hv', hy⟩ := f j b' c' ej
  rw [vi] at hv
  rw [vj] at hv'
  cases hv
  cases hv'
  have exy : x = y := I.inj x y a _ _ _ _ sx sy hx hy
  subst exy
  -- the same slot stands twice only at the same place
  have key : ∀ {os : List Opd} {i j : Nat}, noDup (ownIx S os) = true → os[i]? = some (.var x) → os[j]? = some (.var x) → i = j := by
    intro os
    induction os with
    | nil =>
      intro i j _ h
      simp at h
    | cons o os ih =>
      intro i j nd h1 h2
      have tail : noDup (ownIx S os) = true ∧ (o = .var x → x ∉ ownIx S os) := by
        cases o with
        | val d => exact ⟨nd, fun z => nomatch z⟩
        | var k =>
          have nd' : noDup (match S[k]? with
            | some (.own _ _) => k :: ownIx S os
            | _ => ownIx S os) = true := nd
          split at nd'
          · have z : (!(ownIx S os).contains k && noDup (ownIx S os)) = true := nd'
            rw [Bool.and_eq_true] at z
            obtain ⟨n1, n2⟩ := z
            refine ⟨n2, fun q m => ?_⟩
            cases q
            rw [List.contains_iff_mem.mpr m] at n1
            cases n1
          · rename_i hne
            refine ⟨nd', fun q => ?_⟩
            cases q
            exact absurd sx (hne _ _)
      cases i with
      | zero =>
        cases j with
        | zero => rfl
        | succ j =>
          have h1' : o = .var x := Option.some.inj h1
          exact absurd (mem_ownIx.mpr ⟨j, _, _, h2, sx⟩) (tail.2 h1')
      | succ i =>
        cases j with
        | zero =>
          have h2' : o = .var x := Option.some.inj h2
          exact absurd (mem_ownIx.mpr ⟨i, _, _, h1, sx⟩) (tail.2 h2')
        | succ j => rw [ih tail.1 h1 h2]
  exact key nd ox oy
/-- the state behind the call -/
theorem EnvD.after (I : EnvD K mg F σ H S) {os : List Opd} {vs : List V} {as outs : List SV} {dd : List D} {dvs : List V} (r : ROs K mg σ H S0 os vs) (e : argsOf S os = some as) (nd : noDup (ownIx S os) = true)
    (E : EndOk K mg H (as ++ dd.map SV.dat) (vs ++ dvs) outs H') : EnvD K mg F σ H' (putBack os outs S) := by
  obtain ⟨p, f⟩ := args_at I r e
  have lv : as.length = vs.length := Paired.len p
  have borr : ∀ a, a ∈ Pd.bor (as ++ dd.map SV.dat) (vs ++ dvs) → ∃ j b c, j ∈ ownIx S os ∧ S[j]? = some (.own b c) ∧ σ[j]? = some (some (.ref a)) := fun a h => by
    obtain ⟨i, b, c, e1, e2⟩ := Pd.mem_bor.mp h
    obtain ⟨e1, hi⟩ := app_own e1
    rw [List.getElem?_append_left (by omega)] at e2
    obtain ⟨_, j, b', oj, sj, v, hv, hj⟩ := f i b c e1
    rw [e2] at hv
    cases hv
    exact ⟨j, _, _, mem_ownIx.mpr ⟨i, _, _, oj, sj⟩, sj, hj⟩
  have orig : ∀ {j : Nat} {b : Bool} {c : Cn}, (putBack os outs S)[j]? = some (.own b c) → ∃ b' c', S[j]? = some (.own b' c') := fun {j b c} h => by
    rcases putBack_at (outs := outs) nd j with ⟨k, b', c', _, e2, _⟩ | ⟨_, e2⟩
    · exact ⟨b', c', e2⟩
    · rw [h] at e2
      exact ⟨b, c, e2.symm⟩
  refine ⟨by rw [putBack_len]; exact I.len, fun j sw h => ?_, fun i j a b c b' c' h1 h2 s1 s2 => ?_, fun b o h n => ?_, fun a h => ?_, fun p hp => ⟨?_, fun j b' c' h => ?_⟩⟩
  · rcases putBack_at (outs := outs) nd j with ⟨k, b, c, e1, e2, e3⟩ | ⟨hn, e2⟩
    · rw [h] at e3
      cases e3
      have hk := argsOf_own e e1 e2
      obtain ⟨_, j', b', oj, sj, v, hv, hj⟩ := f k _ _ hk
      rw [e1] at oj
      cases oj
      have hkl : k < as.length := by
        obtain ⟨h, _⟩ := List.getElem?_eq_some_iff.mp hk
        exact h
      obtain ⟨sv, ho, bk⟩ := E.back k false c v (by rw [List.getElem?_append_left hkl]; exact hk) (by rw [List.getElem?_append_left (by omega)]; exact hv)
      rw [ho]
      obtain ⟨a0, ho0, z1, z2, z3, z4, z5⟩ := I.slot j _ e2
      cases sv with
      | no => exact True.intro
      | exc _ => exact True.intro
      | dat d => exact ⟨v, hj, bk⟩
      | own b2 c2 =>
        obtain ⟨a, ho', rfl, w1, w2⟩ := bk
        rw [hj] at z1
        cases z1
        exact ⟨_, ho', hj, w1, w2, z4, z5⟩
    · rw [h] at e2
      have q := I.slot j sw e2.symm
      cases sw with
      | no => exact True.intro
      | dat d =>
        obtain ⟨v, w1, w2⟩ := q
        exact ⟨v, w1, w2.stay E.stay _ _⟩
      | own b c =>
        obtain ⟨a, ho, w1, w2, w3, w4, w5⟩ := q
        refine ⟨a, ho, w1, E.frame a ho w2 fun z => ?_, w3.stay E.stay, w4, w5⟩
        obtain ⟨j', b', c', m, sj, hj⟩ := borr a z
        have ej : j = j' := I.inj j j' a _ _ _ _ e2.symm sj w1 hj
        rw [ej] at hn
        exact hn m
      | exc x =>
        obtain ⟨a, d, cls, w1, w2, w3⟩ := q
        refine ⟨a, d, cls, w1, w2, w3.keep E.stay fun b fs h => E.frame b _ h fun z => ?_⟩
        obtain ⟨j', b', c', m, sj, hj⟩ := borr b z
        obtain ⟨a', ho, y1, y2, y3⟩ := I.own sj
        rw [hj] at y1
        cases y1
        rw [h] at y2
        cases y2
        exact y3.mut
  · obtain ⟨_, _, h1'⟩ := orig h1
    obtain ⟨_, _, h2'⟩ := orig h2
    exact I.inj i j a _ _ _ _ h1' h2' s1 s2
  · refine E.frame b o (I.frame b o h n) fun z => ?_
    obtain ⟨j', b', c', m, sj, hj⟩ := borr b z
    obtain ⟨a', ho, y1, y2, y3, y4, y5⟩ := I.slot j' _ sj
    rw [hj] at y1
    cases y1
    cases b' with
    | true =>
      rw [y4 rfl] at h
      cases h
    | false => exact n (y5 rfl)
  · obtain ⟨o, h'⟩ := I.bor a h
    by_cases z : a ∈ Pd.bor (as ++ dd.map SV.dat) (vs ++ dvs)
    · exact E.there a z
    · exact ⟨o, E.frame a o h' z⟩
  · refine E.frame _ _ (I.prot p hp).1 fun z => ?_
    obtain ⟨j', b', c', m, sj, hj⟩ := borr _ z
    exact (I.prot p hp).2 j' _ _ sj hj
  · obtain ⟨_, _, h'⟩ := orig h
    exact (I.prot p hp).2 j _ _ h'
end
def gCallF (m : Mir) (dd : List D) (ga : GA) : GE := fun S => (ga S).bind fun os S1 => match argsOf S1 os with
  | some as => if noDup (ownIx S1 os) = true then (match m (as ++ dd.map SV.dat) with
      | .ret sv outs => .ok sv (putBack os outs S1)
      | .exc e outs => .exc e (putBack os outs S1)
      | .bad => .bad)
    else .bad
  | none => .bad
section
variable {X : Cx} {F : Fx} {W : WX} {e : Expr} {es : List Expr} {pos p : Pos} {x : Str} {k : Nat} {dd : List D} {m : Mir}
theorem callF_imp {dvs : List V} {ga : GA} (hd : ∀ H, Reps X.K X.mg H dd dvs) {σ : L2.St} {H : Hp} {Q : VK} (q : tG X.K X.mg F W (RE X.K X.mg F) (gCallF m dd ga) σ H Q) :
    tCallSD (spD X.K X.mg m) dvs (WE W) (tG X.K X.mg F W (ROs X.K X.mg) ga) σ H Q := by
  refine tG.bind q fun os S1 vs H1 I1 r1 _ k => ?_
  cases e1 : argsOf S1 os with
  | none =>
    simp only [e1] at k
    exact k.elim
  | some as =>
    simp only [e1] at k
    by_cases nd : noDup (ownIx S1 os) = true
    · rw [if_pos nd] at k
      refine ⟨as ++ dd.map SV.dat, args_ok I1 (S0 := S1) r1 e1 nd (hd H1), ?_⟩
      cases e2 : m (as ++ dd.map SV.dat) with
      | ret sv outs =>
        simp only [e2] at k
        intro v H' E n
        have I2 := I1.after (S0 := S1) r1 e1 nd E
        refine k v H' I2 ?_ E.stay
        cases sv with
        | no => exact n
        | exc _ => exact n
        | dat d => exact n
        | own b c =>
          obtain ⟨eb, a, ho, w1, w2, w3, w4⟩ := n
          refine ⟨eb, a, ho, w1, w3, w4, I1.fresh w2, I1.noprot w2, fun i b' c' h => ?_⟩
          rcases putBack_at (outs := outs) nd i with ⟨k, b2, c2, _, z, _⟩ | ⟨_, z⟩
          · exact I1.noal w2 i _ _ z
          · rw [h] at z
            exact I1.noal w2 i _ _ z.symm
      | exc x outs =>
        simp only [e2] at k
        intro cls d H' E n
        exact k cls d H' (I1.after (S0 := S1) r1 e1 nd E) n E.stay
      | bad =>
        simp only [e2] at k
        exact k
    · rw [if_neg nd] at k
      exact k.elim
theorem pd_call {ga : GA} {k' : Nat} (Fn : FD X.prog X.w X.K X.mg X.base k x dd m) (c : BC X W k') (hk : k ≤ k') (hg : Gl X x) (ha : PAs X F W (e :: es) ga) (hdb : (x == ("__debug__" : Str)) = false := by decide)
    (he : starEach (e :: es) X.env = (false, eval e X.env) :: starEach es X.env := by rfl) (hpl : (backTo pos (starEach es X.env)).any (·.1) = false := by rfl) : PD X F W (.Call (.Name x p) (e :: es) [] pos) (gCallF m dd ga) := by
  obtain ⟨f, fd, ps, ds, dvs, hm, kp, hb, hdv, hd, ok⟩ := Fn.ex
  exact ⟨(pe_callSD ok (c.hr.mono hk) hg hm kp hb hdv (fun σ => passAt c.tk σ) ha.pa hdb he hpl).imp fun σ H Q q => callF_imp hd q⟩
end
end Pd
end PdI_text

section PdJ_text
set_option maxHeartbeats 4000000
namespace Pd
open PySem PySem.Spec PyProof.Rows L2
/-! ### what a loop walks -/
/-- J gives just these data, as long as what stands stays -/
def ItOk (K : PySem.W.Frag) (mg : Str → Option Value) (H0 : Hp) (ds : List D) (J : It) : Prop := ∀ (i : Nat) (H : Hp), Stay H0 H →
  (∀ d, ds[i]? = some d → J.go i H ∧ ∀ x H', J.yld i H x H' → Same H H' ∧ Rep K mg H' d x) ∧ (ds.length ≤ i → J.stop i H)
abbrev GI := List SV → Res (List D)
abbrev RI (K : PySem.W.Frag) (mg : Str → Option Value) : L2.St → Hp → List SV → List D → It → Prop := fun _ H _ ds J => ItOk K mg H ds J
structure PId (X : Cx) (F : Fx) (W : WX) (tg iter : Expr) (g : GI) : Prop where
  pi : PI X tg iter (tG X.K X.mg F W (RI X.K X.mg) g)
theorem _root_.L2.PI.imp {X : Cx} {tg e : Expr} {t t' : TI} (h : PI X tg e t) (i : ∀ σ H R, t' σ H R → t σ H R) : PI X tg e t' := ⟨fun pins s σ H R I q => h.run pins s σ H R I (i σ H R q)⟩
/-- by the value -/
def ItR (X : Cx) (tg : Expr) (r : V → Hp → (It → Hp → Prop) → Prop) : Prop := ∀ (pins : List (Addr × Obj)) (s : Shared) (σ : L2.St) (H : Hp) (x : V) (v : Value) (R : It → Hp → Prop), Inv X pins σ H s → RelV x v → r x H R →
  wpAny (model X.prog X.w) X.A (pyIter v) (PIE X pins σ tg R) X.xe s
section
variable {X : Cx} {F : Fx} {W : WX} {tg e l : Expr}
theorem pi_of {t : TE} {r : V → Hp → (It → Hp → Prop) → Prop} (he : PE X l t) (hr : ItR X tg r) : PI X tg l (fun σ H R => t σ H fun x H1 => r x H1 R) :=
  ⟨fun pins s σ H R I h => thn (he.run pins s σ H _ I h) fun v s1 ⟨x, H1, I1, r1, q1⟩ => hr pins s1 σ H1 x v R I1 r1 q1⟩
theorem it_list : ItR X tg (fun x H R => ∃ a, x = .ref a ∧ (∃ xs, SqL X.K H a xs) ∧ R (Itl X.K a) H) := by
  intro pins s1 σ H1 x v R I1 r1 q1
  obtain ⟨a, e, ⟨xs, hq⟩, q⟩ := q1
  subst e
  cases r1
  obtain ⟨its, rv, p, hz⟩ := I1.list hq
  refine wpAny_pyIter_list p.isList ?_
  refine ⟨s1.heap.objs.size, [s1.heap.objs.size], _, _, H1, rfl, I1.kept (t' := s1.toks) fun b o e => Heap.get?_push_of_some _ e, turn_list a _, ⟨_, Heap.get?_push_size _ rfl, rfl, rfl⟩, fun b hb => ?_, q⟩
  have e : b = s1.heap.objs.size := by simpa using hb
  subst e
  exact I1.fpOk (Nat.le_refl _) (I1.hok.fresh (Nat.le_refl _))
theorem it_tup : ItR X tg (fun x H R => ∃ a, x = .ref a ∧ (∃ xs, SqT X.K H a xs) ∧ R (Itt X.K a) H) := by
  intro pins s1 σ H1 x v R I1 r1 q1
  obtain ⟨a, e, ⟨xs, hq⟩, q⟩ := q1
  subst e
  cases r1
  obtain ⟨its, rv, p, hz⟩ := I1.tuple hq
  refine wpAny_pyIter_tuple (show s1.heap.IsTuple a its.toArray from p) ?_
  refine ⟨s1.heap.objs.size, [s1.heap.objs.size], _, _, H1, rfl, I1.kept (t' := s1.toks) fun b o e => Heap.get?_push_of_some _ e, turn_tuple a _, ⟨_, Heap.get?_push_size _ rfl, rfl, rfl⟩, fun b hb => ?_, q⟩
  have e : b = s1.heap.objs.size := by simpa using hb
  subst e
  exact I1.fpOk (Nat.le_refl _) (I1.hok.fresh (Nat.le_refl _))
theorem it_str : ItR X tg (fun v H R => ∃ x, v = .str x ∧ R (Its x) H) := by
  intro pins s1 σ H1 y v R I1 r1 q1
  obtain ⟨x, ex, q⟩ := q1
  subst ex
  obtain ⟨t, rfl⟩ := r1
  cases ha : x.cps.all (· < 128)
  · exact wpAny_pyIter_wide ha (pi_one (tk := s1.toks) I1 _ (turn_str _ x t "str_iterator" (.inr rfl)) ⟨_, Heap.get?_push_size _ rfl, rfl, rfl⟩ q)
  · exact wpAny_pyIter_ascii ha (pi_one (tk := s1.toks) I1 _ (turn_str _ x t "str_ascii_iterator" (.inl rfl)) ⟨_, Heap.get?_push_size _ rfl, rfl, rfl⟩ q)
def rSeq (K : PySem.W.Frag) : V → Hp → (It → Hp → Prop) → Prop := fun x H R => (∃ a, x = .ref a ∧ (∃ xs, SqL K H a xs) ∧ R (Itl K a) H) ∨ (∃ a, x = .ref a ∧ (∃ xs, SqT K H a xs) ∧ R (Itt K a) H) ∨ ∃ z, x = .str z ∧ R (Its z) H
theorem it_seq : ItR X tg (rSeq X.K) := by
  intro pins s σ H x v R I r q
  rcases q with q | q | q
  · exact it_list pins s σ H x v R I r q
  · exact it_tup pins s σ H x v R I r q
  · exact it_str pins s σ H x v R I r q
/-- the items of a list, a tuple, a text -/
def D.items : D → Option (List D)
  | .lst ds => some ds
  | .tup ds => some ds
  | .str z => some (z.cps.toList.map fun c => .str ⟨#[c]⟩)
  | _ => none
def gItems (g : GV) : GI := fun S => (g S).bind fun d S1 => match d.items with
  | some ds => .ok ds S1
  | none => .bad
theorem stay_seqL {K : PySem.W.Frag} {mg : Str → Option Value} {H H' : Hp} {a : Addr} {xs : List V} (h : FzL K H a xs) (s : Stay H H') : SqL K H' a xs := (h.stay s).sq
theorem itok_list {K : PySem.W.Frag} {mg : Str → Option Value} {H : Hp} {a : Addr} {vs : List V} {ds : List D} (h : FzL K H a vs) (r : Reps K mg H ds vs) : ItOk K mg H ds (Itl K a) := fun i H1 s => by
  refine ⟨fun d e => ?_, fun hl => ⟨vs, (h.stay s).sq, by rw [r.len]; exact hl⟩⟩
  obtain ⟨v, ev, rv⟩ := r.get e
  refine ⟨⟨vs, v, (h.stay s).sq, ev⟩, fun x H' y => ?_⟩
  obtain ⟨e1, y⟩ := y
  subst e1
  have e2 := y vs (h.stay s).sq
  rw [ev] at e2
  cases e2
  exact ⟨Same.refl _, rv.stay s _ _⟩
theorem itok_tup {K : PySem.W.Frag} {mg : Str → Option Value} {H : Hp} {a : Addr} {vs : List V} {ds : List D} (h : FzT K H a vs) (r : Reps K mg H ds vs) : ItOk K mg H ds (Itt K a) := fun i H1 s => by
  refine ⟨fun d e => ?_, fun hl => ⟨vs, (h.stay s).sq, by rw [r.len]; exact hl⟩⟩
  obtain ⟨v, ev, rv⟩ := r.get e
  refine ⟨⟨vs, v, (h.stay s).sq, ev⟩, fun x H' y => ?_⟩
  obtain ⟨e1, y⟩ := y
  subst e1
  have e2 := y vs (h.stay s).sq
  rw [ev] at e2
  cases e2
  exact ⟨Same.refl _, rv.stay s _ _⟩
theorem itok_str {K : PySem.W.Frag} {mg : Str → Option Value} {H : Hp} {z : Str} : ItOk K mg H (z.cps.toList.map fun c => .str ⟨#[c]⟩) (Its z) := fun i H1 s => by
  refine ⟨fun d e => ?_, fun hl => by
    show z.cps.size ≤ i
    simpa using hl⟩
  rw [List.getElem?_map] at e
  cases q : z.cps.toList[i]? with
  | none =>
    rw [q] at e
    cases e
  | some c =>
    rw [q] at e
    cases e
    have q' : z.cps[i]? = some c := by simpa using q
    have hi : i < z.cps.size := by
      obtain ⟨h, _⟩ := Array.getElem?_eq_some_iff.mp q'
      exact h
    refine ⟨hi, fun x H' y => ?_⟩
    obtain ⟨e1, c', e2, e3⟩ := y
    subst e1
    rw [q'] at e2
    cases e2
    exact ⟨Same.refl _, e3⟩
theorem pi_items {g : GV} (h : PV X F W l g) : PId X F W tg l (gItems g) :=
  ⟨(pi_of h.pe it_seq).imp fun σ H R q => tG.bind q fun d S1 v H1 I1 r s k => by
    cases d with
    | lst ds =>
      obtain ⟨a, vs, rfl, e1, e2⟩ := r
      exact .inl ⟨a, rfl, ⟨vs, e1.sq⟩, k.ok (a := ds) I1 (itok_list e1 e2)⟩
    | tup ds =>
      obtain ⟨a, vs, rfl, e1, e2⟩ := r
      exact .inr (.inl ⟨a, rfl, ⟨vs, e1.sq⟩, k.ok (a := ds) I1 (itok_tup e1 e2)⟩)
    | str z => exact .inr (.inr ⟨z, r, k.ok (a := z.cps.toList.map fun c => D.str ⟨#[c]⟩) I1 itok_str⟩)
    | _ => exact k.elim⟩
/-- range -/
def rng (lo : Int) (n : Nat) : List D := (List.range n).map fun k => .int (lo + (k : Nat))
def gRng1 (g : GA) : GI := fun S => (g S).bind fun os S1 => match gets S1 os with
  | some [.int j] => if Fit62 j then .ok (rng 0 j.toNat) S1 else .bad
  | _ => .bad
def gRng2 (g : GA) : GI := fun S => (g S).bind fun os S1 => match gets S1 os with
  | some [.int i, .int j] => if Fit62 i ∧ Fit62 j then .ok (rng i (j - i).toNat) S1 else .bad
  | _ => .bad
/-- range(i, j, c): c = -1 -/
def rngD (i : Int) (n : Nat) : List D := (List.range n).map fun k => .int (i + (k : Nat) * (-1))
def gRng3 (g : GA) : GI := fun S => (g S).bind fun os S1 => match gets S1 os with
  | some [.int i, .int j, .int c] => if c = -1 ∧ Fit62 i ∧ Fit62 j then .ok (rngD i (i - j).toNat) S1 else .bad
  | _ => .bad
theorem itok_range {K : PySem.W.Frag} {mg : Str → Option Value} {H : Hp} {lo : Int} {n : Nat} : ItOk K mg H (rng lo n) (Itr lo n) := fun i H1 s => by
  unfold rng
  refine ⟨fun d e => ?_, fun hl => by
    show n ≤ i
    simpa using hl⟩
  rw [List.getElem?_map] at e
  by_cases hi : i < n
  · rw [List.getElem?_range hi] at e
    cases e
    refine ⟨hi, fun x H' y => ?_⟩
    obtain ⟨e1, e2⟩ := y
    subst e1
    exact ⟨Same.refl _, e2⟩
  · rw [List.getElem?_eq_none (by simpa using hi)] at e
    cases e
theorem itok_rangeD {K : PySem.W.Frag} {mg : Str → Option Value} {H : Hp} {lo : Int} {n : Nat} : ItOk K mg H (rngD lo n) (Itc lo (-1) n) := fun i H1 s => by
  unfold rngD
  refine ⟨fun d e => ?_, fun hl => by
    show n ≤ i
    simpa using hl⟩
  rw [List.getElem?_map] at e
  by_cases hi : i < n
  · rw [List.getElem?_range hi] at e
    cases e
    refine ⟨hi, fun x H' y => ?_⟩
    obtain ⟨e1, e2⟩ := y
    subst e1
    exact ⟨Same.refl _, e2⟩
  · rw [List.getElem?_eq_none (by simpa using hi)] at e
    cases e
theorem pi_rng1 {a : Expr} {g : GA} {p pos : Pos} (hg : Gl X "range") (hm : X.mg "range" = none) (ha : PAs X F W [a] g) (hs : starEach [a] X.env = [(false, eval a X.env)] := by rfl) : PId X F W tg (.Call (.Name "range" p) [a] [] pos) (gRng1 g) :=
  ⟨(pi_range1 hg hm ha.pa hs).imp fun σ H R q => tG.bind q fun os S1 vs H1 I1 r s k => by
    split at k
    · rename_i j e1
      have ru := ROs.unf I1 (S0 := S1) r e1
      by_cases hb : Fit62 j
      · rw [if_pos hb] at k
        cases ru with
        | cons h1 h2 =>
          cases h2
          have ev := h1.int
          subst ev
          exact ⟨j, rfl, hb.lo, hb.hi, k.ok (R := RI X.K X.mg) I1 itok_range⟩
      · rw [if_neg hb] at k
        exact k.elim
    · exact k.elim⟩
theorem pi_rng2 {a b : Expr} {g : GA} {p pos : Pos} (hg : Gl X "range") (hm : X.mg "range" = none) (ha : PAs X F W [a, b] g) (hs : starEach [a, b] X.env = [(false, eval a X.env), (false, eval b X.env)] := by rfl) (hs2 : starEach [b] X.env = [(false, eval b X.env)] := by rfl) :
    PId X F W tg (.Call (.Name "range" p) [a, b] [] pos) (gRng2 g) :=
  ⟨(pi_range2 hg hm ha.pa hs hs2).imp fun σ H R q => tG.bind q fun os S1 vs H1 I1 r s k => by
    split at k
    · rename_i i j e1
      have ru := ROs.unf I1 (S0 := S1) r e1
      by_cases hb : Fit62 i ∧ Fit62 j
      · rw [if_pos hb] at k
        cases ru with
        | cons h1 h2 =>
          cases h2 with
          | cons h3 h4 =>
            cases h4
            have ev := h1.int
            have ev2 := h3.int
            subst ev ev2
            exact ⟨i, j, rfl, ⟨hb.1.lo, hb.1.hi, hb.2.lo, hb.2.hi⟩, k.ok (R := RI X.K X.mg) I1 itok_range⟩
      · rw [if_neg hb] at k
        exact k.elim
    · exact k.elim⟩
theorem pi_rng3 {a b c : Expr} {g : GA} {p pos : Pos} (hg : Gl X "range") (hm : X.mg "range" = none) (ha : PAs X F W [a, b, c] g) (hs : starEach [a, b, c] X.env = (false, eval a X.env) :: starEach [b, c] X.env := by rfl)
    (hs2 : (backTo pos (starEach [b, c] X.env)).any (·.1) = false := by rfl) :
    PId X F W tg (.Call (.Name "range" p) [a, b, c] [] pos) (gRng3 g) :=
  ⟨(pi_range3 hg hm ha.pa hs hs2).imp fun σ H R q => tG.bind q fun os S1 vs H1 I1 r s k => by
    split at k
    · rename_i i j cc e1
      have ru := ROs.unf I1 (S0 := S1) r e1
      by_cases hb : cc = -1 ∧ Fit62 i ∧ Fit62 j
      · rw [if_pos hb] at k
        obtain ⟨rfl, c1, c2⟩ := hb
        have b1 := c1.lo
        have b2 := c1.hi
        have b3 := c2.lo
        have b4 := c2.hi
        cases ru with
        | cons h1 h2 =>
          cases h2 with
          | cons h3 h4 =>
            cases h4 with
            | cons h5 h6 =>
              cases h6
              have ev := h1.int
              have ev2 := h3.int
              have ev3 := h5.int
              subst ev ev2 ev3
              exact ⟨i, j, -1, (i - j).toNat, rfl, RgC.neg b1 b2 b3 b4, k.ok (R := RI X.K X.mg) I1 itok_rangeD⟩
      · rw [if_neg hb] at k
        exact k.elim
    · exact k.elim⟩
/-! ### targets -/
abbrev GTg := D → List SV → Option (List SV)
def tT (K : PySem.W.Frag) (mg : Str → Option Value) (F : Fx) (ts : List Nat) (f : GTg) : TG := fun v σ H Q => ∃ d S S', EnvD K mg F σ H S ∧ Rep K mg H d v ∧ f d S = some S' ∧ ∀ σ', EnvD K mg F σ' H S' → Agr ts σ σ' → σ'.length = σ.length → Q σ' H
structure PGD (X : Cx) (F : Fx) (ts : List Nat) (tg : Expr) (f : GTg) : Prop where
  pg : PG X tg (tT X.K X.mg F ts f)
def tTs (K : PySem.W.Frag) (mg : Str → Option Value) (F : Fx) (ts : List Nat) (f : List D → List SV → Option (List SV)) : TGs := fun vs σ H Q => ∃ ds S S', EnvD K mg F σ H S ∧ Reps K mg H ds vs ∧ f ds S = some S' ∧ ∀ σ', EnvD K mg F σ' H S' → Agr ts σ σ' → σ'.length = σ.length → Q σ' H
structure PGsD (X : Cx) (F : Fx) (ts : List Nat) (tg : List Expr) (f : List D → List SV → Option (List SV)) : Prop where
  pg : PGs X tg (tTs X.K X.mg F ts f)
theorem _root_.L2.PG.imp {X : Cx} {tg : Expr} {t t' : TG} (h : PG X tg t) (i : ∀ v σ H Q, t' v σ H Q → t v σ H Q) : PG X tg t' := ⟨fun pins s σ H v u Q I r q => h.run pins s σ H v u Q I r (i v σ H Q q)⟩
theorem _root_.L2.PGs.imp {X : Cx} {tg : List Expr} {t t' : TGs} (h : PGs X tg t) (i : ∀ v σ H Q, t' v σ H Q → t v σ H Q) : PGs X tg t' := ⟨fun pins s σ H v u Q I r q => h.run pins s σ H v u Q I r (i v σ H Q q)⟩
def gtName (i : Nat) : GTg := fun d S => if i < S.length then some (S.set i (.dat d)) else none
theorem pg_nameD {i : Nat} {x : Str} {pos : Pos} (hN : X.N.Nodup) (hi : X.N[i]? = some x) (hx : Loc X.env.scope x) (hf : X.fn x = true ∨ X.env.scope.names.lookup x = some .local := by first | exact .inl rfl | exact .inr rfl | assumption) : PGD X F [i] (.Name x pos) (gtName i) :=
  ⟨(pg_name hN hi hx hf).imp fun v σ H Q ⟨d, S, S', I, r, e, q⟩ => by
    unfold gtName at e
    by_cases hl : i < S.length
    · rw [if_pos hl] at e
      cases e
      exact q _ (I.store hl (sv := .dat d) r) agr_set (by rw [List.length_set])
    · rw [if_neg hl] at e
      cases e⟩
def gtsNil : List D → List SV → Option (List SV) := fun ds S => match ds with
  | [] => some S
  | _ => none
def gtsCons (f : GTg) (g : List D → List SV → Option (List SV)) : List D → List SV → Option (List SV) := fun ds S => match ds with
  | [] => none
  | d :: ds => match f d S with
    | some S1 => g ds S1
    | none => none
theorem pgs_nilD : PGsD X F [] [] gtsNil :=
  ⟨pgs_nil.imp fun v σ H Q ⟨ds, S, S', I, r, e, q⟩ => by
    cases ds with
    | nil =>
      cases e
      cases r
      exact ⟨rfl, q σ I Agr.refl rfl⟩
    | cons _ _ => cases e⟩
theorem pgs_consD {ts us : List Nat} {f : GTg} {g : List D → List SV → Option (List SV)} {e : Expr} {es : List Expr} (h1 : PGD X F ts e f) (h2 : PGsD X F us es g)
    (hs : (assignEach (e :: es) X.env).map (·.2) = assign e X.env :: (assignEach es X.env).map (·.2) := by rfl) : PGsD X F (ts ++ us) (e :: es) (gtsCons f g) :=
  ⟨(pgs_cons h1.pg h2.pg hs).imp fun v σ H Q ⟨ds, S, S', I, r, e, q⟩ => by
    cases ds with
    | nil => cases e
    | cons d ds =>
      obtain ⟨v0, vr, rfl, r1, r2⟩ := r
      have e' : (match f d S with
        | some S1 => g ds S1
        | none => none) = some S' := e
      cases e1 : f d S with
      | none =>
        rw [e1] at e'
        cases e'
      | some S1 =>
        rw [e1] at e'
        exact ⟨v0, vr, rfl, d, S, S1, I, r1, e1, fun σ1 I1 a1 l1 => ⟨ds, S1, S', I1, r2, e', fun σ2 I2 a2 l2 => q σ2 I2 (a1.trans a2) (l2.trans l1)⟩⟩⟩
def gtTup (n : Nat) (f : List D → List SV → Option (List SV)) : GTg := fun d S => match d with
  | .tup ds => if ds.length = n then f ds S else none
  | _ => none
theorem pg_tupD {ts : List Nat} {f : List D → List SV → Option (List SV)} {es : List Expr} {k n : Nat} {pos : Pos} (hc : X.calm = true) (h : PGsD X F ts es f)
    (hn : (assignEach es X.env).length = n := by rfl) (hst : (assignEach es X.env).findIdx? (·.1) = none := by rfl) : PGD X F ts (.Tuple es k pos) (gtTup n f) :=
  ⟨(pg_tup hc h.pg hn hst).imp fun v σ H Q ⟨d, S, S', I, r, e, q⟩ => by
    cases d with
    | tup ds =>
      have e' : (if ds.length = n then f ds S else none) = some S' := e
      by_cases hl : ds.length = n
      · rw [if_pos hl] at e'
        obtain ⟨a, vs, rfl, f1, r1⟩ := r
        exact ⟨a, vs, rfl, f1.sq, by rw [r1.len]; exact hl, ds, S, S', I, r1, e', q⟩
      · rw [if_neg hl] at e'
        cases e'
    | _ => cases e⟩
/-! ### for -/
def forG (tgt : GTg) (body : GS) (dead : List Nat) : List D → GS
  | [] => fun S => .nx S
  | d :: ds => fun S => match tgt d S with
    | none => .bad
    | some S1 => (match body S1 with
      | .nx S2 => forG tgt body dead ds (wipeS S2 dead)
      | .ct S2 => forG tgt body dead ds (wipeS S2 dead)
      | .bk S2 => .nx S2
      | r => r)
def gFor (src : GI) (tgt : GTg) (body : GS) (dead : List Nat) : GS := fun S => (src S).st fun ds S1 => forG tgt body dead ds (wipeS S1 dead)
theorem ps_forD {src : GI} {tgt : GTg} {bodyG : GS} {ts m : List Nat} {iter : Expr} {body : List Stmt} {pos : Pos} {k : Nat} (dead : List Nat) (c : BC X W k) (hi : PId X F W tg iter src) (hg : PGD X F ts tg tgt) (hb : PSsD X F W m body bodyG)
    (hs : ∀ x, foldedSetIterable iter X.env x = pure x := by intro _; rfl) : PSD X F W (ts ++ m) (.For tg iter body [] pos) (gFor src tgt bodyG dead) := by
  refine ⟨(ps_for c.po c.calm hi.pi hg.pg hb.ps hs).imp fun D σ H q => tS.expr q fun ds S1 J H1 I1 J1 s1 k => ?_⟩
  have J1 : ItOk X.K X.mg H1 ds J := J1
  refine ⟨fun i mm σ' H' => mm = ds.length - i ∧ i ≤ ds.length ∧ Stay H1 H' ∧ Agr (ts ++ m) σ σ' ∧ ∃ S, EnvD X.K X.mg F σ' H' S ∧ OutS X.K X.mg F W (ts ++ m) σ H1 (forG tgt bodyG dead (ds.drop i) S) D,
    ⟨ds.length, rfl, Nat.zero_le _, Stay.refl _, Agr.refl, _, I1.wipes dead, k⟩, fun i mm σ2 H2 w => ?_⟩
  obtain ⟨rfl, hi, st, ag, S, I, o⟩ := w
  by_cases hl : i < ds.length
  · right
    obtain ⟨go, yl⟩ := (J1 i H2 st).1 ds[i] (List.getElem?_eq_getElem hl)
    rw [List.drop_eq_getElem_cons hl] at o
    have o' : OutS X.K X.mg F W (ts ++ m) σ H1 (match tgt ds[i] S with
      | none => .bad
      | some S1 => (match bodyG S1 with
        | .nx S2 => forG tgt bodyG dead (ds.drop (i + 1)) (wipeS S2 dead)
        | .ct S2 => forG tgt bodyG dead (ds.drop (i + 1)) (wipeS S2 dead)
        | .bk S2 => .nx S2
        | r => r)) D := o
    refine ⟨go, fun σ' H' => Stay H1 H' ∧ Agr (ts ++ m) σ σ' ∧ ∃ S, EnvD X.K X.mg F σ' H' S ∧ OutS X.K X.mg F W (ts ++ m) σ H1 (forG tgt bodyG dead (ds.drop (i + 1)) S) D, fun σ' H' h => ⟨ds.length - (i + 1), by omega, rfl, hl, h⟩, fun x H3 y => ?_⟩
    obtain ⟨sm, rp⟩ := yl x H3 y
    have st3 := st.trans (Stay.of_same sm)
    cases e1 : tgt ds[i] S with
    | none =>
      simp only [e1] at o'
      exact o'.elim
    | some S2 =>
      simp only [e1] at o'
      refine ⟨ds[i], S, S2, I.same sm, rp, e1, fun σ4 I4 a4 l4 => ⟨S2, I4, ?_⟩⟩
      have ag4 : Agr (ts ++ m) σ σ4 := fun j hj => by
        rw [a4 j fun z => hj (List.mem_append_left _ z), ag j hj]
      have agm : ∀ {σ5 : L2.St}, Agr m σ4 σ5 → Agr (ts ++ m) σ σ5 := fun {σ5} a j hj => by
        rw [a j fun z => hj (List.mem_append_right _ z), ag4 j hj]
      cases e2 : bodyG S2 with
      | nx S3 =>
        simp only [e2] at o'
        exact fun σ5 H5 I5 a5 s5 => ⟨st3.trans s5, agm a5, _, I5.wipes dead, o'⟩
      | ct S3 =>
        simp only [e2] at o'
        exact fun σ5 H5 I5 a5 s5 => ⟨st3.trans s5, agm a5, _, I5.wipes dead, o'⟩
      | bk S3 =>
        simp only [e2] at o'
        exact fun σ5 H5 I5 a5 s5 => o' σ5 H5 I5 (agm a5) (st3.trans s5)
      | rt sv S3 =>
        simp only [e2] at o'
        exact fun v σ5 H5 I5 r5 a5 s5 => o' v σ5 H5 I5 r5 (agm a5) (st3.trans s5)
      | exc x S3 =>
        simp only [e2] at o'
        exact fun cls d σ5 H5 I5 r5 a5 s5 => o' cls d σ5 H5 I5 r5 (agm a5) (st3.trans s5)
      | bad =>
        simp only [e2] at o'
        exact o'
  · left
    have e : i = ds.length := by omega
    subst e
    rw [List.drop_length] at o
    exact ⟨(J1 _ H2 st).2 (Nat.le_refl _), o σ2 H2 I ag st⟩
/-! ### while -/
def whileG (c : GT) (body : GS) (dead : List Nat) : Nat → GS
  | 0 => fun _ => .bad
  | n + 1 => fun S => (c S).st fun b S1 => if b = true then (match body S1 with
      | .nx S2 => whileG c body dead n (wipeS S2 dead)
      | .ct S2 => whileG c body dead n (wipeS S2 dead)
      | .bk S2 => .nx S2
      | r => r)
    else .nx S1
def gWhile (c : GT) (body : GS) (dead : List Nat) (n : Nat) : GS := fun S => whileG c body dead n (wipeS S dead)
theorem ps_whileD {c : GT} {bodyG : GS} {m : List Nat} {ce : Expr} {body : List Stmt} {pos : Pos} {k : Nat} (dead : List Nat) (n : Nat) (bc : BC X W k) (hc : PB X F W ce c) (hb : PSsD X F W m body bodyG) :
    PSD X F W m (.While ce body [] pos) (gWhile c bodyG dead n) := by
  refine ⟨(ps_while bc.po hc.pt hb.ps).imp fun D σ H ⟨S0, I0, q⟩ => ?_⟩
  refine ⟨fun mm σ' H' => Stay H H' ∧ Agr m σ σ' ∧ ∃ S, EnvD X.K X.mg F σ' H' S ∧ OutS X.K X.mg F W m σ H (whileG c bodyG dead mm S) D, ⟨n, Stay.refl _, Agr.refl, _, I0.wipes dead, q⟩, fun mm σ1 H1 w => ?_⟩
  obtain ⟨st, ag, S, I, o⟩ := w
  cases mm with
  | zero => exact o.elim
  | succ mm =>
    have o' : OutS X.K X.mg F W m σ H ((c S).st fun b S1 => if b = true then (match bodyG S1 with
        | .nx S2 => whileG c bodyG dead mm (wipeS S2 dead)
        | .ct S2 => whileG c bodyG dead mm (wipeS S2 dead)
        | .bk S2 => .nx S2
        | r => r)
      else .nx S1) D := o
    refine ⟨S, I, ?_⟩
    cases e : c S with
    | bad =>
      simp only [e] at o'
      exact o'
    | exc x S1 =>
      simp only [e] at o'
      exact fun cls d H2 I2 r2 s2 => o' cls d σ1 H2 I2 r2 ag (st.trans s2)
    | ok b S1 =>
      simp only [e] at o'
      intro b' H2 I2 eb s2
      have eb' : b = b' := eb
      subst eb'
      have st2 := st.trans s2
      cases b with
      | false =>
        refine iteF ?_
        rw [Res.st_ok, if_neg Bool.false_ne_true] at o'
        exact o' σ1 H2 I2 ag st2
      | true =>
        refine iteT ?_
        rw [Res.st_ok, if_pos rfl] at o'
        refine ⟨fun σ' H' => Stay H H' ∧ Agr m σ σ' ∧ ∃ S, EnvD X.K X.mg F σ' H' S ∧ OutS X.K X.mg F W m σ H (whileG c bodyG dead mm S) D, fun σ' H' h => ⟨mm, Nat.lt_succ_self _, h⟩, S1, I2, ?_⟩
        have agm : ∀ {σ5 : L2.St}, Agr m σ1 σ5 → Agr m σ σ5 := fun {σ5} a j hj => by rw [a j hj, ag j hj]
        cases e2 : bodyG S1 with
        | nx S3 =>
          simp only [e2] at o'
          exact fun σ5 H5 I5 a5 s5 => ⟨st2.trans s5, agm a5, _, I5.wipes dead, o'⟩
        | ct S3 =>
          simp only [e2] at o'
          exact fun σ5 H5 I5 a5 s5 => ⟨st2.trans s5, agm a5, _, I5.wipes dead, o'⟩
        | bk S3 =>
          simp only [e2] at o'
          exact fun σ5 H5 I5 a5 s5 => o' σ5 H5 I5 (agm a5) (st2.trans s5)
        | rt sv S3 =>
          simp only [e2] at o'
          exact fun v σ5 H5 I5 r5 a5 s5 => o' v σ5 H5 I5 r5 (agm a5) (st2.trans s5)
        | exc x S3 =>
          simp only [e2] at o'
          exact fun cls d σ5 H5 I5 r5 a5 s5 => o' cls d σ5 H5 I5 r5 (agm a5) (st2.trans s5)
        | bad =>
          simp only [e2] at o'
          exact o'
end
end Pd
end PdJ_text

section PdK_text
set_option maxHeartbeats 4000000
namespace Pd
open PySem PySem.Spec PyProof.Rows L2
/-! ### list comprehensions -/
abbrev W0 : WX := fun _ _ _ _ => False
def compG (tgt : GTg) (test : GT) (elt : GV) (vs : List Nat) : List D → List D → GI
  | [], acc => fun S => .ok acc S
  | d :: ds, acc => fun S => match tgt d S with
    | none => .bad
    | some S1 => (match test S1 with
      | .ok true S2 => (match elt S2 with
        | .ok y S3 => if Fits acc.length then compG tgt test elt vs ds (acc ++ [y]) (wipeS S3 vs) else .bad
        | _ => .bad)
      | .ok false S2 => compG tgt test elt vs ds acc (wipeS S2 vs)
      | _ => .bad)
def gComp (src : GI) (tgt : GTg) (test : GT) (elt : GV) (vs : List Nat) : GE := fun S => (src S).bind fun ds S1 => (compG tgt test elt vs ds [] (wipeS S1 vs)).bind fun acc S2 => .ok (.own true (.lst acc)) S2
structure PBs (X : Cx) (F : Fx) (W : WX) (ifs : List Expr) (g : GT) : Prop where
  pt : PTs X ifs (tG X.K X.mg F W RB g)
def gYes : GT := fun S => .ok true S
theorem _root_.L2.PTs.imp {X : Cx} {e : List Expr} {t t' : TT} (h : PTs X e t) (i : ∀ σ H Q, t' σ H Q → t σ H Q) : PTs X e t' := ⟨fun pins s σ H Q I q => h.run pins s σ H Q I (i σ H Q q)⟩
theorem pbs_nil {X : Cx} {F : Fx} {W : WX} : PBs X F W [] gYes := ⟨pts_nil.imp fun σ H Q ⟨S, I, q⟩ => q.ok (R := RB) I rfl⟩
theorem pbs_one {X : Cx} {F : Fx} {W : WX} {c : Expr} {g : GT} (h : PB X F W c g) : PBs X F W [c] g := ⟨pts_one h.pt⟩
section
variable {K : PySem.W.Frag} {mg : Str → Option Value} {F : Fx} {σ : L2.St} {H : Hp} {S : List SV}
theorem wipe_in {σ : L2.St} {j : Nat} : ∀ {vs : List Nat}, j ∈ vs → j < σ.length → (wipe σ vs)[j]? = some none
  | [], h, _ => by cases h
  | v :: vs, h, hl => by
    unfold wipe
    by_cases e : v = j
    · subst e
      rw [List.getElem?_set_self (by rw [wipe_length]; exact hl)]
    · rw [List.getElem?_set_ne e]
      rcases List.mem_cons.mp h with rfl | h
      · exact absurd rfl e
      · exact wipe_in h hl
theorem wipe_eq {σ σ' : L2.St} {vs : List Nat} (hl : σ'.length = σ.length) (h : Agr vs σ σ') : wipe σ' vs = wipe σ vs := by
  apply List.ext_getElem?
  intro j
  by_cases hj : j ∈ vs
  · by_cases hlt : j < σ.length
    · rw [wipe_in hj (by rw [hl]; exact hlt), wipe_in hj hlt]
    · rw [List.getElem?_eq_none (by rw [wipe_length, hl]; omega), List.getElem?_eq_none (by rw [wipe_length]; omega)]
  · rw [wipe_out hj, wipe_out hj, h j hj]
theorem wipe_wipe {σ : L2.St} {vs : List Nat} : wipe (wipe σ vs) vs = wipe σ vs := wipe_eq (wipe_length σ vs) fun j hj => wipe_out hj
theorem wipeS_in {S : List SV} {j : Nat} {sv : SV} : ∀ {vs : List Nat}, j ∈ vs → (wipeS S vs)[j]? = some sv → sv = .no
  | [], h, _ => by cases h
  | v :: vs, h, e => by
    unfold wipeS at e
    by_cases q : v = j
    · subst q
      by_cases hl : v < (wipeS S vs).length
      · rw [List.getElem?_set_self hl] at e
        exact (Option.some.inj e).symm
      · rw [List.getElem?_eq_none (by rw [List.length_set]; omega)] at e
        cases e
    · rw [List.getElem?_set_ne q] at e
      rcases List.mem_cons.mp h with rfl | h
      · exact absurd rfl q
      · exact wipeS_in h e
theorem EnvD.wipe (I : EnvD K mg F σ H S) : ∀ vs : List Nat, EnvD K mg F (L2.wipe σ vs) H (wipeS S vs)
  | [] => I
  | v :: vs => (EnvD.wipe I vs).forget v none
/-- the slots that were forgotten take any value -/
theorem EnvD.rewipe {σ' : L2.St} {vs : List Nat} (I : EnvD K mg F σ' H (wipeS S vs)) (hl : σ.length = σ'.length) (h : ∀ j, j ∉ vs → σ[j]? = σ'[j]?) : EnvD K mg F σ H (wipeS S vs) := by
  have own : ∀ {j : Nat} {b : Bool} {c : Cn}, (wipeS S vs)[j]? = some (.own b c) → j ∉ vs := fun {j b c} e m => by
    have z := wipeS_in m e
    cases z
  refine ⟨by rw [hl]; exact I.len, fun i sv e => ?_, fun i j a b c b' c' ei ej si sj => ?_, I.frame, I.bor, fun p hp => ⟨(I.prot p hp).1, fun i b c e => ?_⟩⟩
  · by_cases hi : i ∈ vs
    · rw [wipeS_in hi e]
      exact True.intro
    · rw [h i hi]
      exact I.slot i sv e
  · rw [h i (own ei)] at si
    rw [h j (own ej)] at sj
    exact I.inj i j a _ _ _ _ ei ej si sj
  · rw [h i (own e)]
    exact (I.prot p hp).2 i _ _ e
/-- an object that no slot holds changes -/
theorem EnvD.poke (I : EnvD K mg F σ H S) {D : Addr} {o u : HO} (h : H D = some o) (m : Mut (some o)) (n : ∀ (j : Nat) b c, S[j]? = some (.own b c) → σ[j]? ≠ some (some (.ref D))) (h0 : F.H0 D = none) (hp : ∀ p ∈ F.pr, p.1 ≠ D) : EnvD K mg F σ (upd H D u) S := by
  have st := stay_upd (u := u) h m
  refine ⟨I.len, fun i sv e => ?_, I.inj, fun b o' e q => ?_, fun a e => ?_, fun p e => ⟨by rw [upd_ne (hp p e)]; exact (I.prot p e).1, (I.prot p e).2⟩⟩
  · have q := I.slot i sv e
    cases sv with
    | no => exact True.intro
    | dat d =>
      obtain ⟨v, w1, w2⟩ := q
      exact ⟨v, w1, w2.stay st _ _⟩
    | own b c =>
      obtain ⟨a, ho, w1, w2, w3, w4, w5⟩ := q
      have ne : a ≠ D := fun z => by
        subst z
        exact n i _ _ e w1
      exact ⟨a, ho, w1, by rw [upd_ne ne]; exact w2, w3.stay st, w4, w5⟩
    | exc x =>
      obtain ⟨a, d, cls, w1, w2, w3⟩ := q
      exact ⟨a, d, cls, w1, w2, w3.keep st fun b fs z => upd_xd h m z⟩
  · rw [upd_ne (fun z => by rw [z, h0] at e; cases e)]
    exact I.frame b o' e q
  · by_cases z : a = D
    · exact ⟨u, by rw [z, upd_same]⟩
    · obtain ⟨o', w⟩ := I.bor a e
      exact ⟨o', by rw [upd_ne z]; exact w⟩
end
section
variable {X : Cx} {F : Fx} {W : WX}
theorem pe_ex {α : Type} {e : Expr} {t : α → TE} (h : ∀ a, PE X e (t a)) : PE X e (fun σ H Q => ∃ a, t a σ H Q) := ⟨fun pins s σ H Q I ⟨a, q⟩ => (h a).run pins s σ H Q I q⟩
theorem pts_ex {α : Type} {e : List Expr} {t : α → TT} (h : ∀ a, PTs X e (t a)) : PTs X e (fun σ H Q => ∃ a, t a σ H Q) := ⟨fun pins s σ H Q I ⟨a, q⟩ => (h a).run pins s σ H Q I q⟩
theorem pg_ex {α : Type} {e : Expr} {t : α → TG} (h : ∀ a, PG X e (t a)) : PG X e (fun v σ H Q => ∃ a, t a v σ H Q) := ⟨fun pins s σ H v u Q I r ⟨a, q⟩ => (h a).run pins s σ H v u Q I r q⟩
theorem lc_imp {src : GI} {tgt : GTg} {test : GT} {elt : GV} {vs ts : List Nat} (hts : ∀ j ∈ ts, j ∈ vs) {σ : L2.St} {H : Hp} {Q : VK} (q : tG X.K X.mg F W (RE X.K X.mg F) (gComp src tgt test elt vs) σ H Q) :
    tLc (tG X.K X.mg F W (RI X.K X.mg) src) (fun v σ H Q => ∃ F : Fx, tT X.K X.mg F ts tgt v σ H Q) (fun σ H Q => ∃ F : Fx, tG X.K X.mg F W0 RB test σ H Q) (fun σ H Q => ∃ F : Fx, tG X.K X.mg F W0 (RD X.K X.mg) elt σ H Q) vs σ H Q := by
  refine tG.bind q fun ds S1 J H1 I1 J1 s1 k => ?_
  have J1 : ItOk X.K X.mg H1 ds J := J1
  intro D hD
  have sD := same_upd (o := HO.lst []) hD
  have hF0 := I1.fresh hD
  have hFp := I1.noprot hD
  have I2 := I1.wipe vs
  have noS : ∀ {S : List SV} {j : Nat} {b : Bool} {c : Cn}, (wipeS S vs)[j]? = some (.own b c) → j ∉ vs := fun {S j b c} e m => by
    have z := wipeS_in m e
    cases z
  refine ⟨fun i mm H' => mm = ds.length - i ∧ i ≤ ds.length ∧ Stay H1 H' ∧ ∃ (S : List SV) (acc : List Pd.D) (accV : List V), EnvD X.K X.mg F (wipe σ vs) H' (wipeS S vs) ∧ H' D = some (.lst accV) ∧ Reps X.K X.mg H' acc accV ∧
      (∀ (j : Nat) b c, (wipeS S vs)[j]? = some (.own b c) → (wipe σ vs)[j]? ≠ some (some (.ref D))) ∧
      OutG X.K X.mg F W (RE X.K X.mg F) σ H1 ((compG tgt test elt vs (ds.drop i) acc (wipeS S vs)).bind fun acc S2 => .ok (.own true (.lst acc)) S2) Q,
    ⟨ds.length, rfl, Nat.zero_le _, Stay.of_same sD, S1, [], [], I2.same sD, upd_same, rfl, I2.noal hD, k⟩, fun i mm H2 w => ?_⟩
  obtain ⟨rfl, hi, st, S, acc, accV, I, hHD, racc, na, o⟩ := w
  by_cases hl : i < ds.length
  · right
    obtain ⟨go, yl⟩ := (J1 i H2 st).1 ds[i] (List.getElem?_eq_getElem hl)
    rw [List.drop_eq_getElem_cons hl] at o
    have o' : OutG X.K X.mg F W (RE X.K X.mg F) σ H1 (Res.bind (match tgt ds[i] (wipeS S vs) with
      | none => .bad
      | some S1 => (match test S1 with
        | .ok true S2 => (match elt S2 with
          | .ok y S3 => if Fits acc.length then compG tgt test elt vs (ds.drop (i + 1)) (acc ++ [y]) (wipeS S3 vs) else .bad
          | _ => .bad)
        | .ok false S2 => compG tgt test elt vs (ds.drop (i + 1)) acc (wipeS S2 vs)
        | _ => .bad)) fun acc S2 => .ok (.own true (.lst acc)) S2) Q := o
    refine ⟨go, fun H' => Stay H1 H' ∧ ∃ (S : List SV) (acc : List Pd.D) (accV : List V), EnvD X.K X.mg F (wipe σ vs) H' (wipeS S vs) ∧ H' D = some (.lst accV) ∧ Reps X.K X.mg H' acc accV ∧
      (∀ (j : Nat) b c, (wipeS S vs)[j]? = some (.own b c) → (wipe σ vs)[j]? ≠ some (some (.ref D))) ∧
      OutG X.K X.mg F W (RE X.K X.mg F) σ H1 ((compG tgt test elt vs (ds.drop (i + 1)) acc (wipeS S vs)).bind fun acc S2 => .ok (.own true (.lst acc)) S2) Q, fun H' h => ⟨ds.length - (i + 1), by omega, rfl, hl, h⟩, fun x H3 y => ?_⟩
    obtain ⟨sm, rp⟩ := yl x H3 y
    have st3 := st.trans (Stay.of_same sm)
    have I3 : EnvD X.K X.mg { F with pr := (D, .lst accV) :: F.pr } (wipe σ vs) H3 (wipeS S vs) := (I.same sm).shield (sm _ _ hHD) na
    have racc3 := racc.stay (Stay.of_same sm) _ _
    -- the turn's end
    have fin : ∀ {σ5 : L2.St} {H5 : Hp} {S5 : List SV}, EnvD X.K X.mg { F with pr := (D, .lst accV) :: F.pr } σ5 H5 S5 → wipe σ5 vs = wipe σ vs → Stay H3 H5 →
        (EnvD X.K X.mg F (wipe σ vs) H5 (wipeS S5 vs) ∧ H5 D = some (.lst accV) ∧ Reps X.K X.mg H5 acc accV ∧ ∀ (j : Nat) b c, (wipeS S5 vs)[j]? = some (.own b c) → (wipe σ vs)[j]? ≠ some (some (.ref D))) := fun {σ5 H5 S5} I5 ew s5 => by
      obtain ⟨J5, h5, n5⟩ := (I5.wipe vs).unshield
      rw [ew] at J5 n5
      exact ⟨J5, h5, racc3.stay s5 _ _, n5⟩
    cases e1 : tgt ds[i] (wipeS S vs) with
    | none =>
      simp only [e1] at o'
      exact o'.elim
    | some S2 =>
      simp only [e1] at o'
      refine ⟨{ F with pr := (D, .lst accV) :: F.pr }, ds[i], wipeS S vs, S2, I3, rp, e1, fun σ4 I4 a4 l4 => ?_⟩
      have ew : wipe σ4 vs = wipe σ vs := (wipe_eq l4 (a4.sub hts)).trans wipe_wipe
      refine ⟨ew, { F with pr := (D, .lst accV) :: F.pr }, S2, I4, ?_⟩
      cases e2 : test S2 with
      | bad =>
        simp only [e2] at o'
        exact o'
      | exc x S3 =>
        simp only [e2] at o'
        exact o'.elim
      | ok b S3 =>
        intro b' H4 I5 eb s4
        have eb' : b = b' := eb
        subst eb'
        cases b with
        | false =>
          simp only [e2] at o'
          refine iteF ?_
          obtain ⟨J5, h5, r5, n5⟩ := fin I5 ew s4
          exact ⟨st3.trans s4, S3, acc, accV, J5, h5, r5, n5, o'⟩
        | true =>
          simp only [e2] at o'
          refine iteT ⟨{ F with pr := (D, .lst accV) :: F.pr }, S3, I5, ?_⟩
          cases e3 : elt S3 with
          | bad =>
            simp only [e3] at o'
            exact o'
          | exc x S4 =>
            simp only [e3] at o'
            exact o'.elim
          | ok yd S4 =>
            simp only [e3] at o'
            intro yv H5 I6 ry s5
            by_cases hz : Fits acc.length
            · rw [if_pos hz] at o'
              obtain ⟨J5, h5, r5, n5⟩ := fin I6 ew (s4.trans s5)
              have st6 := stay_upd (u := .lst (accV ++ [yv])) h5 True.intro
              refine ⟨accV, h5, by rw [racc.len]; exact hz.lt, ((st3.trans s4).trans s5).trans st6, S4, acc ++ [yd], accV ++ [yv], ?_, upd_same, ?_, n5, o'⟩
              · exact J5.poke h5 True.intro n5 hF0 hFp
              · exact Reps.app (r5.stay st6 _ _) (Reps.cons (Rep.stay st6 _ _ ry) Reps.nil)
            · rw [if_neg hz] at o'
              exact o'.elim
  · left
    have e : i = ds.length := by omega
    subst e
    rw [List.drop_length] at o
    refine ⟨(J1 _ H2 st).2 (Nat.le_refl _), o _ H2 (I.rewipe (wipe_length σ vs).symm fun j hj => (wipe_out hj).symm) ⟨rfl, D, _, rfl, hHD, ⟨accV, rfl, racc⟩, hF0, hFp, fun j b c e => ?_⟩ st⟩
    rw [← wipe_out (noS e)]
    exact na j b c e
theorem pd_lc {src : GI} {tgt : GTg} {test : GT} {elt : GV} {ts : List Nat} {tg iter el : Expr} {ifs : List Expr} {scope : Scope} {own : List (Str × Nat)} {pos : Pos} {k : Nat} (hts : ∀ j ∈ ts, j ∈ own.map (·.2)) (bc : BC X W k) (hi : PId X F W tg iter src) (ok : BlkOk X.N X.env.scope scope own)
    (hg : ∀ (s : Shared) (H : Hp) (C : Addr) (cl : List (Str × Addr)) (fp : List Addr) (F : Fx), PGD (X.blk s H scope (compEnvC scope cl C X.env) fp) F ts tg tgt)
    (ht : ∀ (s : Shared) (H : Hp) (C : Addr) (cl : List (Str × Addr)) (fp : List Addr) (F : Fx), BC (X.blk s H scope (compEnvC scope cl C X.env) fp) W0 k → PBs (X.blk s H scope (compEnvC scope cl C X.env) fp) F W0 ifs test)
    (he : ∀ (s : Shared) (H : Hp) (C : Addr) (cl : List (Str × Addr)) (fp : List Addr) (F : Fx), BC (X.blk s H scope (compEnvC scope cl C X.env) fp) W0 k → PV (X.blk s H scope (compEnvC scope cl C X.env) fp) F W0 el elt) (hs : ∀ x, foldedSetIterable iter X.env x = pure x := by intro _; rfl) :
    PD X F W (.ListComp el [⟨tg, iter, ifs, 0⟩] scope pos) (gComp src tgt test elt (own.map (·.2))) :=
  have bcb : ∀ (s : Shared) (H : Hp) (C : Addr) (cl : List (Str × Addr)) (fp : List Addr), BC (X.blk s H scope (compEnvC scope cl C X.env) fp) W0 k := fun s H C cl fp => ⟨bc.hr, bc.calm, takes0, bc.nd, PassesOwn.never⟩
  ⟨(pe_lc bc.calm bc.nd hi.pi ok (fun s H C cl fp => pg_ex fun F => (hg s H C cl fp F).pg) (fun s H C cl fp => pts_ex fun F => (ht s H C cl fp F (bcb s H C cl fp)).pt) (fun s H C cl fp => pe_ex fun F => (he s H C cl fp F (bcb s H C cl fp)).pe) hs).imp
    fun σ H Q q => lc_imp hts q⟩
/-- name = [..] -/
theorem ps_setLcD {src : GI} {tgt : GTg} {test : GT} {elt : GV} {ts : List Nat} {i : Nat} {y : Str} {py : Pos} {tg iter el : Expr} {ifs : List Expr} {scope : Scope} {own : List (Str × Nat)} {pos spos : Pos} {k : Nat} (hts : ∀ j ∈ ts, j ∈ own.map (·.2)) (bc : BC X W k)
    (hy : X.N[i]? = some y) (hyl : X.env.scope.names.lookup y = some .local) (hsw : swapsWith (.ListComp el [⟨tg, iter, ifs, 0⟩] scope pos) (some (.Name y py)) spos.line X.env = pure true) (hi : PId X F W tg iter src) (ok : BlkOk X.N X.env.scope scope own)
    (hg : ∀ (s : Shared) (H : Hp) (C : Addr) (cl : List (Str × Addr)) (fp : List Addr) (F : Fx), PGD (X.blk s H scope (compEnvC scope cl C X.env) fp) F ts tg tgt)
    (ht : ∀ (s : Shared) (H : Hp) (C : Addr) (cl : List (Str × Addr)) (fp : List Addr) (F : Fx), BC (X.blk s H scope (compEnvC scope cl C X.env) fp) W0 k → PBs (X.blk s H scope (compEnvC scope cl C X.env) fp) F W0 ifs test)
    (he : ∀ (s : Shared) (H : Hp) (C : Addr) (cl : List (Str × Addr)) (fp : List Addr) (F : Fx), BC (X.blk s H scope (compEnvC scope cl C X.env) fp) W0 k → PV (X.blk s H scope (compEnvC scope cl C X.env) fp) F W0 el elt) (hs : ∀ x, foldedSetIterable iter X.env x = pure x := by intro _; rfl) :
    PSD X F W [i] (.Assign [.Name y py] (.ListComp el [⟨tg, iter, ifs, 0⟩] scope pos) spos) (gSet i (gComp src tgt test elt (own.map (·.2)))) :=
  have bcb : ∀ (s : Shared) (H : Hp) (C : Addr) (cl : List (Str × Addr)) (fp : List Addr), BC (X.blk s H scope (compEnvC scope cl C X.env) fp) W0 k := fun s H C cl fp => ⟨bc.hr, bc.calm, takes0, bc.nd, PassesOwn.never⟩
  ⟨(ps_setLc bc.calm bc.nd hy hyl hsw hi.pi ok (fun s H C cl fp => pg_ex fun F => (hg s H C cl fp F).pg) (fun s H C cl fp => pts_ex fun F => (ht s H C cl fp F (bcb s H C cl fp)).pt) (fun s H C cl fp => pe_ex fun F => (he s H C cl fp F (bcb s H C cl fp)).pe) hs).imp
    fun D σ H q => lc_imp hts (tS.expr q fun sv S1 v H1 I1 r s z => set_out I1 r z)⟩
end
end Pd
end PdK_text

section PdS_text
set_option maxHeartbeats 4000000
/-! exceptions over ValueError whose __init__ says super().__init__(text); self.f = x -/
namespace Pd
open PySem PySem.Spec PyProof.Rows L2 NdefX
/-- what the written part says of such an __init__: the def at f, written in the class at DC, its cell cc, its code object cda -/
structure SupF (prog : Program) (K : PySem.W.Frag) (DC f cc cda : Addr) (name qual : Str) (params : Arguments) (body : List Stmt) (scope : Scope) (fd : FuncData) : Prop where
  fn : ∃ oc od kV doc pm an ct osl, fd = PySem.W.fnX name qual params body scope [("__class__", cc)] .none kV doc pm an (.ref cda) ct ∧ K.lookup f = some ⟨oc, od, .func fd, osl⟩
  code : PySem.W.codeIn K (.ref cda) qual = true
  file : ∃ ccl cdd vs ccs tf file, K.lookup cda = some ⟨ccl, cdd, .fields vs, ccs⟩ ∧ vs[2]? = some (.str file tf) ∧ ((prog.main.file : Str) == file) = true
  cell : ∃ cl cld csl, K.lookup cc = some ⟨cl, cld, .cell (some (.ref DC)), csl⟩
  cls : ∃ cd, PySem.W.clsIn K DC = some cd
  opq : PySem.W.nsIn K cStatics "thirdparty.any" = some none
/-- of an exception's class at C -/
structure SupC (K : PySem.W.Frag) (C DC : Addr) (fld : Str) : Prop where
  oex : OexC K C
  sup : PySem.W.ks_superIn K C DC "__init__" = some (some (.builtin "ValueError.__init__"))
  mro : PySem.W.mroIn K C (.ref DC) = some true
  ve : PySem.W.subIn K (.ref C) (.type "ValueError") = some true
  noat : PySem.W.findIn K (.ref C) fld = some none
section
open PySem.W
variable {prog : Program} {w : World} {A : Around} {E : Value → Shared → Prop} {h : Heap} {g : Array GenState} {d : Drawn} {t : Nat} {os : OsState}
theorem call_mw {u x C t0 : Addr} {rest : List Value} {nm q : Str} {N : Addr} {bs bm : List Value} {hdct : Bool} {sn : List Str} {sub : List Value} {ab : Bool} {col : Option Bool} {dd : Option Addr} {k0 k1 k2 k3 k5 : Option Value} {Q : Value → Shared → Prop}
    (hC : h.get? C = some (excClassObj nm q C N bs bm hdct sn sub ab col dd k0 k1 k2 k3 k5 "ValueError.__new__")) (he : h.get? x = some (HandSPX.excO C t0)) (hu : h.get? u = some (kxs_mw "ValueError.__init__" x)) (hz : rest.length ≤ sizeLine)
    (hq : ∀ h', (∀ b o, b ≠ x → h.get? b = some o → h'.get? b = some o) → h'.get? x = some (HandSPX.excO C h.objs.size) → Q .none ⟨h', g, d, t, os⟩) :
    wpAny (model prog w) A (call (.ref u) rest) Q E ⟨h, g, d, t, os⟩ := by
  refine wpAny_call (codeAny_of_tree ?_)
  show wpAny _ A.in1 (callAny (.ref u) ⟨rest, []⟩) _ _ _
  simp only [callAny]
  refine wpAny_bind (wpAny_load hu ?_)
  simp only [kxs_mw, show (Value.type "method-wrapper" == Value.type "method" || Value.type "method-wrapper" == Value.type "builtin_function_or_method" || Value.type "method-wrapper" == Value.type "method-wrapper") = true by decide, if_true]
  refine KFB.if_so (by decide) ?_
  refine wpAny_bind (check_bound_init PySem.F.excBase_ValueError.toExcCallFacts hC he rfl ?_)
  refine wpAny_bind (wpAny_pure (wpAny_pure ?_))
  refine ⟨plainId_quiet PySem.F.excBase_ValueError.init.plain _, codeAny_builtin PySem.F.excBase_ValueError.initEntry ?_⟩
  exact exc_init_tree (cls := .ref C) (t0 := t0) (dv := none) (c2 := .none) (c3 := .none) (b4 := .bool false) he hz fun h' k e' t' => hq h' k e'
end
/-- what such a def promises: self, the one argument -/
def spSup (K : PySem.W.Frag) (DC : Addr) (fld : Str) (tm : V → Prop) : Sp := fun vs H Q _ => ∃ (a C : Addr) (y : V), vs = [.ref a, y] ∧ SupC K C DC fld ∧ H a = some (exo a C none) ∧ tm y ∧ ∀ dx, H dx = none → dx ≠ a → Q .non (upd (upd H dx (exd dx [(fld, y)])) a (exo a C (some dx)))
section
variable {P : Program} {w : World} {K : PySem.W.Frag} {mg : Str → Option Value} {base : Heap}
theorem fn_super {DC f cc cda : Addr} {name qual ar fld : Str} {params : Arguments} {scope : Scope} {fd : FuncData} {e1 : Expr} {p0 p1 ap cpos epos q1 q2 q3 apos : Pos} {arg0 : Arg} {k : Nat} {tm : V → Prop}
    (T : SupF P K DC f cc cda name qual params [.Expr (.Call (.Attribute (.Call (.Name "super" p0) [] [] p1) "__init__" ap) [e1] [] cpos) epos, .Assign [.Attribute (.Name "self" q1) fld q2] (.Name ar q3) apos] scope fd)
    (ms : mg "super" = none) (htop : (P.main.scope.names.lookup ("super" : Str)).isSome = false)
    (S : NScope ["self", ar, "__class__"] ["self", ar] ["__class__"] scope) (hks : scope.names.lookup ("super" : Str) = some .globalImplicit)
    (hp : (params.posonlyargs ++ params.args).head? = some arg0) (hp0 : arg0.arg = "self") (hna : (ar == ("__debug__" : Str)) = false) (hnb : (ar == ("__classdict__" : Str)) = false)
    (hE : ∀ (A : Around) (outer : List Env) (s : Shared) (H : Hp) (E : XK) (y : V), tm y → ∃ te : TE, PE (ncx (L2.CX P w) P w K mg base ["self", ar, "__class__"] ⟨name, qual, params, [.Expr (.Call (.Attribute (.Call (.Name "super" p0) [] [] p1) "__init__" ap) [e1] [] cpos) epos, .Assign [.Attribute (.Name "self" q1) fld q2] (.Name ar q3) apos], scope, [("__class__", cc)], cda⟩ f A outer s H E) e1 te ∧
      ∀ (σ : L2.St) (H1 : Hp) (Q : VK), σ[1]? = some (some y) → (∀ v, Q v H1) → te σ H1 Q)
    (hev : ∀ env, ∃ pl : Sem Bool, eval (.Call (.Attribute (.Call (.Name "super" p0) [] [] p1) "__init__" ap) [e1] [] cpos) env = (do
      let ov ← attributeBase (.Call (.Name "super" p0) [] [] p1) "__init__" env (eval (.Call (.Name "super" p0) [] [] p1) env)
      standAt ap.atName
      let (f, first) ← holding [ov] (getMethod ov "__init__" pl)
      callWith cpos f first (backTo cpos (starEach [e1] env)) []))
    (hst : ∀ env, starEach [e1] env = [(false, eval e1 env)]) (hsw2 : ∀ env, swapsWith (.Name ar q3) (some (.Attribute (.Name "self" q1) fld q2)) apos.line env = pure false) (hsw1 : ∀ env, swapsWith (.Call (.Attribute (.Call (.Name "super" p0) [] [] p1) "__init__" ap) [e1] [] cpos) none epos.line env = pure false) :
    FnOk P w K mg base (L2.CX P w) (k + 1) f fd ["self", ar] (spSup K DC fld tm) := by
  refine ⟨fun vs H Q E h => ?_, fun A outer s H args us vs Q E hr e0 hb r hsp => ?_⟩
  · obtain ⟨a, C, y, rfl, _⟩ := h
    rfl
  · obtain ⟨a, C, y, rfl, TC, ea, hty, q⟩ := hsp
    obtain ⟨oc, od, kV, doc, pm, an, ct, osl, rfl, hf⟩ := T.fn
    obtain ⟨ccl, cdd, fvs, ccs, tf, file, hcda, hvs, hfile⟩ := T.file
    obtain ⟨cl, cld, csl, hcc⟩ := T.cell
    obtain ⟨cdD, hD⟩ := T.cls
    have KX : K.In s.heap := e0.mod.kin.keeps fun b o e => (e0.bs b o e).1
    have lim : s.heap.NoLimit := e0.mod.nolimit.keeps fun b o e => (e0.bs b o e).1
    have hcb : base.get? cc = some ⟨cl, cld, .cell (some (.ref DC)), csl⟩ := e0.mod.kin _ _ hcc
    have C0 : CellsAt [("__class__", cc)] ["__class__"] [none] s.heap H := by
      refine ⟨rfl, fun y c e => ?_, fun x y c ex ey => ?_, fun i y e => ?_⟩
      · have ec : c = cc := by
          simp only [List.lookup] at e
          split at e
          · exact (Option.some.inj e).symm
          · cases e
        subst ec
        exact ⟨(e0.bs _ _ hcb).2, _, _, KX _ _ hcc, rfl⟩
      · simp only [List.lookup] at ex ey
        split at ex
        · split at ey
          · rename_i h1 _ h2
            rw [beq_iff_eq.mp h1, beq_iff_eq.mp h2]
          · cases ey
        · cases ex
      · cases i with
        | zero =>
          cases e
          exact ⟨cc, rfl, fun v z => by cases z⟩
        | succ i => simp at e
    refine ks_codeAny_call_defAt hr.depth (KX _ _ hf) rfl lim (PySem.W.codeRec_of KX T.code) rfl hb S.nocell (fun y hy => S.par y.1 (List.of_mem_zip hy).1) (fun h₁ hns kp => ?_) S.co S.gen S.kind
    have I := inv_startN (CX := L2.CX P w) (tk := s.toks + ([("self" : Str), ar].zip us).length) (F := ⟨name, qual, params, [.Expr (.Call (.Attribute (.Call (.Name "super" p0) [] [] p1) "__init__" ap) [e1] [] cpos) epos, .Assign [.Attribute (.Name "self" q1) fld q2] (.Name ar q3) apos], scope, [("__class__", cc)], cda⟩)
      (f := f) (E := E) S hr.hd e0 rfl r C0 hns kp
    obtain ⟨te, hPE, hte⟩ := hE A outer s H E y hty
    generalize hX : ncx (L2.CX P w) P w K mg base ["self", ar, "__class__"] ⟨name, qual, params, [.Expr (.Call (.Attribute (.Call (.Name "super" p0) [] [] p1) "__init__" ap) [e1] [] cpos) epos, .Assign [.Attribute (.Name "self" q1) fld q2] (.Name ar q3) apos], scope, [("__class__", cc)], cda⟩ f A outer s H E = X at I hPE
    have xenv : X.env = PySem.W.envX qual scope s.heap.objs.size f (.ref cda) [("__class__", cc)] := by subst hX; rfl
    have xK : X.K = K := by subst hX; rfl
    have xmg : X.mg = mg := by subst hX; rfl
    have xA : X.A = A.deeper X.env := by subst hX; rfl
    have xP : X.prog = P := by subst hX; rfl
    have xw : X.w = w := by subst hX; rfl
    have xxe : X.xe = fun e s' => wpAny (model P w) (A.deeper X.env) (leaving X.env e) (fun _ s'' => L2.CX P w outer H s E e s'') (fun e' s'' => L2.CX P w outer H s E e' s'') s' := by subst hX; rfl
    have xN : X.N = [("self" : Str), ar, "__class__"] := by subst hX; rfl
    have fin : ∀ {s' : Shared} {σ' : L2.St} {H' : Hp}, Inv X [] σ' H' s' → Q .non H' → CR (L2.CX P w) outer P w H s Q E (.ok (.ret .none)) s' := fun {s' σ' H'} J qq => by
      have hos : s'.os = s.os := by have z := J.os; subst hX; exact z
      have hun : Un (frs outer) [] H H' s.heap s'.heap := by have z := J.base; subst hX; exact z
      have hok : HOk P w H' s'.heap := by have z := J.hok; subst hX; exact z
      exact ⟨.non, H', hos, J.bare, hun, hok, rfl, qq⟩
    suffices hh : PySem.wpAt (model P w) X.A (.func [.Expr (.Call (.Attribute (.Call (.Name "super" p0) [] [] p1) "__init__" ap) [e1] [] cpos) epos, .Assign [.Attribute (.Name "self" q1) fld q2] (.Name ar q3) apos] X.env) (execs [.Expr (.Call (.Attribute (.Call (.Name "super" p0) [] [] p1) "__init__" ap) [e1] [] cpos) epos, .Assign [.Attribute (.Name "self" q1) fld q2] (.Name ar q3) apos] X.env)
        (fun f' s' => CR (L2.CX P w) outer P w H s Q E (.ok (.ret (match f' with | .ret v => v | _ => .none))) s') X.xe { s with heap := h₁, toks := s.toks + ([("self" : Str), ar].zip us).length } by
      subst hX
      exact hh
    refine ks_wpAt_execs_cons (ks_wpAt_Expr_any ?_ (I.quiet) (hsw1 _))
    obtain ⟨pl, hpl⟩ := hev X.env
    refine ks_wpAt_MethodCall (pl := pl) ?_ hpl
    generalize hs1 : ({ s with heap := h₁, toks := s.toks + ([("self" : Str), ar].zip us).length } : Shared) = s1 at I ⊢
    have kb : ∀ {b : Addr} {o : Obj}, K.lookup b = some o → s1.heap.get? b = some o := fun {b o} e => I.kIn _ _ (by rw [xK]; exact e)
    obtain ⟨t0, hx0⟩ := exo_at I.hok ea
    obtain ⟨nm, qn, NN, bs, bm, sn, sub, ab, col, dd, k0, k1, k2, k3, k5, hC, hbm⟩ := TC.oex.cls
    obtain ⟨m, hns1, hlk⟩ := id I.loc
    obtain ⟨us0, hus0, hl0⟩ := hlk 0 "self" (.ref a) (by rw [xN]; rfl) rfl (by rw [xenv]; exact .inl (S.par "self" (by simp)))
    have ksel : X.env.kindOf "self" = some .local := by rw [xenv]; exact S.par "self" (by simp)
    have kcls : X.env.kindOf "__class__" = some .free := by rw [xenv]; exact S.frk "__class__" (by simp)
    have ksup : X.env.kindOf "super" = some .globalImplicit := by rw [xenv]; exact hks
    have hms : m "self" = some (.ref a) := by
      rcases hl0 with ⟨_, z⟩ | ⟨z, _⟩
      · rw [z]
        cases hus0
        rfl
      · rw [ksel] at z
        rcases z with z | z <;> cases z
    have hDo : ∃ oD, s1.heap.get? DC = some oD ∧ oD.data = .cls cdD := by
      unfold PySem.W.clsIn at hD
      split at hD
      · rename_i c0 d0 cd' sl0 ho
        cases hD
        exact ⟨_, kb ho, rfl⟩
      · cases hD
    obtain ⟨oD, hoD, hoDd⟩ := hDo
    have aneC : a ≠ C := fun z => by
      have h1 := kb hC
      rw [← z, hx0] at h1
      have h2 := Option.some.inj h1
      cases congrArg Obj.data h2
    refine ks_wpAt_super_base (f := f) (cc := cda) (ar := arg0) ksup kcls rfl (by rw [xenv]) (kb hf) rfl hp (by rw [xenv]) (kb hcda) rfl hvs hfile htop ?_
    obtain ⟨mb, hb1, hb2⟩ := I.ok.mod.blt
    refine PySem.W.ks_loadName_global I.ok.kind ksup (Calls.loadGlobal_builtin (by rw [I.ok.glob]; exact I.ok.mod.glob.keeps I.bk) (by rw [xmg]; exact ms) (by rw [I.ok.blt]; exact hb1.keeps I.bk) ((hb2 "super" (by decide)).trans (by decide +kernel : bootBuiltins "super" = some (.type "super"))) ⟨rfl, ?_⟩)
    refine wpAny_loadName_free (c := cc) I.ok.kind kcls (by rw [xenv]; rfl) ⟨_, kb hcc, rfl⟩ ?_
    rw [hp0]
    refine wpAny_loadName_local I.ok.kind ksel hns1 hms ?_
    refine ks_wpAny_isType_cls hoD hoDd ⟨rfl, ?_⟩
    have KX1 : K.In s1.heap := fun b o e => kb e
    obtain ⟨hp1, g1, d1, t1, os1⟩ := s1
    refine ks_wpAny_call_super hoD hoDd hx0 rfl (fun c z => by cases z) (PySem.W.looks_mroIn KX1 TC.mro) (fun h2 e2 k2 => ?_)
    have I2 : Inv X [] (startF ["self", ar, "__class__"] [.ref a, y] [none]) H ⟨h2, g1, d1, t1, os1⟩ := I.kept (t' := t1) k2
    have KX2 : K.In h2 := KX1.keeps k2
    have hx2 := k2 _ _ hx0
    have hcl : PySem.W.clsIn K C = some { name := nm, bases := bs, mro := .ref C :: bm, ns := NN, qualname := qn, hasDict := true, slotNames := sn, subclasses := sub, abstract := ab, collection := col, hasDel := false } := by unfold PySem.W.clsIn; rw [hC] <;> rfl
    have hsupm := TC.sup
    unfold PySem.W.ks_superIn at hsupm
    rw [hcl, Option.bind_some] at hsupm
    have IA : PySem.W.InstAt h2 a { cls := .ref C, dict := none, data := .fields #[.ref t0, .none, .none, .none, .bool false, .none] } C none := ⟨hx2, rfl, rfl, trivial⟩
    refine PySem.W.kxs_getMethod PySem.W.kxs_ValueError e2 (PySem.W.looks_opaque KX2 T.opq) (l₀ := .ref C :: bm) ?_ rfl KX2 hsupm (IA.type.andThen (PySem.W.looks_subIn KX2 TC.ve)) aneC (by decide) ?_
    · exact fun A Q E s k q => wpAny_bind ((PySem.W.looks_clsIn KX2 hcl) A _ E s k (wpAny_pure q))
    have I3 : Inv X [(h2.objs.size, PySem.W.kxs_mw "ValueError.__init__" a)] (startF ["self", ar, "__class__"] [.ref a, y] [none]) H ⟨h2.push (PySem.W.kxs_mw "ValueError.__init__" a), g1, d1, t1 + 1, os1⟩ :=
      ClX.pin_new I2 (fun _ _ z => Heap.get?_push_of_some _ z) (Nat.le_refl _) (Heap.get?_push_size h2 rfl) (fun v z => nomatch z)
    refine PySem.W.kxs_callWith (i := "ValueError.__init__") (x := a) (by rw [hst]; rfl) ?_
    rw [hst]
    refine Calls.evalArgs_plain ?_
    show wpAny _ _ (spliced [(false, eval e1 X.env)]) _ _ _
    have R1 := hPE.run _ _ _ H (fun _ H' => H' = H) I3 (hte _ _ _ rfl fun _ => rfl)
    rw [xP, xw] at R1
    refine Calls.spliced_cons (thn R1 fun v s4 ⟨x4, H4, I4, r4, q4⟩ => ?_)
    subst q4
    have ea4 := ea
    obtain ⟨t4, hx4⟩ := exo_at I4.hok ea4
    refine Calls.spliced_nil ⟨ClX.pin_at I4, ?_⟩
    obtain ⟨hp4, g4, d4, t4', os4⟩ := s4
    refine call_mw (I4.kIn _ _ (by rw [xK]; exact hC)) hx4 (ClX.pin_at I4) (by rw [sizeLine_eq]; show 1 ≤ 16777216; decide) (fun h' k hx' => ?_)
    have J := I4.write (t' := t4') (x := a) (e := a) (o := exo a C none) (by rw [ea4]; exact True.intro) (.inl rfl) k ⟨_, hx'⟩ (exo_ok hx')
    have eu : upd H4 a (exo a C none) = H4 := by
      funext b
      by_cases hb : b = a
      · rw [hb, upd_same, ea4]
      · rw [upd_ne hb]
    rw [eu] at J
    have J0 := ClX.unpin J
    refine PySem.wpAt_of_wpAny ?_
    have p0' : PE X (.Name "self" q1) (tVar 0) := pv 0 (by rw [xN]; rfl) (by rw [xenv]; exact .inl (S.par "self" (by simp)))
    have p1' : PE X (.Name ar q3) (tVar 1) := pv 1 (by rw [xN]; rfl) (by rw [xenv]; exact .inl (S.par ar (by simp))) hna hnb
    have R2 := (L2.pss_one (L2.ps_ost p0' p1' (hsw2 X.env))).run [] _ (startF ["self", ar, "__class__"] [.ref a, y] [none]) H4 ⟨fun _ H' => Q .non H', fun _ _ => False, fun _ _ => False, fun _ _ => False⟩ J0
      ⟨y, rfl, .ref a, rfl, a, C, rfl, by rw [xK]; exact TC.oex, by rw [xK]; exact TC.noat, .inl ⟨ea4, fun dx n ne => q dx n ne⟩⟩
    rw [xP, xw] at R2
    refine thn R2 fun f' s' z => ?_
    cases f' with
    | next =>
      obtain ⟨σ', H', J1, q1⟩ := z
      exact fin J1 q1
    | brk =>
      obtain ⟨_, _, _, z⟩ := z
      exact z.elim
    | cont =>
      obtain ⟨_, _, _, z⟩ := z
      exact z.elim
    | ret u =>
      obtain ⟨_, _, _, _, _, z⟩ := z
      exact z.elim
end
end Pd
end PdS_text

section PdT_text
set_option maxHeartbeats 4000000
/-! raise C(e) -/
namespace Pd
open PySem PySem.Spec PyProof.Rows L2
/-- an exception's class with one field -/
structure XCl (P : Program) (w : World) (K : PySem.W.Frag) (mg : Str → Option Value) (base : Heap) (x fld : Str) (ok : D → Bool) : Prop where
  ex : ∃ (C DC fI : Addr) (fd : FuncData) (ps : List Str) (tm : V → Prop), mg x = some (.ref C) ∧ SupC K C DC fld ∧ PySem.W.findIn K (.ref C) "__init__" = some (some (.ref fI)) ∧ PySem.W.typeIn K (.ref fI) = some (.type "function") ∧
    FnOk P w K mg base (L2.CX P w) 1 fI fd ps (spSup K DC fld tm) ∧ Binds K fd ps [] ∧ ∀ d v H, ok d = true → Rep K mg H d v → tm v
def gRaise (x fld : Str) (ok : D → Bool) (g : GV) : GS := fun S => (g S).st fun d S => if ok d then .exc ⟨x, [fld], [d]⟩ S else .bad
section
variable {X : Cx} {F : Fx} {W : WX} {e : Expr} {pos p cp : Pos}
theorem ps_raiseD {m : List Nat} {k : Nat} {x fld : Str} {ok : D → Bool} {g : GV} (B : BC X W k) (hk : 2 ≤ k) (T : XCl X.prog X.w X.K X.mg X.base x fld ok) (h : PV X F W e g) (hg : Gl X x) (hdb : (x == ("__debug__" : Str)) = false := by decide)
    (he : starEach [e] X.env = (false, eval e X.env) :: starEach [] X.env := by rfl) (hpl : (backTo cp (starEach [] X.env)).any (·.1) = false := by rfl) :
    PSD X F W m (.Raise (some (.Call (.Name x p) [e] [] cp)) none pos) (gRaise x fld ok g) := by
  obtain ⟨C, DC, fI, fd, ps, tm, hm, TC, iC, tI, F1, hb, htm⟩ := T.ex
  have R := ps_raise (pos := pos) B.calm B.tk (pmk_oex (p := p) (pos := cp) TC.oex iC tI F1 (B.hr.mono hk) hb .nil (fun _ _ _ _ _ _ _ c => by obtain ⟨_, _, _, _, _, _, _, _, _, _, _, _, z⟩ := c; exact z.elim) hg hm (pa_cons h.pe L2.pa_nil he) hdb he hpl)
  refine ⟨R.imp fun D σ H q0 => ?_⟩
  refine tS.expr (g := g) q0 fun d S1 v H1 I1 r s q => ?_
  have hq : OutS X.K X.mg F W m σ H1 (if ok d then Fl.exc ⟨x, [fld], [d]⟩ S1 else .bad) D := q
  by_cases hok : ok d = true
  · rw [if_pos hok] at hq
    refine ⟨by show 1 ≤ 1000; decide, fun a na => ⟨a, C, v, rfl, TC, upd_same, htm _ _ _ hok r, fun dx nd ne => ⟨rfl, dx, [(fld, v)], upd_same, ?_, ?_, ?_⟩⟩⟩
    · rw [upd_ne ne, upd_same]
    · rw [upd_ne ne] at nd
      exact nd
    · have nd1 : H1 dx = none := by
        rw [upd_ne ne] at nd
        exact nd
      have sm : Same H1 (upd (del (upd (upd (upd H1 a (exo a C none)) dx (exd dx [(fld, v)])) a (exo a C (some dx))) a) dx (.xd [(fld, v)])) := fun b o e => by
        have b1 : b ≠ a := fun z => by rw [z, na] at e; cases e
        have b2 : b ≠ dx := fun z => by rw [z, nd1] at e; cases e
        rw [upd_ne b2, del_ne b1, upd_ne b1, upd_ne b2, upd_ne b1]
        exact e
      exact hq _ _ σ _ (I1.same sm) ⟨C, hm, rfl, [v], upd_same, rfl, ⟨v, [], rfl, Rep.stay (Stay.of_same sm) d v r, rfl⟩⟩ Agr.refl (Stay.of_same sm)
  · rw [if_neg hok] at hq
    exact hq.elim
end
end Pd
end PdT_text

section PdU_text
set_option maxHeartbeats 4000000
/-! try with several clauses, each with a name or without -/
namespace Pd
open PySem PySem.Spec PyProof.Rows L2
abbrev Clz := Value × Option Nat × (Addr → Value → Option Addr → TS)
def goneD (D : Ends) (i : Nat) : Ends := { nx := fun σ' H' => D.nx (σ'.set i none) H', rt := D.rt, bk := fun σ' H' => D.bk (σ'.set i none) H', ct := fun σ' H' => D.ct (σ'.set i none) H' }
def wManyN (K : PySem.W.Frag) (Wout : WX) (D : Ends) : List Clz → WX
  | [] => Wout
  | (c, oi, ts) :: r => fun cls d σ H => ∃ b, PySem.W.exmOne K cls c = some b ∧ (b = true → ∀ a, H a = none → match oi with
    | none => ts a cls d D σ H
    | some i => ts a cls d (goneD D i) (σ.set i (some (.ref a))) H) ∧ (b = false → wManyN K Wout D r cls d σ H)
inductive HdsN (X : Cx) : List ExceptHandler → List Clz → Prop
  | nil : HdsN X [] []
  | bare {x : Str} {c : Value} {ts : Addr → Value → Option Addr → TS} {b₀ : Stmt} {suite : List Stmt} {np pos' : Pos} {hds : List ExceptHandler} {l : List Clz} (hc : Names X x c)
      (hsu : ∀ (a : Addr) (oe : Obj) (cls : Value) (d : Option Addr) (pn : List (Addr × Obj)), Zc cls d oe → (∃ vs, oe.data = .fields vs) → PSs (X.suite a ((a, oe) :: pn)) (b₀ :: suite) (ts a cls d)) (r : HdsN X hds l) :
      HdsN X (.ExceptHandler (some (.Name x np)) none (b₀ :: suite) pos' :: hds) ((c, none, ts) :: l)
  | named {x n : Str} {i : Nat} {c : Value} {ts : Addr → Value → Option Addr → TS} {b₀ : Stmt} {suite : List Stmt} {np pos' : Pos} {hds : List ExceptHandler} {l : List Clz} (hc : Names X x c) (hi : X.N[i]? = some n) (hln : X.env.kindOf n = some .local)
      (hsu : ∀ (a : Addr) (oe : Obj) (cls : Value) (d : Option Addr) (pn : List (Addr × Obj)), Zc cls d oe → (∃ vs, oe.data = .fields vs) → PSs (X.suite a ((a, oe) :: pn)) (b₀ :: suite) (ts a cls d)) (r : HdsN X hds l) :
      HdsN X (.ExceptHandler (some (.Name x np)) (some n) (b₀ :: suite) pos' :: hds) ((c, some i, ts) :: l)
section
variable {X : Cx} {body : List Stmt} {h₀ : ExceptHandler} {hds : List ExceptHandler} {l : List Clz} {pos : Pos} {tb : WX → TS} {Wout : WX}
theorem ps_try_manyN (hs : X.stack = X.env :: X.outer) (hf : X.env.frame = some X.env.locals) (hN : X.N.Nodup) (tk : Takes X Wout)
    (hb : ∀ (W : WX) (pn : List (Addr × Obj)) (xe : Value → Shared → Prop), Takes (X.tr pn xe) W → PassesOwn (model X.prog X.w) X.A X.env xe → PSs (X.tr pn xe) body (tb W))
    (hh : HdsN X (h₀ :: hds) l) : PS X (.Try body (h₀ :: hds) [] [] pos) (fun D σ H => tb (wManyN X.K Wout D l) D σ H) := by
  refine ⟨fun pins s σ H D I h => ?_⟩
  have ok := I.ok
  have hfr : X.A.frames = some (X.env :: X.outer) := by rw [ok.frames, hs]
  refine wpAny_Try_except ?_
  refine wpAny_mono ((hb (wManyN X.K Wout D l) (X.pn ++ pins) (fun e s₁ => wpAny (model X.prog X.w) X.A (noteFrame e X.env) (fun _ s₂ => wpAny (model X.prog X.w) X.A (setFlight e none) (fun _ s₃ =>
    wpAny (model X.prog X.w) X.A (handleBy e X.env (h₀ :: hds)) (SP X pins D) X.xe s₃) X.xe s₂) X.xe s₁) (fun u s' xx => ?_) PassesOwn.looking).run [] s σ H D (I.toTry _) h) (fun f s1 hsp => ?_) (fun e s1 he => he)
  · obtain ⟨a, B, sI, pins', σ', H', cls, d, rfl, J', nb, up, sky, na, os, ag, w⟩ := xx
    have J : Inv X pins σ' H' sI := J'.ofTry ok
    have sky' : Sky B (X.env :: X.outer) a (Zc cls d) X.env.locals s'.heap := by rw [← hs]; exact sky
    show wpAny (model X.prog X.w) X.A (noteFrame (.ref a) X.env) _ _ _
    refine Sky.land Zc.steady hfr hf sky' fun h3 fl3 up3 => ?_
    have J3 : Inv X pins σ' H' { s' with heap := h3 } := J.landed nb fl3.1 (up.trans up3) os ag
    obtain ⟨oe3, vs3, he3, hz3, hd3⟩ := fl3.there
    have notFr : ∀ {h : Heap} {o : Obj} {vs : Array Value}, h.FunFrames B (X.env :: X.outer) → h.get? a = some o → o.data = .fields vs → a ∉ frs (X.env :: X.outer) := fun {h o vs} ff e dd hm => by
      obtain ⟨_, o', e', hnf⟩ := ff.mem hm
      rw [e] at e'; cases e'
      exact hnf _ dd
    have nfr := notFr fl3.2.2.1 he3 hd3
    have nL : a ≠ X.env.locals := fun z => nfr (List.mem_filterMap.mpr ⟨X.env, List.mem_cons_self, by rw [hf, z]⟩)
    have nF : a ∉ X.fs := fun hm => by
      obtain ⟨e, he, q⟩ := List.mem_filterMap.mp hm
      exact nfr (List.mem_filterMap.mpr ⟨e, List.mem_cons_of_mem _ he, q⟩)
    have S3 := J3.suite he3 hd3 na nL nF
    have clause : ∀ {x : Str} {c : Value} {np : Pos} {Q : Value → Shared → Prop} {E : Value → Shared → Prop}, Names X x c → Q c { s' with heap := h3 } → wpAny (model X.prog X.w) (X.A.mark (some (.ref a))) (eval (.Name x np) X.env) Q E { s' with heap := h3 } := fun {x c np Q E} hc q => by
      obtain ⟨hg, hdbg, hm | ⟨hm, hv, hnn⟩⟩ := hc
      · exact ld_glob (X := X.suite a ((a, oe3) :: (X.pn ++ pins))) S3 hg hm q hdbg
      · exact ld_blt (X := X.suite a ((a, oe3) :: (X.pn ++ pins))) S3 hg hm hv q hnn hdbg
    have LT : PySem.W.Looks (model X.prog X.w) h3 (typeOf (.ref a)) cls := fun A Q E s k q => wpAny_typeOf_ref (k _ _ he3) (by rw [hz3.1]; exact q)
    have go : ∀ {hds' : List ExceptHandler} {l' : List Clz}, HdsN X hds' l' → wManyN X.K Wout D l' cls d σ' H' →
        wpAny (model X.prog X.w) X.A (handleBy (.ref a) X.env hds') (SP X pins D) X.xe { s' with heap := h3 } := by
      intro hds' l' hk
      induction hk with
      | nil =>
        intro w
        refine wpAny_handleBy_nil ?_
        obtain ⟨k1, k2, k3, oe, vs, T, oT, ts', he, hz, hd, h1, hr⟩ := id fl3
        unfold PySem.passOn
        refine wpAny_bind (wpAny_field he hd h1 ?_)
        rw [if_neg (show ¬ ((Value.ref T == Value.none) = true) from by simp)]
        have fin : wpAny (model X.prog X.w) X.A (setFlight (.ref a) X.env.frame) (fun _ s4 => wpAny (model X.prog X.w) X.A (throw (.ref a) : Sem Flow) (SP X pins D) X.xe s4) X.xe { s' with heap := h3 } := by
          rw [hf]
          refine HandSPX.setFlight_upZ fl3 fun h4 hh4 up4 => wpAny_throw (tk _ _ ?_)
          exact ⟨a, B, sI, pins, σ', H', cls, d, rfl, J, nb, (up.trans up3).trans up4, .inr (.inr (by rw [hs]; exact hh4)), na, os, ag, w⟩
        first
          | exact wpAny_bind (wpAny_pure (wpAny_bind fin))
          | exact wpAny_bind fin
      | @bare x c ts b₀ suite np pos' hds2 l2 hc hsu r ih =>
        intro w
        obtain ⟨b, hb1, hyes, hno⟩ := w
        refine wpAny_handleBy_cons (codeAny_handlers_test ?_) (by intro q; cases q)
        have LM := PySem.W.exm_one (M := model X.prog X.w) (J3.kIn) LT hb1
        refine clause hc (LM.here ?_)
        cases b with
        | true =>
          refine codeAny_handlers_suite ?_
          refine HandSPX.lands_againZ fl3 fun h4 fl4 up4 => ?_
          have J4 : Inv X pins σ' H' { s' with heap := h4 } := J.landed nb fl4.1 ((up.trans up3).trans up4) os ag
          obtain ⟨oe4, vs4, he4, hz4, hd4⟩ := fl4.there
          have S4 := J4.suite he4 hd4 na nL nF
          refine wpAny_mono ((hsu a oe4 cls d (X.pn ++ pins) hz4 ⟨_, hd4⟩).run [] _ _ H' _ S4 (hyes rfl a na)) (fun f s6 hsp => ?_) (fun _ _ z => False.elim z)
          cases f with
          | next =>
            obtain ⟨σ6, H6, S6, q6⟩ := hsp
            exact ⟨_, _, S6.unsuite ok, q6⟩
          | brk =>
            obtain ⟨σ6, H6, S6, q6⟩ := hsp
            exact ⟨_, _, S6.unsuite ok, q6⟩
          | cont =>
            obtain ⟨σ6, H6, S6, q6⟩ := hsp
            exact ⟨_, _, S6.unsuite ok, q6⟩
          | ret u =>
            obtain ⟨v6, σ6, H6, S6, r6, q6⟩ := hsp
            exact ⟨_, _, _, S6.unsuite ok, r6, q6⟩
        | false =>
          show wpAny _ X.A (handleBy (.ref a) X.env hds2) _ _ _
          exact ih (hno rfl)
      | @named x n i c ts b₀ suite np pos' hds2 l2 hc hi hln hsu r ih =>
        intro w
        obtain ⟨b, hb1, hyes, hno⟩ := w
        refine wpAny_handleBy_cons (codeAny_handlers_test ?_) (by intro q; cases q)
        have LM := PySem.W.exm_one (M := model X.prog X.w) (J3.kIn) LT hb1
        refine clause hc (LM.here ?_)
        cases b with
        | true =>
          refine codeAny_handlers_suite_as ?_
          refine HandSPX.lands_againZ fl3 fun h4 fl4 up4 => ?_
          have J4 : Inv X pins σ' H' { s' with heap := h4 } := J.landed nb fl4.1 ((up.trans up3).trans up4) os ag
          obtain ⟨oe4, vs4, he4, hz4, hd4⟩ := fl4.there
          have S4 := J4.suite he4 hd4 na nL nF
          refine store_ok (X := X.suite a ((a, oe4) :: (X.pn ++ pins))) (v := .ref a) S4 hN hi (.inl hln) rfl (fun s5 S5 => ?_) (.inr hln)
          refine wpAny_mono ((hsu a oe4 cls d (X.pn ++ pins) hz4 ⟨_, hd4⟩).run [] s5 _ H' _ S5 (hyes rfl a na)) (fun f s6 hsp => ?_) (fun _ _ z => False.elim z)
          have end_ : ∀ {σ6 : L2.St} {H6 : Hp} {Q : Shared → Prop}, Inv (X.suite a ((a, oe4) :: (X.pn ++ pins))) [] σ6 H6 s6 → (∀ s7, Inv X pins (σ6.set i none) H6 s7 → Q s7) →
              wpAny (model X.prog X.w) X.A (do bindName X.env n .none; unbindBehindTheSuite X.env n pos') (fun _ s7 => Q s7) X.xe s6 := fun {σ6 H6 Q} S6 hq => gone_ok (S6.unsuite ok) hN hi hln hq
          cases f with
          | next =>
            obtain ⟨σ6, H6, S6, q6⟩ := hsp
            exact end_ S6 fun s7 J7 => ⟨_, _, J7, q6⟩
          | brk =>
            obtain ⟨σ6, H6, S6, q6⟩ := hsp
            exact end_ S6 fun s7 J7 => ⟨_, _, J7, q6⟩
          | cont =>
            obtain ⟨σ6, H6, S6, q6⟩ := hsp
            exact end_ S6 fun s7 J7 => ⟨_, _, J7, q6⟩
          | ret u =>
            obtain ⟨v6, σ6, H6, S6, r6, q6⟩ := hsp
            exact end_ S6 fun s7 J7 => ⟨_, _, _, J7, r6, q6⟩
        | false =>
          show wpAny _ X.A (handleBy (.ref a) X.env hds2) _ _ _
          exact ih (hno rfl)
    exact go hh w
  · cases f with
    | next =>
      obtain ⟨σ', H', J', q⟩ := hsp
      exact wpAny_execs_nil ⟨σ', H', J'.ofTry ok, q⟩
    | brk =>
      obtain ⟨σ', H', J', q⟩ := hsp
      exact ⟨σ', H', J'.ofTry ok, q⟩
    | cont =>
      obtain ⟨σ', H', J', q⟩ := hsp
      exact ⟨σ', H', J'.ofTry ok, q⟩
    | ret u =>
      obtain ⟨v, σ', H', J', r, q⟩ := hsp
      exact ⟨v, σ', H', J'.ofTry ok, r, q⟩
end
/-! ### as denotations -/
def unx (S : List SV) : List SV := S.map fun sv => match sv with
  | .exc _ => .no
  | sv => sv
theorem unx_get {S : List SV} {i : Nat} {sv : SV} (h : (unx S)[i]? = some sv) : (sv = .no) ∨ (S[i]? = some sv ∧ ∀ e, sv ≠ .exc e) := by
  unfold unx at h
  rw [List.getElem?_map] at h
  cases e : S[i]? with
  | none =>
    rw [e] at h
    cases h
  | some s =>
    rw [e] at h
    have h' := Option.some.inj h
    cases s with
    | exc x => exact .inl h'.symm
    | no => exact .inl h'.symm
    | dat d => exact .inr ⟨by rw [← h'], fun x z => by rw [← h'] at z; cases z⟩
    | own b c => exact .inr ⟨by rw [← h'], fun x z => by rw [← h'] at z; cases z⟩
theorem unx_len {S : List SV} : (unx S).length = S.length := by unfold unx; rw [List.length_map]
section
variable {K : PySem.W.Frag} {mg : Str → Option Value} {F : Fx} {W : WX} {σ : L2.St} {H : Hp} {S : List SV}
theorem EnvD.unx {q : Option (Addr × Option Addr × Value)} (I : EnvD K mg F σ H S) : EnvD K mg { F with xi := q } σ H (unx S) :=
  ⟨by rw [unx_len]; exact I.len, fun i sv h => by
    rcases unx_get h with rfl | ⟨h, n⟩
    · exact True.intro
    · cases sv with
      | exc e => exact absurd rfl (n e)
      | no => exact True.intro
      | dat d => exact I.slot i _ h
      | own b c => exact I.slot i _ h,
   fun i j a b c b' c' h1 h2 => by
    rcases unx_get h1 with z | ⟨h1, _⟩
    · cases z
    · rcases unx_get h2 with z | ⟨h2, _⟩
      · cases z
      · exact I.inj i j a b c b' c' h1 h2,
   I.frame, I.bor, fun p hp => ⟨(I.prot p hp).1, fun i b c h => by
    rcases unx_get h with z | ⟨h, _⟩
    · cases z
    · exact (I.prot p hp).2 i b c h⟩⟩
theorem EnvD.setx {a : Addr} {d : Option Addr} {cls : Value} {e : Ex} {i : Nat} (I : EnvD K mg { F with xi := some (a, d, cls) } σ H S) (hi : i < S.length) (r : ExcRep K mg H e cls d) :
    EnvD K mg { F with xi := some (a, d, cls) } (σ.set i (some (.ref a))) H (S.set i (.exc e)) := by
  have J := I.forget i (some (.ref a))
  have hs : i < σ.length := by rw [I.len]; exact hi
  have low : ∀ {j : Nat} {sv : SV}, (S.set i (.exc e))[j]? = some sv → (∀ e, sv ≠ .exc e) → (S.set i .no)[j]? = some sv := fun {j sv} h n => by
    by_cases hj : j = i
    · subst hj
      rw [List.getElem?_set_self hi] at h
      exact absurd (Option.some.inj h).symm (n e)
    · rw [List.getElem?_set_ne (Ne.symm hj)] at h ⊢
      exact h
  refine ⟨by rw [List.length_set, List.length_set]; exact I.len, fun j sv h => ?_, fun j k a b c b' c' h1 h2 => J.inj j k a b c b' c' (low h1 fun _ z => nomatch z) (low h2 fun _ z => nomatch z), J.frame, J.bor, fun p hp => ⟨(J.prot p hp).1, fun j b c h => (J.prot p hp).2 j b c (low h fun _ z => nomatch z)⟩⟩
  by_cases hj : j = i
  · subst hj
    rw [List.getElem?_set_self hi] at h
    cases h
    exact ⟨a, d, cls, rfl, List.getElem?_set_self hs, r⟩
  · have h' : (S.set i .no)[j]? = some sv := by
      rw [List.getElem?_set_ne (Ne.symm hj)] at h ⊢
      exact h
    exact J.slot j sv h'
end
structure Cl where
  sub : Str → Option Bool
  nm : Option Nat
  g : GS
def finX (nm : Option Nat) (S : List SV) : List SV := match nm with
  | none => unx S
  | some i => unx (S.set i .no)
def gOut (nm : Option Nat) (r : Fl) : Fl := match r with
  | .nx S => .nx (finX nm S)
  | .rt sv S => .rt sv (finX nm S)
  | .bk S => .bk (finX nm S)
  | .ct S => .ct (finX nm S)
  | _ => .bad
def inX (nm : Option Nat) (e : Ex) (S : List SV) : List SV := match nm with
  | none => unx S
  | some i => (unx S).set i (.exc e)
def gHand (e : Ex) : List Cl → GS
  | [], S => .exc e S
  | c :: r, S => match c.sub e.C with
    | none => .bad
    | some true => gOut c.nm (c.g (inX c.nm e S))
    | some false => gHand e r S
def gTry (gb : GS) (l : List Cl) : GS := fun S => match gb S with
  | .exc e S1 => gHand e l S1
  | r => r
def SubOk (K : PySem.W.Frag) (mg : Str → Option Value) (c : Value) (sub : Str → Option Bool) : Prop := ∀ n b, sub n = some b → ∀ C, mg n = some (.ref C) → PySem.W.exmOne K (.ref C) c = some b
abbrev W0x : WX := fun _ _ _ _ => False
inductive HdD (X : Cx) (F : Fx) (m : List Nat) : List ExceptHandler → List Cl → Prop
  | nil : HdD X F m [] []
  | bare {x : Str} {c : Value} {sub : Str → Option Bool} {g : GS} {b₀ : Stmt} {suite : List Stmt} {np pos' : Pos} {hds : List ExceptHandler} {l : List Cl} (hc : Names X x c) (hsub : SubOk X.K X.mg c sub)
      (hsu : ∀ (a : Addr) (oe : Obj) (cls : Value) (d : Option Addr) (pn : List (Addr × Obj)), Zc cls d oe → (∃ vs, oe.data = .fields vs) → PSsD (X.suite a ((a, oe) :: pn)) { F with xi := some (a, d, cls) } W0x m (b₀ :: suite) g) (r : HdD X F m hds l) :
      HdD X F m (.ExceptHandler (some (.Name x np)) none (b₀ :: suite) pos' :: hds) (⟨sub, none, g⟩ :: l)
  | named {x n : Str} {i : Nat} {c : Value} {sub : Str → Option Bool} {g : GS} {b₀ : Stmt} {suite : List Stmt} {np pos' : Pos} {hds : List ExceptHandler} {l : List Cl} (hc : Names X x c) (hsub : SubOk X.K X.mg c sub) (hi : X.N[i]? = some n) (hln : X.env.kindOf n = some .local) (hm : i ∈ m)
      (hsu : ∀ (a : Addr) (oe : Obj) (cls : Value) (d : Option Addr) (pn : List (Addr × Obj)), Zc cls d oe → (∃ vs, oe.data = .fields vs) → PSsD (X.suite a ((a, oe) :: pn)) { F with xi := some (a, d, cls) } W0x m (b₀ :: suite) g) (r : HdD X F m hds l) :
      HdD X F m (.ExceptHandler (some (.Name x np)) (some n) (b₀ :: suite) pos' :: hds) (⟨sub, some i, g⟩ :: l)
section
variable {X : Cx} {F : Fx} {W : WX} {m : List Nat} {body : List Stmt} {h₀ : ExceptHandler} {hds : List ExceptHandler} {l : List Cl} {pos : Pos}
theorem RV.unx {K : PySem.W.Frag} {mg : Str → Option Value} {F : Fx} {q : Option (Addr × Option Addr × Value)} {σ : L2.St} {H : Hp} {S : List SV} {v : V} {sv : SV} (r : RV K mg { F with xi := q } σ H S v sv) : RV K mg F σ H (unx S) v sv := by
  cases sv with
  | dat d => exact r
  | own b c =>
    obtain ⟨h1, a, ho, h2, h3, h4, h5, h6, h7⟩ := r
    refine ⟨h1, a, ho, h2, h3, h4, h5, h6, fun i b' c' e => ?_⟩
    rcases unx_get e with z | ⟨z, _⟩
    · cases z
    · exact h7 i b' c' z
  | no => exact r
  | exc _ => exact r
theorem RV.gone {K : PySem.W.Frag} {mg : Str → Option Value} {F : Fx} {σ : L2.St} {H : Hp} {S : List SV} {v : V} {sv : SV} {i : Nat} {x : Option V} (r : RV K mg F σ H S v sv) : RV K mg F (σ.set i x) H (S.set i .no) v sv := by
  cases sv with
  | dat d => exact r
  | own b c =>
    obtain ⟨h1, a, ho, h2, h3, h4, h5, h6, h7⟩ := r
    refine ⟨h1, a, ho, h2, h3, h4, h5, h6, fun j b' c' e => ?_⟩
    by_cases hj : j = i
    · subst hj
      by_cases hl : j < S.length
      · rw [List.getElem?_set_self hl] at e
        cases e
      · rw [List.getElem?_eq_none (by rw [List.length_set]; omega)] at e
        cases e
    · rw [List.getElem?_set_ne (Ne.symm hj)] at e ⊢
      exact h7 j b' c' e
  | no => exact r
  | exc _ => exact r
theorem HdD.toN : ∀ {hds : List ExceptHandler} {l : List Cl}, HdD X F m hds l → ∃ l' : List Clz, HdsN X hds l' ∧ ∀ (D : Ends) (e : Ex) (S : List SV) (σ σ' : L2.St) (H H' : Hp) (cls : Value) (d : Option Addr),
    OutS X.K X.mg F W m σ H (gHand e l S) D → EnvD X.K X.mg F σ' H' S → ExcRep X.K X.mg H' e cls d → Agr m σ σ' → Stay H H' → wManyN X.K W D l' cls d σ' H' := by
  intro hds l h
  induction h with
  | nil => exact ⟨[], .nil, fun D e S σ σ' H H' cls d o I r a s => o cls d σ' H' I r a s⟩
  | @bare x c sub g b₀ suite np pos' hds l hc hsub hsu r ih =>
    obtain ⟨l', hl, k⟩ := ih
    refine ⟨(c, none, fun a cls d => tS X.K X.mg { F with xi := some (a, d, cls) } W0x m g) :: l', .bare hc (fun a oe cls d pn hz hf => (hsu a oe cls d pn hz hf).ps) hl, fun D e S σ σ' H H' cls d o I r a s => ?_⟩
    unfold gHand at o
    obtain ⟨C, hC, rfl, rx⟩ := id r
    cases e1 : sub e.C with
    | none =>
      simp only [e1] at o
      exact o.elim
    | some b =>
      simp only [e1] at o
      refine ⟨b, hsub _ _ e1 C hC, fun hb x nx => ?_, fun hb => ?_⟩
      · subst hb
        have J := I.unx (q := some (x, d, Value.ref C))
        refine ⟨unx S, J, ?_⟩
        have o' : OutS X.K X.mg F W m σ H (gOut none (g (unx S))) D := o
        cases e2 : g (unx S) with
        | nx S2 =>
          rw [e2] at o'
          exact fun σ2 H2 I2 a2 s2 => o' σ2 H2 (I2.unx (q := F.xi)) (by intro j hj; rw [a2 j hj, a j hj]) (s.trans s2)
        | rt sv S2 =>
          rw [e2] at o'
          exact fun v σ2 H2 I2 r2 a2 s2 => o' v σ2 H2 (I2.unx (q := F.xi)) r2.unx (by intro j hj; rw [a2 j hj, a j hj]) (s.trans s2)
        | bk S2 =>
          rw [e2] at o'
          exact fun σ2 H2 I2 a2 s2 => o' σ2 H2 (I2.unx (q := F.xi)) (by intro j hj; rw [a2 j hj, a j hj]) (s.trans s2)
        | ct S2 =>
          rw [e2] at o'
          exact fun σ2 H2 I2 a2 s2 => o' σ2 H2 (I2.unx (q := F.xi)) (by intro j hj; rw [a2 j hj, a j hj]) (s.trans s2)
        | exc y S2 =>
          rw [e2] at o'
          exact o'.elim
        | bad =>
          rw [e2] at o'
          exact o'
      · subst hb
        exact k D e S σ σ' H H' _ d o I r a s
  | @named x n i c sub g b₀ suite np pos' hds l hc hsub hi hln hm hsu r ih =>
    obtain ⟨l', hl, k⟩ := ih
    refine ⟨(c, some i, fun a cls d => tS X.K X.mg { F with xi := some (a, d, cls) } W0x m g) :: l', .named hc hi hln (fun a oe cls d pn hz hf => (hsu a oe cls d pn hz hf).ps) hl, fun D e S σ σ' H H' cls d o I r a s => ?_⟩
    unfold gHand at o
    obtain ⟨C, hC, rfl, rx⟩ := id r
    cases e1 : sub e.C with
    | none =>
      simp only [e1] at o
      exact o.elim
    | some b =>
      simp only [e1] at o
      refine ⟨b, hsub _ _ e1 C hC, fun hb x nx => ?_, fun hb => ?_⟩
      · subst hb
        have J := I.unx (q := some (x, d, Value.ref C))
        have o' : OutS X.K X.mg F W m σ H (gOut (some i) (g ((unx S).set i (.exc e)))) D := o
        by_cases hlt : i < (unx S).length
        · have J2 := J.setx hlt r
          refine ⟨_, J2, ?_⟩
          have ag : ∀ {σ2 : L2.St}, Agr m (σ'.set i (some (.ref x))) σ2 → Agr m σ (σ2.set i none) := fun {σ2} a2 j hj => by
            have ne : i ≠ j := fun z => hj (z ▸ hm)
            rw [List.getElem?_set_ne ne, a2 j hj, List.getElem?_set_ne ne, a j hj]
          have ag2 : ∀ {σ2 : L2.St}, Agr m (σ'.set i (some (.ref x))) σ2 → Agr m σ σ2 := fun {σ2} a2 j hj => by
            have ne : i ≠ j := fun z => hj (z ▸ hm)
            rw [a2 j hj, List.getElem?_set_ne ne, a j hj]
          cases e2 : g ((unx S).set i (.exc e)) with
          | nx S2 =>
            rw [e2] at o'
            exact fun σ2 H2 I2 a2 s2 => o' (σ2.set i none) H2 ((I2.forget i none).unx (q := F.xi)) (ag a2) (s.trans s2)
          | rt sv S2 =>
            rw [e2] at o'
            exact fun v σ2 H2 I2 r2 a2 s2 => o' v (σ2.set i none) H2 ((I2.forget i none).unx (q := F.xi)) r2.gone.unx (ag a2) (s.trans s2)
          | bk S2 =>
            rw [e2] at o'
            exact fun σ2 H2 I2 a2 s2 => o' (σ2.set i none) H2 ((I2.forget i none).unx (q := F.xi)) (ag a2) (s.trans s2)
          | ct S2 =>
            rw [e2] at o'
            exact fun σ2 H2 I2 a2 s2 => o' (σ2.set i none) H2 ((I2.forget i none).unx (q := F.xi)) (ag a2) (s.trans s2)
          | exc y S2 =>
            rw [e2] at o'
            exact o'.elim
          | bad =>
            rw [e2] at o'
            exact o'
        · have ln : X.N.length ≤ X.N.length := Nat.le_refl _
          have J3 := J.forget i (some (.ref x))
          have hS : (unx S).set i (.exc e) = (unx S).set i .no := by
            rw [List.set_eq_of_length_le (by omega), List.set_eq_of_length_le (by omega)]
          refine ⟨_, J3, ?_⟩
          rw [hS] at o'
          have ag : ∀ {σ2 : L2.St}, Agr m (σ'.set i (some (.ref x))) σ2 → Agr m σ (σ2.set i none) := fun {σ2} a2 j hj => by
            have ne : i ≠ j := fun z => hj (z ▸ hm)
            rw [List.getElem?_set_ne ne, a2 j hj, List.getElem?_set_ne ne, a j hj]
          cases e2 : g ((unx S).set i .no) with
          | nx S2 =>
            rw [e2] at o'
            exact fun σ2 H2 I2 a2 s2 => o' (σ2.set i none) H2 ((I2.forget i none).unx (q := F.xi)) (ag a2) (s.trans s2)
          | rt sv S2 =>
            rw [e2] at o'
            exact fun v σ2 H2 I2 r2 a2 s2 => o' v (σ2.set i none) H2 ((I2.forget i none).unx (q := F.xi)) r2.gone.unx (ag a2) (s.trans s2)
          | bk S2 =>
            rw [e2] at o'
            exact fun σ2 H2 I2 a2 s2 => o' (σ2.set i none) H2 ((I2.forget i none).unx (q := F.xi)) (ag a2) (s.trans s2)
          | ct S2 =>
            rw [e2] at o'
            exact fun σ2 H2 I2 a2 s2 => o' (σ2.set i none) H2 ((I2.forget i none).unx (q := F.xi)) (ag a2) (s.trans s2)
          | exc y S2 =>
            rw [e2] at o'
            exact o'.elim
          | bad =>
            rw [e2] at o'
            exact o'
      · subst hb
        exact k D e S σ σ' H H' _ d o I r a s
theorem ps_tryD {k : Nat} {gb : GS} (B : BC X W k) (hs : X.stack = X.env :: X.outer) (hf : X.env.frame = some X.env.locals)
    (hb : ∀ (W' : WX) (pn : List (Addr × Obj)) (xe : Value → Shared → Prop), BC (X.tr pn xe) W' k → PSsD (X.tr pn xe) F W' m body gb) (hh : HdD X F m (h₀ :: hds) l) :
    PSD X F W m (.Try body (h₀ :: hds) [] [] pos) (gTry gb l) := by
  obtain ⟨l', hl, k2⟩ := hh.toN (W := W)
  refine ⟨(ps_try_manyN (tb := fun W' => tS X.K X.mg F W' m gb) hs hf B.nd B.tk (fun W' pn xe tk po => (hb W' pn xe ⟨B.hr, B.calm, tk, B.nd, po⟩).ps) hl).imp fun D σ H ⟨S, I, q⟩ => ⟨S, I, ?_⟩⟩
  have q' : OutS X.K X.mg F W m σ H (gTry gb l S) D := q
  unfold gTry at q'
  cases e : gb S with
  | exc x S1 =>
    rw [e] at q'
    exact fun cls d σ' H' I' r a s => k2 D x S1 σ σ' H H' cls d q' I' r a s
  | nx S1 =>
    rw [e] at q'
    exact q'
  | rt sv S1 =>
    rw [e] at q'
    exact q'
  | bk S1 =>
    rw [e] at q'
    exact q'
  | ct S1 =>
    rw [e] at q'
    exact q'
  | bad =>
    rw [e] at q'
    exact q'
end
end Pd
end PdU_text

section PdV_text
set_option maxHeartbeats 4000000
/-! what a suite says of its exception -/
namespace Pd
open PySem PySem.Spec PyProof.Rows L2
def exAt (S : List SV) (i : Nat) : Option Ex := match S[i]? with
  | some (.exc e) => some e
  | _ => none
theorem exAt_of {S : List SV} {i : Nat} {e : Ex} (h : exAt S i = some e) : S[i]? = some (.exc e) := by
  unfold exAt at h
  split at h
  · cases h
    assumption
  · cases h
def gXf (i : Nat) (fld : Str) (ok : List Str) : GV := fun S => match exAt S i with
  | some e => if ok.contains e.C then (match (e.ns.zip e.xs).lookup fld with
    | some d => .ok d S
    | none => .bad) else .bad
  | none => .bad
def gXi (i : Nat) (sub : Str → Option Bool) : GV := fun S => match exAt S i with
  | some e => (match sub e.C with
    | some b => .ok (.bl b) S
    | none => .bad)
  | none => .bad
def FldOk (K : PySem.W.Frag) (mg : Str → Option Value) (fld : Str) (ok : List Str) : Prop := ∀ n, n ∈ ok → ∀ C, mg n = some (.ref C) → ExcC K C ∧ PySem.W.findIn K (.ref C) fld = some none
def IsiOk (K : PySem.W.Frag) (mg : Str → Option Value) (c : Value) (sub : Str → Option Bool) : Prop := ∀ n b, sub n = some b → ∀ C, mg n = some (.ref C) → ExcC K C ∧ PySem.W.kitOne K (.ref C) c = some b
theorem lookup_cons {β : Type} (f g : Str) (y : β) (fs : List (Str × β)) : ((f, y) :: fs).lookup g = if g = f then some y else fs.lookup g := by
  by_cases h : g = f
  · subst h
    simp [List.lookup]
  · have e : (g == f) = false := by simpa using h
    rw [if_neg h]
    simp [List.lookup, e]
theorem lookup_reps {K : PySem.W.Frag} {mg : Str → Option Value} {H : Hp} {fld : Str} {d : D} : ∀ {ns : List Str} {xs : List D} {vs : List V}, Reps K mg H xs vs → (ns.zip xs).lookup fld = some d → ∃ v, (ns.zip vs).lookup fld = some v ∧ Rep K mg H d v
  | [], _, _, _, e => by simp at e
  | n :: ns, [], _, _, e => by simp at e
  | n :: ns, x :: xs, vs, h, e => by
    obtain ⟨v, r, rfl, h1, h2⟩ := h
    rw [List.zip_cons_cons, lookup_cons] at e
    rw [List.zip_cons_cons, lookup_cons]
    by_cases hn : fld = n
    · rw [if_pos hn] at e ⊢
      cases e
      exact ⟨v, rfl, h1⟩
    · rw [if_neg hn] at e ⊢
      exact lookup_reps h2 e
section
variable {X : Cx} {F : Fx} {W : WX} {a : Addr} {oe : Obj} {cls : Value} {d : Option Addr} {pn : List (Addr × Obj)} {p pos : Pos} {x : Str} {i : Nat}
theorem pv_xf {fld : Str} {ok : List Str} (hz : Zc cls d oe) (hf : ∃ vs, oe.data = .fields vs) (hok : FldOk X.K X.mg fld ok) (he : PE (X.suite a ((a, oe) :: pn)) (.Name x p) (tVar i))
    (hb : attributeBase (.Name x p) fld X.env (eval (.Name x p) X.env) = eval (.Name x p) X.env := by rfl) :
    PV (X.suite a ((a, oe) :: pn)) { F with xi := some (a, d, cls) } W (.Attribute (.Name x p) fld pos) (gXf i fld ok) := by
  refine ⟨⟨fun pins s σ H Q I h => ?_⟩⟩
  obtain ⟨S, E, o⟩ := h
  have o' : OutG X.K X.mg { F with xi := some (a, d, cls) } W (RD X.K X.mg) σ H (gXf i fld ok S) Q := o
  unfold gXf at o'
  cases e0 : exAt S i with
  | none =>
    simp only [e0] at o'
    exact o'.elim
  | some e =>
    simp only [e0] at o'
    obtain ⟨a', d', cls', q1, q2, r⟩ := E.slot i _ (exAt_of e0)
    have q1' : some (a, d, cls) = some (a', d', cls') := q1
    obtain ⟨rfl, rfl, rfl⟩ : a = a' ∧ d = d' ∧ cls = cls' := by
      have z := Option.some.inj q1'
      exact ⟨congrArg (·.1) z, congrArg (·.2.1) z, congrArg (·.2.2) z⟩
    by_cases hc : ok.contains e.C = true
    · rw [if_pos hc] at o'
      cases e1 : (e.ns.zip e.xs).lookup fld with
      | none =>
        rw [e1] at o'
        exact o'.elim
      | some dd =>
        simp only [e1] at o'
        obtain ⟨C, hC, rfl, rr⟩ := r
        obtain ⟨XC, noN⟩ := hok _ (List.contains_iff_mem.mp hc) C hC
        refine attr_of hb (thn (he.run pins s σ H (fun v H1 => v = .ref a ∧ H1 = H) I ⟨_, q2, rfl, rfl⟩) fun u s1 hh => ?_)
        obtain ⟨x, H1, I1, rx, rfl, rfl⟩ := hh
        obtain rfl : u = Value.ref a := rx
        cases d with
        | none =>
          obtain ⟨h1, h2⟩ := rr
          rw [h1, h2] at e1
          cases e1
        | some dx =>
          obtain ⟨vs, w1, w2, w3⟩ := rr
          obtain ⟨v, l, rv⟩ := lookup_reps w3 e1
          obtain ⟨ha, _⟩ := I1.pin (a, oe) (List.mem_append_left _ List.mem_cons_self)
          obtain ⟨vs', hd⟩ := hf
          have hx : ObjOk X.prog X.w H1 s1.heap dx (.xd (e.ns.zip vs)) := I1.hok dx _ w1
          obtain ⟨mA, hns, hr⟩ := hx
          obtain ⟨od, ho, hl⟩ := lookIn_ns hns
          obtain ⟨u, hu, ru⟩ := RelO.some_of (v := v) (o := mA fld) (by rw [← l]; exact hr fld)
          have J : PySem.W.InstAt s1.heap a oe C (some od) := ⟨ha, hz.1, by unfold PySem.W.notCls; rw [hd] <;> rfl, by rw [hz.2]; exact ho⟩
          exact HandSPX.exc_get I1.kIn J XC.hg XC.hk XC.hs (PySem.W.findObj_own XC.hd noN rfl (by rw [hl, hu])) (handed_of ru) ⟨v, H1, I1.tok _, ru, o' v H1 E rv (Stay.refl _)⟩
    · rw [if_neg hc] at o'
      exact o'.elim
/-- isinstance(e, c) -/
theorem pv_xi {c : Str} {cv : Value} {vc : V} {sub : Str → Option Bool} {pi pc : Pos} (hz : Zc cls d oe) (hf : ∃ vs, oe.data = .fields vs) (hok : IsiOk X.K X.mg cv sub) (hcv : ∀ u, RelV vc u → u = cv)
    (hg : Gl X "isinstance") (hm : X.mg "isinstance" = none) (he : PE (X.suite a ((a, oe) :: pn)) (.Name x p) (tVar i)) (hc : PE (X.suite a ((a, oe) :: pn)) (.Name c pc) (tC vc))
    (h1 : starEach [.Name x p, .Name c pc] X.env = (false, eval (.Name x p) X.env) :: starEach [.Name c pc] X.env := by rfl) (h2 : starEach [.Name c pc] X.env = (false, eval (.Name c pc) X.env) :: starEach [] X.env := by rfl)
    (h3 : (backTo pos (starEach [.Name c pc] X.env)).any (·.1) = false := by rfl) :
    PV (X.suite a ((a, oe) :: pn)) { F with xi := some (a, d, cls) } W (.Call (.Name "isinstance" pi) [.Name x p, .Name c pc] [] pos) (gXi i sub) := by
  have cr : CallR (X.suite a ((a, oe) :: pn)) (.builtin "isinstance") (fun xs H Q => ∃ (D : Addr) (b : Bool) (od : Option Obj), xs = [.ref a, vc] ∧ ExcC X.K D ∧ cls = .ref D ∧ PySem.W.kitOne X.K (.ref D) cv = some b ∧ (∀ h, HOk X.prog X.w H h → match d with
      | none => True
      | some dx => ∃ o, h.get? dx = some o) ∧ Q (.bl b) H) := by
    intro pins s σ H xs us Q I r h
    obtain ⟨D, b, od, rfl, C, rfl, e, hd, q⟩ := h
    cases r with
    | cons rx rr =>
      cases rr with
      | cons rt rr =>
        cases rr
        cases rx
        have ec := hcv _ rt
        subst ec
        obtain ⟨hget, _⟩ := I.pin (a, oe) (List.mem_append.mpr (.inl List.mem_cons_self))
        obtain ⟨vs, hv⟩ := hf
        obtain ⟨cd, hcd, _⟩ := PySem.W.any_some C.hd
        have hcl : (PySem.W.clsIn X.K D).isSome = true := by rw [hcd]; rfl
        have hdd := hd _ I.hok
        cases d with
        | none =>
          have J : PySem.W.InstAt s.heap a oe D none := by
            obtain ⟨oc, od, oda, osl⟩ := oe
            obtain ⟨h1, h2⟩ := hz
            dsimp only at h1 h2 hv
            subst h1 h2 hv
            exact ⟨hget, rfl, rfl, trivial⟩
          exact PySem.W.kia_one (PySem.W.kitx_exc hcl C.hg C.hk C.hs C.ha C.hn C.ht C.hm) I.kIn J e (fun z => nomatch z) fun tk => ⟨.bl b, H, I.kept (t' := tk) fun _ _ z => z, rfl, q⟩
        | some dx =>
          obtain ⟨o, ho⟩ := hdd
          have J : PySem.W.InstAt s.heap a oe D (some o) := ⟨hget, hz.1, by unfold PySem.W.notCls; rw [hv] <;> rfl, by rw [hz.2]; exact ho⟩
          exact PySem.W.kia_one (PySem.W.kitx_exc hcl C.hg C.hk C.hs C.ha C.hn C.ht C.hm) I.kIn J e (fun z => nomatch z) fun tk => ⟨.bl b, H, I.kept (t' := tk) fun _ _ z => z, rfl, q⟩
  refine ⟨(pe_callB cr hg hm (by first | rfl | decide +kernel) (pa_cons he (pa_cons hc L2.pa_nil h2) h1) (by decide) (by decide) h1 h3).imp fun σ H Q h => ?_⟩
  obtain ⟨S, E, o⟩ := h
  have o' : OutG X.K X.mg { F with xi := some (a, d, cls) } W (RD X.K X.mg) σ H (gXi i sub S) Q := o
  unfold gXi at o'
  cases e0 : exAt S i with
  | none =>
    simp only [e0] at o'
    exact o'.elim
  | some e =>
    simp only [e0] at o'
    obtain ⟨a', d', cls', q1, q2, r⟩ := E.slot i _ (exAt_of e0)
    have q1' : some (a, d, cls) = some (a', d', cls') := q1
    obtain ⟨rfl, rfl, rfl⟩ : a = a' ∧ d = d' ∧ cls = cls' := by
      have z := Option.some.inj q1'
      exact ⟨congrArg (·.1) z, congrArg (·.2.1) z, congrArg (·.2.2) z⟩
    cases e1 : sub e.C with
    | none =>
      simp only [e1] at o'
      exact o'.elim
    | some b =>
      simp only [e1] at o'
      obtain ⟨C, hC, rfl, rr⟩ := r
      obtain ⟨XC, hk⟩ := hok _ _ e1 C hC
      refine ⟨_, q2, C, b, none, rfl, XC, rfl, hk, fun h hh => ?_, o' _ H E rfl (Stay.refl _)⟩
      cases d with
      | none => exact True.intro
      | some dx =>
        obtain ⟨vs, w1, w2, w3⟩ := rr
        have hx : ObjOk X.prog X.w H h dx (.xd (e.ns.zip vs)) := hh dx _ w1
        obtain ⟨mA, hns, hr⟩ := hx
        obtain ⟨od, ho, hl⟩ := lookIn_ns hns
        exact ⟨od, ho⟩
end
end Pd
end PdV_text

section PdW_text
set_option maxHeartbeats 4000000
/-! the operations on data -/
namespace Pd
open PySem PySem.Spec PyProof.Rows L2
section
variable {K : PySem.W.Frag} {mg : Str → Option Value} {H : Hp}
/-! ### ints -/
def iI (c : Int → Int → Bool) (g : Int → Int → Int) : D → D → Option SV
  | .int i, .int j => if c i j then some (.dat (.int (g i j))) else none
  | _, _ => none
def iB (g : Int → Int → Bool) : D → D → Option SV
  | .int i, .int j => some (.dat (.bl (g i j)))
  | _, _ => none
theorem rn_int {H' : Hp} {i : Int} : RN K mg H H' (.int i) (.dat (.int i)) := rfl
theorem rn_bl {H' : Hp} {b : Bool} : RN K mg H H' (.bl b) (.dat (.bl b)) := rfl
theorem opd_int {C : Int → Int → Prop} {c : Int → Int → Bool} {g : Int → Int → Int} (hc : ∀ i j, c i j = true → C i j) : OpD K mg (rI C fun i j => .int (g i j)) (iI c g) := by
  intro H x y d1 d2 sv Q r1 r2 e q
  cases d1 <;> cases d2 <;> first | (cases e; done) | skip
  rename_i i j
  cases r1.int
  cases r2.int
  simp only [iI] at e
  by_cases h : c i j = true
  · rw [if_pos h] at e
    cases e
    exact ⟨i, j, rfl, rfl, hc _ _ h, q _ H (fun _ _ h => h) rn_int⟩
  · rw [if_neg h] at e
    cases e
theorem opd_int0 {g : Int → Int → Int} : OpD K mg (rI0 fun i j => .int (g i j)) (iI (fun _ _ => true) g) := by
  intro H x y d1 d2 sv Q r1 r2 e q
  cases d1 <;> cases d2 <;> first | (cases e; done) | skip
  rename_i i j
  cases r1.int
  cases r2.int
  simp only [iI, if_true] at e
  cases e
  exact ⟨i, j, rfl, rfl, q _ H (fun _ _ h => h) rn_int⟩
theorem opd_cmp0 {g : Int → Int → Bool} : OpD K mg (rI0 fun i j => .bl (g i j)) (iB g) := by
  intro H x y d1 d2 sv Q r1 r2 e q
  cases d1 <;> cases d2 <;> first | (cases e; done) | skip
  rename_i i j
  cases r1.int
  cases r2.int
  simp only [iB] at e
  cases e
  exact ⟨i, j, rfl, rfl, q _ H (fun _ _ h => h) rn_bl⟩
theorem log2_lt_of {n k : Nat} (h : n.log2 < k) : n < 2 ^ k := by
  by_cases hz : n = 0
  · rw [hz]
    exact Nat.two_pow_pos k
  · exact (Nat.log2_lt hz).mp h
def cMul (i j : Int) : Bool := decide ((Builtin.Int.intBits i + Builtin.Int.intBits j).log2 < 26)
def cDiv (_ j : Int) : Bool := decide (0 < j) && decide (j.natAbs.log2.log2 < 12)
def cMod (_ j : Int) : Bool := decide (0 < j)
def cShl (i j : Int) : Bool := decide (0 ≤ j) && decide ((Builtin.Int.intBits i + j.toNat).log2 < 26)
def cShr (_ j : Int) : Bool := decide (0 ≤ j)
def fSub := iI (fun _ _ => true) fun i j => i - j
def fMul := iI cMul fun i j => i * j
def fDiv := iI cDiv fun i j => i / j
def fMod := iI cMod fun i j => i % j
def fShl := iI cShl fun i j => i * 2 ^ j.toNat
def fShr := iI cShr fun i j => i / 2 ^ j.toNat
def fAnd := iI (fun _ _ => true) Builtin.bitAnd
def fOr := iI (fun _ _ => true) Builtin.bitOr
def fXor := iI (fun _ _ => true) Builtin.bitXor
theorem od_sub : OpD K mg (rI0 fun i j => .int (i - j)) fSub := opd_int0
theorem od_mul : OpD K mg (rI CMulX fun i j => .int (i * j)) fMul := opd_int fun i j h => by
  unfold cMul at h
  rw [decide_eq_true_eq] at h
  have h2 := log2_lt_of h
  show (Builtin.Int.intBits i : Int) + (Builtin.Int.intBits j : Int) ≤ 134217728
  omega
theorem od_div : OpD K mg (rI CDivW fun i j => .int (i / j)) fDiv := opd_int fun i j h => by
  unfold cDiv at h
  rw [Bool.and_eq_true] at h
  have h2 := log2_lt_of (of_decide_eq_true h.2)
  refine ⟨of_decide_eq_true h.1, ?_⟩
  show j.natAbs.log2 < 9000
  omega
theorem od_mod : OpD K mg (rI (fun _ j => 0 < j) fun i j => .int (i % j)) fMod := opd_int fun _ _ h => of_decide_eq_true h
theorem od_shl : OpD K mg (rI CShl fun i j => .int (i * 2 ^ j.toNat)) fShl := opd_int fun i j h => by
  unfold cShl at h
  rw [Bool.and_eq_true] at h
  have h1 := of_decide_eq_true h.1
  have h2 := log2_lt_of (of_decide_eq_true h.2)
  refine ⟨h1, ?_⟩
  have e : (2 : Int) ^ 27 = 134217728 := by decide
  rw [e]
  omega
theorem od_shr : OpD K mg (rI (fun _ j => 0 ≤ j) fun i j => .int (i / 2 ^ j.toNat)) fShr := opd_int fun _ _ h => of_decide_eq_true h
theorem od_and : OpD K mg (rI0 fun i j => .int (Builtin.bitAnd i j)) fAnd := opd_int0
theorem od_or : OpD K mg (rI0 fun i j => .int (Builtin.bitOr i j)) fOr := opd_int0
theorem od_xor : OpD K mg (rI0 fun i j => .int (Builtin.bitXor i j)) fXor := opd_int0
/-! ### + -/
def rAddS : R2 := fun x y H Q => ∃ i j, x = .str i ∧ y = .str j ∧ i.length + j.length ≤ sizeLine ∧ Q (.str (i ++ j)) H
def rCatL (K : PySem.W.Frag) : R2 := fun x y H Q => ∃ l b xs zs, x = .ref l ∧ y = .ref b ∧ SqL K H l xs ∧ SqL K H b zs ∧ xs.length + zs.length ≤ sizeLine ∧ ∀ p, H p = none → Q (.ref p) (upd H p (.lst (xs ++ zs)))
theorem op_catL {X : Cx} : OpR X (binaryOp .Add) (rCatL X.K) := by
  intro pins s σ H x y v u Q I rx ry h
  obtain ⟨l, b, xs, zs, rfl, rfl, hH, hB, hz, q⟩ := h
  cases rx
  cases ry
  obtain ⟨its, r, pl, _⟩ := I.list hH
  obtain ⟨its2, r2, pl2, _⟩ := I.list hB
  obtain ⟨⟨cls, dd, data, sl⟩, n, ho, hc, hdn, hd⟩ := id pl
  obtain ⟨⟨cls2, dd2, data2, sl2⟩, n2, ho2, hc2, hdn2, hd2⟩ := id pl2
  simp only at hc hd hc2 hd2
  subst hc hd hc2 hd2
  have l1 := r.length
  have l2 := r2.length
  refine concat_meets ⟨_, ho, rfl⟩ ⟨_, ho2, rfl⟩ noFill_list_add seq_list_add PySem.F.slot_list_add PySem.F.entry_list_add (PySem.F.args_list_add_2 _ _) (list_addW l b its.toArray its2.toArray n n2 dd dd2 sl sl2 (by rw [List.size_toArray, List.size_toArray]; omega)) ⟨ho, ho2, ?_⟩
  have ea : its.toArray ++ its2.toArray = (its ++ its2).toArray := by simp
  rw [ea]
  exact ⟨.ref _, _, I.lnew (t' := s.toks) (r.append r2) (by rw [List.length_append]; omega), rfl, q _ I.fresh⟩
def fAdd : D → D → Option SV
  | .int i, .int j => some (.dat (.int (i + j)))
  | .str i, .str j => if Fits (i.length + j.length) then some (.dat (.str (i ++ j))) else none
  | .tup xs, .tup ys => if Fits (xs.length + ys.length) then some (.dat (.tup (xs ++ ys))) else none
  | .lst xs, .lst ys => if Fits (xs.length + ys.length) then some (.own true (.lst (xs ++ ys))) else none
  | _, _ => none
def rAdd (K : PySem.W.Frag) : R2 := fun x y H Q => (((rI0 fun i j => .int (i + j)) x y H Q ∨ rAddS x y H Q) ∨ rCatA K x y H Q) ∨ rCatL K x y H Q
theorem op_addA {X : Cx} : OpR X (binaryOp .Add) (rAdd X.K) := orOp (orOp (orOp op_add op_add_str) op_catA) op_catL
theorem od_add : OpD K mg (rAdd K) fAdd := by
  intro H x y d1 d2 sv Q r1 r2 e q
  cases d1 <;> cases d2 <;> first | (cases e; done) | skip
  · rename_i i j
    cases r1.int
    cases r2.int
    cases e
    exact .inl (.inl (.inl ⟨i, j, rfl, rfl, q _ H (fun _ _ h => h) rn_int⟩))
  · rename_i i j
    cases r1.str
    cases r2.str
    simp only [fAdd] at e
    split at e
    · cases e
      exact .inl (.inl (.inr ⟨i, j, rfl, rfl, Fits.le (by assumption), q _ H (fun _ _ h => h) rfl⟩))
    · cases e
  · rename_i xs ys
    simp only [fAdd] at e
    split at e
    · rename_i hz
      cases e
      obtain ⟨a, vs, rfl, f1, p1⟩ := r1.tup
      obtain ⟨b, ws, rfl, f2, p2⟩ := r2.tup
      refine .inl (.inr ⟨a, b, vs, ws, rfl, rfl, f1.sq, f2.sq, by rw [p1.len, p2.len]; exact Fits.le hz, fun hn => ?_, fun hn hm => ?_, fun hn hm p hp => ?_⟩)
      · subst hn
        have e1 : xs = [] := List.eq_nil_of_length_eq_zero (by rw [← p1.len]; rfl)
        subst e1
        exact q _ H (fun _ _ h => h) ⟨b, ws, rfl, f2, p2⟩
      · subst hm
        have e1 : ys = [] := List.eq_nil_of_length_eq_zero (by rw [← p2.len]; rfl)
        subst e1
        refine q _ H (fun _ _ h => h) ⟨a, vs, rfl, f1, ?_⟩
        rw [List.append_nil]
        exact p1
      · have sm := same_upd (o := .tup (vs ++ ws)) hp
        exact q _ _ sm ⟨p, _, rfl, .inl upd_same, (p1.stay (Stay.of_same sm) _ _).app (p2.stay (Stay.of_same sm) _ _)⟩
    · cases e
  · rename_i xs ys
    simp only [fAdd] at e
    split at e
    · rename_i hz
      cases e
      obtain ⟨a, vs, rfl, f1, p1⟩ := r1.lst
      obtain ⟨b, ws, rfl, f2, p2⟩ := r2.lst
      refine .inr ⟨a, b, vs, ws, rfl, rfl, f1, f2, by rw [p1.len, p2.len]; exact Fits.le hz, fun p hp => ?_⟩
      have sm := same_upd (o := .lst (vs ++ ws)) hp
      exact q _ _ sm ⟨rfl, p, _, rfl, hp, upd_same, vs ++ ws, rfl, (p1.stay (Stay.of_same sm) _ _).app (p2.stay (Stay.of_same sm) _ _)⟩
    · cases e
/-! ### == and in -/
mutual
def D.toP : D → Option PyData
  | .non => some .none
  | .bl b => some (.bool b)
  | .int i => some (.int i)
  | .str x => some (.str x)
  | .tup ds => match D.toPs ds with
    | some ps => some (.tuple ps)
    | none => none
  | .lst ds => match D.toPs ds with
    | some ps => some (.list ps)
    | none => none
  | _ => none
def D.toPs : List D → Option (List PyData)
  | [] => some []
  | d :: ds => match D.toP d, D.toPs ds with
    | some p, some ps => some (p :: ps)
    | _, _ => none
end
mutual
theorem Rep.dp : ∀ (d : D) (p : PyData) (v : V), d.toP = some p → Rep K mg H d v → Dp K H v p
  | .non, p, v, e, r => by
    cases e
    cases (show v = .non from r)
    exact .non
  | .bl b, p, v, e, r => by
    cases e
    cases (show v = .bl b from r)
    exact .bl b
  | .int i, p, v, e, r => by
    cases e
    cases (show v = .int i from r)
    exact .int i
  | .str x, p, v, e, r => by
    cases e
    cases (show v = .str x from r)
    exact .str x
  | .tup ds, p, v, e, r => by
    obtain ⟨a, vs, rfl, f, rr⟩ := r
    simp only [D.toP] at e
    cases e1 : D.toPs ds with
    | none =>
      rw [e1] at e
      cases e
    | some ps =>
      rw [e1] at e
      cases e
      exact .tup f.sq (Reps.dp ds ps vs e1 rr)
  | .lst ds, p, v, e, r => by
    obtain ⟨a, vs, rfl, f, rr⟩ := r
    simp only [D.toP] at e
    cases e1 : D.toPs ds with
    | none =>
      rw [e1] at e
      cases e
    | some ps =>
      rw [e1] at e
      cases e
      exact .lst f.sq (Reps.dp ds ps vs e1 rr)
  | .dic _ _, p, v, e, r => by simp [D.toP] at e
  | .ins _ _ _, p, v, e, r => by simp [D.toP] at e
  | .fn _, p, v, e, r => by simp [D.toP] at e
theorem Reps.dp : ∀ (ds : List D) (ps : List PyData) (vs : List V), D.toPs ds = some ps → Reps K mg H ds vs → DpAll K H vs ps
  | [], ps, vs, e, r => by
    cases e
    cases (show vs = [] from r)
    exact .nil
  | d :: ds, ps, vs, e, r => by
    obtain ⟨v, w, rfl, h1, h2⟩ := r
    simp only [D.toPs] at e
    cases e1 : D.toP d with
    | none =>
      rw [e1] at e
      cases e
    | some p =>
      cases e2 : D.toPs ds with
      | none =>
        rw [e1, e2] at e
        cases e
      | some qs =>
        rw [e1, e2] at e
        cases e
        exact .cons (Rep.dp d p v e1 h1) (Reps.dp ds qs w e2 h2)
end
theorem RepU.dp {d : D} {p : PyData} {v : V} (e : d.toP = some p) (r : RepU K mg H d v) : Dp K H v p := by
  rcases r with r | ⟨c, a, ho, rfl, rfl, ea, r⟩
  · exact r.dp _ _ _ e
  · cases c with
    | lst xs =>
      obtain ⟨vs, rfl, rr⟩ := r
      have e' : D.toP (.lst xs) = some p := e
      simp only [D.toP] at e'
      cases e1 : D.toPs xs with
      | none =>
        rw [e1] at e'
        cases e'
      | some ps =>
        rw [e1] at e'
        cases e'
        exact .lst (SqL.of ea) (rr.dp _ _ _ e1)
    | dic ks xs =>
      have e' : D.toP (.dic ks xs) = some p := e
      simp [D.toP] at e'
    | ins C ns xs =>
      have e' : D.toP (.ins C ns xs) = some p := e
      simp [D.toP] at e'
def fEq (neg : Bool) (a b : D) : Option SV := match a.toP, b.toP with
  | some p, some q => if SeqAt.shaped p && SeqAt.shaped q then some (.dat (.bl (if neg then !PyData.eqv p q else PyData.eqv p q))) else none
  | _, _ => none
theorem od_eq : OpD K mg (rEqD K) (fEq false) := by
  intro H x y d1 d2 sv Q r1 r2 e q
  unfold fEq at e
  cases e1 : d1.toP with
  | none =>
    rw [e1] at e
    cases e
  | some p1 =>
    cases e2 : d2.toP with
    | none =>
      rw [e1, e2] at e
      cases e
    | some p2 =>
      simp only [e1, e2] at e
      split at e
      · rename_i h
        rw [Bool.and_eq_true] at h
        cases e
        exact ⟨p1, p2, r1.dp e1, r2.dp e2, h.1, h.2, q _ H (fun _ _ h => h) rn_bl⟩
      · cases e
theorem od_ne : OpD K mg (rNeD K) (fEq true) := by
  intro H x y d1 d2 sv Q r1 r2 e q
  unfold fEq at e
  cases e1 : d1.toP with
  | none =>
    rw [e1] at e
    cases e
  | some p1 =>
    cases e2 : d2.toP with
    | none =>
      rw [e1, e2] at e
      cases e
    | some p2 =>
      simp only [e1, e2] at e
      split at e
      · rename_i h
        rw [Bool.and_eq_true] at h
        cases e
        exact ⟨p1, p2, r1.dp e1, r2.dp e2, h.1, h.2, q _ H (fun _ _ h => h) rn_bl⟩
      · cases e
def rInA (K : PySem.W.Frag) (neg : Bool) : R2 := fun x y H Q =>
  (∃ d ds, Dp K H x d ∧ (Dp K H y (.list ds) ∨ Dp K H y (.tuple ds)) ∧ SeqAt.shaped d = true ∧ PyData.canLayAll0 ds = true ∧ Q (.bl (if neg then !ds.any fun z => PyData.eqv z d else ds.any fun z => PyData.eqv z d)) H) ∨
  (∃ i j, x = .str i ∧ y = .str j ∧ Q (.bl (if neg then !(!(Builtin.Str.occurrences j i 0 j.length 1).isEmpty) else !(Builtin.Str.occurrences j i 0 j.length 1).isEmpty)) H)
theorem op_inA {X : Cx} (hu : X.A.units + 65 < cLine) : OpR X (compareOp .In) (rInA X.K false) := by
  intro pins s σ H x y v u Q I rx ry h
  rcases h with ⟨d, ds, hd, he, sd, se, q⟩ | h
  · obtain ⟨as, r1⟩ := Dp.reads I d x v hd rx
    rcases he with he | he
    · obtain ⟨bs, r2⟩ := Dp.reads I (.list ds) y u he ry
      exact SeqAt.in_list_reads r2 r1 se (SeqAt.canLay_of_shaped sd) (room_in_shaped sd hu) ⟨.bl _, H, I, rfl, q⟩
    · obtain ⟨bs, r2⟩ := Dp.reads I (.tuple ds) y u he ry
      exact SeqAt.in_tuple_reads r2 r1 se (SeqAt.canLay_of_shaped sd) (room_in_shaped sd hu) ⟨.bl _, H, I, rfl, q⟩
  · exact op_in_str pins s σ H x y v u Q I rx ry h
theorem op_notInA {X : Cx} (hu : X.A.units + 65 < cLine) : OpR X (compareOp .NotIn) (rInA X.K true) := by
  intro pins s σ H x y v u Q I rx ry h
  rcases h with ⟨d, ds, hd, he, sd, se, q⟩ | h
  · obtain ⟨as, r1⟩ := Dp.reads I d x v hd rx
    rcases he with he | he
    · obtain ⟨bs, r2⟩ := Dp.reads I (.list ds) y u he ry
      exact SeqAt.notIn_list_reads r2 r1 se (SeqAt.canLay_of_shaped sd) (room_in_shaped sd hu) ⟨.bl _, H, I, rfl, q⟩
    · obtain ⟨bs, r2⟩ := Dp.reads I (.tuple ds) y u he ry
      exact SeqAt.notIn_tuple_reads r2 r1 se (SeqAt.canLay_of_shaped sd) (room_in_shaped sd hu) ⟨.bl _, H, I, rfl, q⟩
  · exact op_notIn_str pins s σ H x y v u Q I rx ry h
def fIn (neg : Bool) (a b : D) : Option SV := match b with
  | .str y => match a with
    | .str x => some (.dat (.bl (if neg then !(!(Builtin.Str.occurrences y x 0 y.length 1).isEmpty) else !(Builtin.Str.occurrences y x 0 y.length 1).isEmpty)))
    | _ => none
  | .tup xs => match a.toP, D.toPs xs with
    | some d, some ds => if SeqAt.shaped d && PyData.canLayAll0 ds then some (.dat (.bl (if neg then !ds.any fun z => PyData.eqv z d else ds.any fun z => PyData.eqv z d))) else none
    | _, _ => none
  | .lst xs => match a.toP, D.toPs xs with
    | some d, some ds => if SeqAt.shaped d && PyData.canLayAll0 ds then some (.dat (.bl (if neg then !ds.any fun z => PyData.eqv z d else ds.any fun z => PyData.eqv z d))) else none
    | _, _ => none
  | _ => none
theorem od_in {neg : Bool} : OpD K mg (rInA K neg) (fIn neg) := by
  intro H x y d1 d2 sv Q r1 r2 e q
  cases d2 <;> first | (cases e; done) | skip
  · rename_i z
    cases d1 <;> first | (cases e; done) | skip
    cases r1.str
    cases r2.str
    cases e
    exact .inr ⟨_, _, rfl, rfl, q _ H (fun _ _ h => h) rn_bl⟩
  · rename_i xs
    simp only [fIn] at e
    cases e1 : d1.toP with
    | none =>
      simp only [e1] at e
      cases e
    | some d =>
      cases e2 : D.toPs xs with
      | none =>
        simp only [e1, e2] at e
        cases e
      | some ds =>
        simp only [e1, e2] at e
        split at e
        · rename_i h
          rw [Bool.and_eq_true] at h
          cases e
          exact .inl ⟨d, ds, r1.dp e1, .inr (r2.dp (by simp only [D.toP, e2])), h.1, h.2, q _ H (fun _ _ h => h) rn_bl⟩
        · cases e
  · rename_i xs
    simp only [fIn] at e
    cases e1 : d1.toP with
    | none =>
      simp only [e1] at e
      cases e
    | some d =>
      cases e2 : D.toPs xs with
      | none =>
        simp only [e1, e2] at e
        cases e
      | some ds =>
        simp only [e1, e2] at e
        split at e
        · rename_i h
          rw [Bool.and_eq_true] at h
          cases e
          exact .inl ⟨d, ds, r1.dp e1, .inl (r2.dp (by simp only [D.toP, e2])), h.1, h.2, q _ H (fun _ _ h => h) rn_bl⟩
        · cases e
/-! ### is -/
def rIsC : R2 := fun x y H Q => (y = .non ∧ Q (.bl (decide (x = .non))) H) ∨ ∃ b : Bool, y = .bl b ∧ Q (.bl (decide (x = .bl b))) H
def rIsNC : R2 := fun x y H Q => (y = .non ∧ Q (.bl (!decide (x = .non))) H) ∨ ∃ b : Bool, y = .bl b ∧ Q (.bl (!decide (x = .bl b))) H
theorem op_isC {X : Cx} : OpR X (compareOp .Is) rIsC := by
  intro pins s σ H x y v u Q I rx ry h
  rcases h with h | ⟨b, rfl, q⟩
  · exact op_isN pins s σ H x y v u Q I rx ry h
  · cases (show u = Value.bool b from ry)
    by_cases e : x = .bl b
    · subst e
      cases (show v = Value.bool b from rx)
      exact wpAny_is_self rfl ⟨.bl true, H, I, rfl, by simpa using q⟩
    · have q' : Q (.bl false) H := by simpa [e] using q
      cases x <;> first
        | (cases rx; exact wpAny_is_other rfl (fun z => by first | (cases z; done) | (cases z; exact e rfl)) ⟨.bl false, H, I, rfl, q'⟩)
        | (obtain ⟨t, rfl⟩ := rx; exact wpAny_is_other rfl (fun z => by first | (cases z; done) | (cases z; exact e rfl)) ⟨.bl false, H, I, rfl, q'⟩)
        | (cases rx; exact wpAny_is_other rfl (fun z => by first | (cases z; done) | (cases z; exact e rfl)) ⟨.bl false, H, I, rfl, q'⟩)
theorem op_isNC {X : Cx} : OpR X (compareOp .IsNot) rIsNC := by
  intro pins s σ H x y v u Q I rx ry h
  rcases h with h | ⟨b, rfl, q⟩
  · exact op_notN pins s σ H x y v u Q I rx ry h
  · cases (show u = Value.bool b from ry)
    by_cases e : x = .bl b
    · subst e
      cases (show v = Value.bool b from rx)
      exact wpAny_isNot_self rfl ⟨.bl false, H, I, rfl, by simpa using q⟩
    · have q' : Q (.bl true) H := by simpa [e] using q
      cases x <;> first
        | (cases rx; exact wpAny_isNot_other rfl (fun z => by first | (cases z; done) | (cases z; exact e rfl)) ⟨.bl true, H, I, rfl, q'⟩)
        | (obtain ⟨t, rfl⟩ := rx; exact wpAny_isNot_other rfl (fun z => by first | (cases z; done) | (cases z; exact e rfl)) ⟨.bl true, H, I, rfl, q'⟩)
        | (cases rx; exact wpAny_isNot_other rfl (fun z => by first | (cases z; done) | (cases z; exact e rfl)) ⟨.bl true, H, I, rfl, q'⟩)
def isNon : D → Bool
  | .non => true
  | _ => false
def isBl (b : Bool) : D → Bool
  | .bl c => c == b
  | _ => false
def fIs (neg : Bool) (a b : D) : Option SV := match b with
  | .non => some (.dat (.bl (neg ^^ isNon a)))
  | .bl b => some (.dat (.bl (neg ^^ isBl b a)))
  | _ => none
theorem RepU.isNon {d : D} {v : V} (r : RepU K mg H d v) : decide (v = .non) = Pd.isNon d := by
  rcases r with r | ⟨c, a, ho, rfl, rfl, _⟩
  · cases d <;> first
      | (cases (show v = _ from r); rfl)
      | (obtain ⟨a, vs, rfl, _, _⟩ := r; rfl)
      | (obtain ⟨a, vs, o, rfl, _, _, _⟩ := r; rfl)
      | (obtain ⟨a, Ca, dx, vs, o, rfl, _, _, _, _⟩ := r; rfl)
      | (obtain ⟨a, rfl, _⟩ := r; rfl)
  · cases c <;> rfl
theorem RepU.isBl {d : D} {v : V} {b : Bool} (r : RepU K mg H d v) : decide (v = .bl b) = Pd.isBl b d := by
  rcases r with r | ⟨c, a, ho, rfl, rfl, _⟩
  · cases d <;> first
      | (cases (show v = _ from r); rfl)
      | (cases (show v = _ from r); simp [Pd.isBl]; done)
      | (obtain ⟨a, vs, rfl, _, _⟩ := r; simp [Pd.isBl]; done)
      | (obtain ⟨a, vs, o, rfl, _, _, _⟩ := r; simp [Pd.isBl]; done)
      | (obtain ⟨a, Ca, dx, vs, o, rfl, _, _, _, _⟩ := r; simp [Pd.isBl]; done)
      | (obtain ⟨a, rfl, _⟩ := r; simp [Pd.isBl]; done)
      | (cases (show v = _ from r); rename_i c; cases b <;> cases c <;> rfl)
  · cases c <;> simp [Pd.isBl, Cn.toD]
theorem od_is : OpD K mg rIsC (fIs false) := by
  intro H x y d1 d2 sv Q r1 r2 e q
  cases d2 <;> first | (cases e; done) | skip
  · cases e
    cases r2.non
    exact .inl ⟨rfl, by rw [r1.isNon]; exact q _ H (fun _ _ h => h) (by simpa using rn_bl)⟩
  · cases e
    cases r2.bl
    exact .inr ⟨_, rfl, by rw [r1.isBl]; exact q _ H (fun _ _ h => h) (by simpa using rn_bl)⟩
theorem od_isNot : OpD K mg rIsNC (fIs true) := by
  intro H x y d1 d2 sv Q r1 r2 e q
  cases d2 <;> first | (cases e; done) | skip
  · cases e
    cases r2.non
    exact .inl ⟨rfl, by rw [r1.isNon]; exact q _ H (fun _ _ h => h) (by simpa using rn_bl)⟩
  · cases e
    cases r2.bl
    exact .inr ⟨_, rfl, by rw [r1.isBl]; exact q _ H (fun _ _ h => h) (by simpa using rn_bl)⟩
end
end Pd
end PdW_text

section PdX_text
set_option maxHeartbeats 4000000
/-! comparisons in order, subscripts, slices, calls of built-in functions -/
namespace Pd
open PySem PySem.Spec PyProof.Rows L2
section
variable {K : PySem.W.Frag} {mg : Str → Option Value} {H : Hp}
def rStB (g : Str → Str → Bool) : R2 := fun x y H Q => ∃ i j, x = .str i ∧ y = .str j ∧ Q (.bl (g i j)) H
def isB (g : Int → Int → Bool) (g' : Str → Str → Bool) : D → D → Option SV
  | .int i, .int j => some (.dat (.bl (g i j)))
  | .str i, .str j => some (.dat (.bl (g' i j)))
  | _, _ => none
def rIsS (g : Int → Int → Bool) (g' : Str → Str → Bool) : R2 := fun x y H Q => (rI0 fun i j => .bl (g i j)) x y H Q ∨ rStB g' x y H Q
theorem od_isS {g : Int → Int → Bool} {g' : Str → Str → Bool} : OpD K mg (rIsS g g') (isB g g') := by
  intro H x y d1 d2 sv Q r1 r2 e q
  cases d1 <;> cases d2 <;> first | (cases e; done) | skip
  · cases r1.int
    cases r2.int
    cases e
    exact .inl ⟨_, _, rfl, rfl, q _ H (fun _ _ h => h) rn_bl⟩
  · cases r1.str
    cases r2.str
    cases e
    exact .inr ⟨_, _, rfl, rfl, q _ H (fun _ _ h => h) rn_bl⟩
def sLt (i j : Str) : Bool := decide (i.cps.toList < j.cps.toList)
def fLt := isB (fun i j => decide (i < j)) sLt
def fLe := isB (fun i j => decide (i ≤ j)) fun i j => !sLt j i
def fGt := isB (fun i j => decide (j < i)) fun i j => sLt j i
def fGe := isB (fun i j => decide (j ≤ i)) fun i j => !sLt i j
theorem op_ltA {X : Cx} : OpR X (compareOp .Lt) (rIsS (fun i j => decide (i < j)) sLt) := orOp op_lt op_lt_str
theorem op_leA {X : Cx} : OpR X (compareOp .LtE) (rIsS (fun i j => decide (i ≤ j)) fun i j => !sLt j i) := orOp op_le op_le_str
theorem op_gtA {X : Cx} : OpR X (compareOp .Gt) (rIsS (fun i j => decide (j < i)) fun i j => sLt j i) := orOp op_gt op_gt_str
theorem op_geA {X : Cx} : OpR X (compareOp .GtE) (rIsS (fun i j => decide (j ≤ i)) fun i j => !sLt i j) := orOp op_ge op_ge_str
/-! ### places -/
def fIx : D → D → Option SV
  | .tup xs, .int i => match atI xs i with
    | some d => some (.dat d)
    | none => none
  | .lst xs, .int i => match atI xs i with
    | some d => some (.dat d)
    | none => none
  | .str x, .int i => if Fits x.length then (match atI x.cps.toList i with
    | some c => some (.dat (.str ⟨#[c]⟩))
    | none => none) else none
  | _, _ => none
theorem Reps.atI {H : Hp} {ds : List D} {vs : List V} {i : Int} {d : D} (r : Reps K mg H ds vs) (e : L2.atI ds i = some d) : ∃ v, L2.atI vs i = some v ∧ Rep K mg H d v := by
  unfold L2.atI at e ⊢
  rw [r.len]
  cases h : ixN ds.length i with
  | none =>
    rw [h] at e
    cases e
  | some j =>
    rw [h] at e
    exact r.get e
theorem od_ix : OpD K mg (rIx K) fIx := by
  intro H x y d1 d2 sv Q r1 r2 e q
  cases d1 <;> cases d2 <;> first | (cases e; done) | skip
  · rename_i z i
    cases r1.str
    cases r2.int
    simp only [fIx] at e
    split at e
    · rename_i hz
      cases e1 : atI z.cps.toList i with
      | none =>
        rw [e1] at e
        cases e
      | some c =>
        rw [e1] at e
        cases e
        exact .inr (.inr ⟨z, i, c, rfl, rfl, hz.le, e1, q _ H (fun _ _ h => h) rfl⟩)
    · cases e
  · rename_i xs i
    cases r2.int
    obtain ⟨a, vs, rfl, f, p⟩ := r1.tup
    simp only [fIx] at e
    cases e1 : atI xs i with
    | none =>
      rw [e1] at e
      cases e
    | some d =>
      rw [e1] at e
      cases e
      obtain ⟨v, e2, rv⟩ := p.atI e1
      exact .inr (.inl ⟨a, vs, i, v, rfl, rfl, f.sq, e2, q _ H (fun _ _ h => h) rv⟩)
  · rename_i xs i
    cases r2.int
    obtain ⟨a, vs, rfl, f, p⟩ := r1.lst
    simp only [fIx] at e
    cases e1 : atI xs i with
    | none =>
      rw [e1] at e
      cases e
    | some d =>
      rw [e1] at e
      cases e
      obtain ⟨v, e2, rv⟩ := p.atI e1
      exact .inl ⟨a, vs, i, v, rfl, rfl, f, e2, q _ H (fun _ _ h => h) rv⟩
/-! ### slices -/
def cutD {α : Type} (xs : List α) (lo hi : Option Int) : List α := (xs.drop (HT.sIx xs.length 0 lo)).take (HT.sIx xs.length xs.length hi - HT.sIx xs.length 0 lo)
theorem Reps.cut {H : Hp} {ds : List D} {vs : List V} (r : Reps K mg H ds vs) (lo hi : Option Int) : Reps K mg H (cutD ds lo hi) (cutV vs lo hi) := by
  unfold cutD cutV
  rw [r.len]
  exact (r.drop _).take _
theorem cutD_all {α : Type} {xs : List α} {lo hi : Option Int} (h : HT.sIx xs.length 0 lo = 0 ∧ HT.sIx xs.length xs.length hi = xs.length) : cutD xs lo hi = xs := by
  unfold cutD
  rw [h.1, h.2]
  simp
def rSlZ (K : PySem.W.Frag) : V → Option Int → Option Int → Hp → VK → Prop := fun x lo hi H Q => (rSlA K x lo hi H Q ∨ rSlL K x lo hi H Q) ∨ rSlS x lo hi H Q
theorem sl_all {X : Cx} : SlR X (rSlZ X.K) := (sl_tupA.or sl_list).or sl_str
def fSl : D → Option Int → Option Int → Option SV
  | .tup xs, lo, hi => some (.dat (.tup (cutD xs lo hi)))
  | .lst xs, lo, hi => some (.own true (.lst (cutD xs lo hi)))
  | .str x, lo, hi => if Fits x.length then some (.dat (.str (cutS x lo hi))) else none
  | _, _, _ => none
theorem sd_all : SlD K mg (rSlZ K) fSl := by
  intro H x d lo hi sv Q r1 e q
  cases d <;> first | (cases e; done) | skip
  · rename_i z
    cases r1.str
    simp only [fSl] at e
    split at e
    · rename_i hz
      cases e
      exact .inr ⟨z, rfl, Fits.le hz, q _ H (fun _ _ h => h) rfl⟩
    · cases e
  · rename_i xs
    cases e
    obtain ⟨a, vs, rfl, f, p⟩ := r1.tup
    refine .inl (.inl ⟨a, vs, rfl, f.sq, fun hw => ?_, fun hw y hy => ?_⟩)
    · refine q _ H (fun _ _ h => h) ⟨a, vs, rfl, f, ?_⟩
      rw [cutD_all (by rw [← p.len]; exact hw)]
      exact p
    · have sm := same_upd (o := .tup (cutV vs lo hi)) hy
      exact q _ _ sm ⟨y, _, rfl, .inl upd_same, (p.cut lo hi).stay (Stay.of_same sm) _ _⟩
  · rename_i xs
    cases e
    obtain ⟨a, vs, rfl, f, p⟩ := r1.lst
    refine .inl (.inr ⟨a, vs, rfl, f, fun y hy => ?_⟩)
    have sm := same_upd (o := .lst (cutV vs lo hi)) hy
    exact q _ _ sm ⟨rfl, y, _, rfl, hy, upd_same, _, rfl, (p.cut lo hi).stay (Stay.of_same sm) _ _⟩
/-! ### calls -/
theorem rou1 {d : D} {vs : List V} (h : ROu K mg H [d] vs) : ∃ v, vs = [v] ∧ RepU K mg H d v := by
  cases h with
  | cons a b =>
    cases b
    exact ⟨_, rfl, a⟩
theorem rou2 {d d' : D} {vs : List V} (h : ROu K mg H [d, d'] vs) : ∃ v w, vs = [v, w] ∧ RepU K mg H d v ∧ RepU K mg H d' w := by
  cases h with
  | cons a b =>
    obtain ⟨w, rfl, r⟩ := rou1 b
    exact ⟨_, _, rfl, a, r⟩
def fLen : List D → Option SV
  | [.str x] => if Fits x.length then some (.dat (.int x.length)) else none
  | [.tup xs] => some (.dat (.int xs.length))
  | [.lst xs] => some (.dat (.int xs.length))
  | [.dic ks xs] => some (.dat (.int ks.length))
  | _ => none
def rLenA (K : PySem.W.Frag) : List V → Hp → VK → Prop := fun xs H Q => (∃ x n, xs = [x] ∧ LenV K x H n ∧ Q (.int n) H) ∨ (∃ a kvs, xs = [V.ref a] ∧ Rd H a (.dK kvs) ∧ Q (.int kvs.length) H)
theorem call_lenA {X : Cx} : CallR X (.builtin "len") (rLenA X.K) := by
  intro pins s σ H xs us Q I rs q
  rcases q with q | ⟨a, kvs, rfl, e, q⟩
  · exact call_len pins s σ H xs us Q I rs q
  · rw [Vals.ref1 rs]
    exact d_len I e fun t s' I' => ⟨.int _, H, I', ⟨_, rfl⟩, q⟩
theorem zip_len {α β : Type} {xs : List α} {ys : List β} (h : xs.length = ys.length) : (xs.zip ys).length = xs.length := by rw [List.length_zip]; omega
theorem cd_len : CallD K mg (rLenA K) fLen := by
  intro H xs ds sv Q r e q
  match ds, e with
  | [.str z], e =>
    obtain ⟨v, rfl, r0⟩ := rou1 r
    cases r0.str
    simp only [fLen] at e
    split at e
    · rename_i hz
      cases e
      exact .inl ⟨_, _, rfl, ⟨Fits.le hz, rfl⟩, q _ H (fun _ _ h => h) rfl⟩
    · cases e
  | [.tup zs], e =>
    obtain ⟨v, rfl, r0⟩ := rou1 r
    obtain ⟨a, vs, rfl, f, p⟩ := r0.tup
    cases e
    exact .inl ⟨_, vs.length, rfl, .inr ⟨vs, f.sq, rfl⟩, q _ H (fun _ _ h => h) (by rw [p.len]; rfl)⟩
  | [.lst zs], e =>
    obtain ⟨v, rfl, r0⟩ := rou1 r
    obtain ⟨a, vs, rfl, f, p⟩ := r0.lst
    cases e
    exact .inl ⟨_, vs.length, rfl, .inl ⟨vs, f, rfl⟩, q _ H (fun _ _ h => h) (by rw [p.len]; rfl)⟩
  | [.dic ks zs], e =>
    obtain ⟨v, rfl, r0⟩ := rou1 r
    cases e
    rcases r0 with ⟨a, vs, o, rfl, ea, hl, _⟩ | ⟨c, a, ho, e1, rfl, ea, r2⟩
    · exact .inr ⟨a, _, rfl, .inr ⟨o, ea⟩, q _ H (fun _ _ h => h) (by rw [zip_len hl]; rfl)⟩
    · cases c <;> cases e1
      obtain ⟨vs, rfl, hl, _⟩ := r2
      exact .inr ⟨a, _, rfl, .inl ea, q _ H (fun _ _ h => h) (by rw [zip_len hl]; rfl)⟩
def fList : List D → Option SV
  | [.tup xs] => some (.own true (.lst xs))
  | [.lst xs] => some (.own true (.lst xs))
  | _ => none
theorem cd_list : CallD K mg (fun xs H Q => ∃ p ys, xs = [.ref p] ∧ (SqL K H p ys ∨ SqT K H p ys) ∧ ∀ l, H l = none → Q (.ref l) (upd H l (.lst ys))) fList := by
  intro H xs ds sv Q r e q
  match ds, e with
  | [.tup zs], e =>
    obtain ⟨v, rfl, r0⟩ := rou1 r
    obtain ⟨a, vs, rfl, f, p⟩ := r0.tup
    cases e
    exact ⟨a, vs, rfl, .inr f.sq, fun y hy => q _ _ (same_upd hy) ⟨rfl, y, _, rfl, hy, upd_same, _, rfl, p.stay (Stay.of_same (same_upd hy)) _ _⟩⟩
  | [.lst zs], e =>
    obtain ⟨v, rfl, r0⟩ := rou1 r
    obtain ⟨a, vs, rfl, f, p⟩ := r0.lst
    cases e
    exact ⟨a, vs, rfl, .inl f, fun y hy => q _ _ (same_upd hy) ⟨rfl, y, _, rfl, hy, upd_same, _, rfl, p.stay (Stay.of_same (same_upd hy)) _ _⟩⟩
def fTuple : List D → Option SV
  | [.tup xs] => some (.dat (.tup xs))
  | [.lst xs] => some (.dat (.tup xs))
  | _ => none
theorem cd_tuple : CallD K mg (fun xs H Q => ∃ p ys, xs = [.ref p] ∧ ((SqL K H p ys ∧ ∀ l, H l = none → Q (.ref l) (upd H l (.tup ys))) ∨ (SqT K H p ys ∧ Q (.ref p) H))) fTuple := by
  intro H xs ds sv Q r e q
  match ds, e with
  | [.tup zs], e =>
    obtain ⟨v, rfl, r0⟩ := rou1 r
    obtain ⟨a, vs, rfl, f, p⟩ := r0.tup
    cases e
    exact ⟨a, vs, rfl, .inr ⟨f.sq, q _ H (fun _ _ h => h) ⟨a, vs, rfl, f, p⟩⟩⟩
  | [.lst zs], e =>
    obtain ⟨v, rfl, r0⟩ := rou1 r
    obtain ⟨a, vs, rfl, f, p⟩ := r0.lst
    cases e
    exact ⟨a, vs, rfl, .inl ⟨f, fun y hy => q _ _ (same_upd hy) ⟨y, _, rfl, .inl upd_same, p.stay (Stay.of_same (same_upd hy)) _ _⟩⟩⟩
def fInt : List D → Option SV
  | [.int i] => some (.dat (.int i))
  | [.bl b] => some (.dat (.int (if b then 1 else 0)))
  | _ => none
theorem cd_int : CallD K mg (fun xs H Q => (∃ i, xs = [.int i] ∧ Q (.int i) H) ∨ ∃ k, xs = [.bl k] ∧ Q (.int (if k then 1 else 0)) H) fInt := by
  intro H xs ds sv Q r e q
  match ds, e with
  | [.int i], e =>
    obtain ⟨v, rfl, r0⟩ := rou1 r
    cases r0.int
    cases e
    exact .inl ⟨_, rfl, q _ H (fun _ _ h => h) rfl⟩
  | [.bl i], e =>
    obtain ⟨v, rfl, r0⟩ := rou1 r
    cases r0.bl
    cases e
    exact .inr ⟨_, rfl, q _ H (fun _ _ h => h) rfl⟩
def fAbs : List D → Option SV
  | [.int i] => some (.dat (.int (if i < 0 then -i else i)))
  | _ => none
theorem cd_abs : CallD K mg (fun xs H Q => ∃ i, xs = [.int i] ∧ Q (.int (if i < 0 then -i else i)) H) fAbs := by
  intro H xs ds sv Q r e q
  match ds, e with
  | [.int i], e =>
    obtain ⟨v, rfl, r0⟩ := rou1 r
    cases r0.int
    cases e
    exact ⟨_, rfl, q _ H (fun _ _ h => h) rfl⟩
def fMax2 : List D → Option SV
  | [.int i, .int j] => some (.dat (.int (if j > i then j else i)))
  | _ => none
theorem cd_max2 : CallD K mg (fun xs H Q => ∃ i j, xs = [.int i, .int j] ∧ Q (.int (if j > i then j else i)) H) fMax2 := by
  intro H xs ds sv Q r e q
  match ds, e with
  | [.int i, .int j], e =>
    obtain ⟨v, w, rfl, r1, r2⟩ := rou2 r
    cases r1.int
    cases r2.int
    cases e
    exact ⟨_, _, rfl, q _ H (fun _ _ h => h) rfl⟩
def fMin2 : List D → Option SV
  | [.int i, .int j] => some (.dat (.int (if j < i then j else i)))
  | _ => none
theorem cd_min2 : CallD K mg (fun xs H Q => ∃ i j, xs = [.int i, .int j] ∧ Q (.int (if j < i then j else i)) H) fMin2 := by
  intro H xs ds sv Q r e q
  match ds, e with
  | [.int i, .int j], e =>
    obtain ⟨v, w, rfl, r1, r2⟩ := rou2 r
    cases r1.int
    cases r2.int
    cases e
    exact ⟨_, _, rfl, q _ H (fun _ _ h => h) rfl⟩
def intsD : List D → Option (List Int)
  | [] => some []
  | .int i :: r => match intsD r with
    | some l => some (i :: l)
    | none => none
  | _ :: _ => none
def blsD : List D → Option (List Bool)
  | [] => some []
  | .bl i :: r => match blsD r with
    | some l => some (i :: l)
    | none => none
  | _ :: _ => none
theorem intsD_eq : ∀ {ds : List D} {ns : List Int}, intsD ds = some ns → ds = ns.map D.int
  | [], _, e => by
    cases e
    rfl
  | d :: ds, ns, e => by
    cases d <;> first | (cases e; done) | skip
    simp only [intsD] at e
    cases e1 : intsD ds with
    | none =>
      rw [e1] at e
      cases e
    | some l =>
      rw [e1] at e
      cases e
      rw [List.map_cons, ← intsD_eq e1]
theorem blsD_eq : ∀ {ds : List D} {ns : List Bool}, blsD ds = some ns → ds = ns.map D.bl
  | [], _, e => by
    cases e
    rfl
  | d :: ds, ns, e => by
    cases d <;> first | (cases e; done) | skip
    simp only [blsD] at e
    cases e1 : blsD ds with
    | none =>
      rw [e1] at e
      cases e
    | some l =>
      rw [e1] at e
      cases e
      rw [List.map_cons, ← blsD_eq e1]
theorem intsD_map (ns : List Int) : intsD (ns.map D.int) = some ns := by
  induction ns with
  | nil => rfl
  | cons n ns ih => rw [List.map_cons]; simp only [intsD, ih]
theorem blsD_map (ns : List Bool) : blsD (ns.map D.bl) = some ns := by
  induction ns with
  | nil => rfl
  | cons n ns ih => rw [List.map_cons]; simp only [blsD, ih]
theorem Reps.ints : ∀ {ns : List Int} {vs : List V}, Reps K mg H (ns.map D.int) vs → vs = ns.map V.int
  | [], _, h => by
    cases h
    rfl
  | n :: ns, _, h => by
    obtain ⟨v, r, rfl, h1, h2⟩ := h
    cases (show v = .int n from h1)
    rw [List.map_cons, ← Reps.ints h2]
theorem Reps.bls : ∀ {ns : List Bool} {vs : List V}, Reps K mg H (ns.map D.bl) vs → vs = ns.map V.bl
  | [], _, h => by
    cases h
    rfl
  | n :: ns, _, h => by
    obtain ⟨v, r, rfl, h1, h2⟩ := h
    cases (show v = .bl n from h1)
    rw [List.map_cons, ← Reps.bls h2]
def fSum : List D → Option SV
  | [.lst xs] => match intsD xs with
    | some ns => some (.dat (.int ns.sum))
    | none => none
  | _ => none
theorem cd_sum : CallD K mg (rSum K) fSum := by
  intro H xs ds sv Q r e q
  match ds, e with
  | [.lst zs], e =>
    obtain ⟨v, rfl, r0⟩ := rou1 r
    obtain ⟨a, vs, rfl, f, p⟩ := r0.lst
    simp only [fSum] at e
    cases e1 : intsD zs with
    | none =>
      rw [e1] at e
      cases e
    | some ns =>
      rw [e1] at e
      cases e
      have e2 := intsD_eq e1
      subst e2
      rw [p.ints] at f
      exact ⟨a, ns, rfl, f, q _ H (fun _ _ h => h) rfl⟩
def fAll : List D → Option SV
  | [.lst xs] => match blsD xs with
    | some ns => some (.dat (.bl (ns.all id)))
    | none => none
  | _ => none
theorem cd_all : CallD K mg (rAll K) fAll := by
  intro H xs ds sv Q r e q
  match ds, e with
  | [.lst zs], e =>
    obtain ⟨v, rfl, r0⟩ := rou1 r
    obtain ⟨a, vs, rfl, f, p⟩ := r0.lst
    simp only [fAll] at e
    cases e1 : blsD zs with
    | none =>
      rw [e1] at e
      cases e
    | some ns =>
      rw [e1] at e
      cases e
      have e2 := blsD_eq e1
      subst e2
      rw [p.bls] at f
      exact ⟨a, ns, rfl, f, q _ H (fun _ _ h => h) rfl⟩
def fAny : List D → Option SV
  | [.lst xs] => match blsD xs with
    | some ns => some (.dat (.bl (ns.any id)))
    | none => none
  | _ => none
theorem cd_any : CallD K mg (rAny K) fAny := by
  intro H xs ds sv Q r e q
  match ds, e with
  | [.lst zs], e =>
    obtain ⟨v, rfl, r0⟩ := rou1 r
    obtain ⟨a, vs, rfl, f, p⟩ := r0.lst
    simp only [fAny] at e
    cases e1 : blsD zs with
    | none =>
      rw [e1] at e
      cases e
    | some ns =>
      rw [e1] at e
      cases e
      have e2 := blsD_eq e1
      subst e2
      rw [p.bls] at f
      exact ⟨a, ns, rfl, f, q _ H (fun _ _ h => h) rfl⟩
/-! ### - x -/
def fNeg : D → Option SV
  | .int i => some (.dat (.int (-i)))
  | _ => none
theorem ud_neg : UnD K mg (rU fun i => .int (-i)) fNeg := by
  intro H x d sv Q r e q
  cases d <;> first | (cases e; done) | skip
  cases r.int
  cases e
  exact ⟨_, rfl, q _ H (fun _ _ h => h) rfl⟩
/-! ### isinstance -/
def D.ty : D → Option String
  | .non => some "NoneType"
  | .bl _ => some "bool"
  | .int _ => some "int"
  | .str _ => some "str"
  | .tup _ => some "tuple"
  | .lst _ => some "list"
  | .dic _ _ => some "dict"
  | _ => none
theorem RepU.ty {d : D} {v : V} {t : String} (r : RepU K mg H d v) (e : d.ty = some t) : TyX K H v (.type t) := by
  rcases r with r | ⟨c, a, ho, rfl, rfl, ea, r⟩
  · cases d with
    | non =>
      cases e
      cases (show v = .non from r)
      exact .base .non
    | bl b =>
      cases e
      cases (show v = .bl b from r)
      exact .base (.bl b)
    | int i =>
      cases e
      cases (show v = .int i from r)
      exact .base (.int i)
    | str x =>
      cases e
      cases (show v = .str x from r)
      exact .base (.str x)
    | tup ds =>
      cases e
      obtain ⟨a, vs, rfl, f, _⟩ := r
      rcases f with f | ⟨o, its, n, hk, hc, _⟩
      · exact .base (.tup f)
      · exact .kTuple hk hc
    | lst ds =>
      cases e
      obtain ⟨a, vs, rfl, f, _⟩ := r
      rcases f with ⟨o, f⟩ | ⟨o, its, n, hk, hc, _⟩
      · exact .base (.frz f)
      · exact .kList hk hc
    | dic ks ds =>
      cases e
      obtain ⟨a, vs, o, rfl, f, _⟩ := r
      exact .fDict f
    | ins C ns ds => cases e
    | fn x => cases e
  · cases c with
    | lst xs =>
      cases e
      obtain ⟨vs, rfl, _⟩ := r
      exact .base (.lst ea)
    | dic ks xs =>
      cases e
      obtain ⟨vs, rfl, _⟩ := r
      exact .base (.dK ea)
    | ins C ns xs => cases e
theorem RepU.same {d : D} {v : V} {H' : Hp} (s : Same H H') (r : RepU K mg H d v) : RepU K mg H' d v := by
  rcases r with r | ⟨c, a, ho, e1, e2, ea, r⟩
  · exact .inl (r.stay (Stay.of_same s) _ _)
  · exact .inr ⟨c, a, ho, e1, e2, s _ _ ea, r.stay (Stay.of_same s)⟩
def tyLook (tab : List (String × Bool)) (t : String) : Option Bool := match tab with
  | [] => none
  | p :: r => if p.1 == t then some p.2 else tyLook r t
theorem tyLook_mem {t : String} {b : Bool} : ∀ {tab : List (String × Bool)}, tyLook tab t = some b → (t, b) ∈ tab
  | [], e => by cases e
  | p :: r, e => by
    unfold tyLook at e
    split at e
    · rename_i h
      cases e
      rw [← beq_iff_eq.mp h]
      exact List.mem_cons_self
    · exact List.mem_cons_of_mem _ (tyLook_mem e)
def fIsi (tab : List (String × Bool)) (d : D) : Option SV := match d.ty with
  | some t => (match tyLook tab t with
    | some b => some (.dat (.bl b))
    | none => none)
  | none => none
end
section
variable {X : Cx} {F : Fx} {W : WX} {e eT eU : Expr} {p pos : Pos} {tab : List (String × Bool)} {g : GO}
theorem pd_isi {T : String} (hg : Gl X "isinstance") (hm : X.mg "isinstance" = none) (hk : (tab.all fun p => kitB p.1 T == some p.2) = true) (h : PO X F W e g) (hT : PE X eT (tC (.ty T)))
    (he : starEach [e, eT] X.env = (false, eval e X.env) :: starEach [eT] X.env := by rfl) (he2 : starEach [eT] X.env = (false, eval eT X.env) :: starEach [] X.env := by rfl) (hpl : (backTo pos (starEach [eT] X.env)).any (·.1) = false := by rfl) :
    PD X F W (.Call (.Name "isinstance" p) [e, eT] [] pos) (gUn (fIsi tab) g) := by
  have hf : UnD X.K X.mg (fun x H Q => rIsi X.K [x, .ty T] H Q) (fIsi tab) := by
    intro H x d sv Q r e q
    unfold fIsi at e
    cases e1 : d.ty with
    | none =>
      rw [e1] at e
      cases e
    | some t =>
      simp only [e1] at e
      cases e2 : tyLook tab t with
      | none =>
        rw [e2] at e
        cases e
      | some b =>
        simp only [e2] at e
        cases e
        have z := List.all_eq_true.mp hk _ (tyLook_mem e2)
        exact ⟨x, _, _, _, b, rfl, .ty T, r.ty e1, kit_ty (beq_iff_eq.mp z), q _ H (fun _ _ h => h) rfl⟩
  exact ⟨(pe_callB call_isi hg hm (by first | rfl | decide +kernel) (L2.pa_cons h.pe (L2.pa_cons hT L2.pa_nil he2) he) (by decide) (by decide) he hpl).imp fun σ H Q q => un_imp hf q⟩
theorem pd_isi2 {T U : String} {k : _} {tp : Pos} (hg : Gl X "isinstance") (hm : X.mg "isinstance" = none) (hk : (tab.all fun p => (match kitB p.1 T, kitB p.1 U with
    | some a, some b => p.2 == (a || b)
    | _, _ => false)) = true) (h : PO X F W e g) (hT : PE X eT (tC (.ty T))) (hU : PE X eU (tC (.ty U)))
    (hs1 : starEach [eT, eU] X.env = (false, eval eT X.env) :: starEach [eU] X.env := by rfl) (hs2 : starEach [eU] X.env = (false, eval eU X.env) :: starEach [] X.env := by rfl)
    (he : starEach [e, .Tuple [eT, eU] k tp] X.env = (false, eval e X.env) :: starEach [.Tuple [eT, eU] k tp] X.env := by rfl) (he2 : starEach [.Tuple [eT, eU] k tp] X.env = (false, eval (.Tuple [eT, eU] k tp) X.env) :: starEach [] X.env := by rfl) (hpl : (backTo pos (starEach [.Tuple [eT, eU] k tp] X.env)).any (·.1) = false := by rfl) :
    PD X F W (.Call (.Name "isinstance" p) [e, .Tuple [eT, eU] k tp] [] pos) (gUn (fIsi tab) g) := by
  have hf : UnD X.K X.mg (fun x H Q => [V.ty T, V.ty U].length ≤ sizeLine ∧ ∀ tp, H tp = none → rIsiT X.K [x, .ref tp] (upd H tp (.tup [.ty T, .ty U])) Q) (fIsi tab) := by
    intro H x d sv Q r e q
    refine ⟨by show 2 ≤ sizeLine; rw [sizeLine_eq]; decide, fun tp htp => ?_⟩
    unfold fIsi at e
    cases e1 : d.ty with
    | none =>
      rw [e1] at e
      cases e
    | some t =>
      simp only [e1] at e
      cases e2 : tyLook tab t with
      | none =>
        rw [e2] at e
        cases e
      | some b =>
        simp only [e2] at e
        cases e
        have z := List.all_eq_true.mp hk _ (tyLook_mem e2)
        have sm := same_upd (o := .tup [.ty T, .ty U]) htp
        refine ⟨x, tp, _, _, [.type T, .type U], b, rfl, upd_same, .cons (.ty T) (.cons (.ty U) .nil), (r.same sm).ty e1, ?_, q _ _ sm rfl⟩
        cases k1 : kitB t T with
        | none =>
          simp [k1] at z
        | some b1 =>
          cases k2 : kitB t U with
          | none =>
            simp [k1, k2] at z
          | some b2 =>
            simp only [k1, k2] at z
            have z' : b = (b1 || b2) := beq_iff_eq.mp z
            subst z'
            unfold PySem.W.kitAny PySem.W.kitAny PySem.W.kitAny
            rw [kit_ty k1, kit_ty k2]
            cases b1 <;> cases b2 <;> rfl
  exact ⟨(pe_callB call_isiT hg hm (by first | rfl | decide +kernel) (L2.pa_cons h.pe (L2.pa_cons (pe_tup (L2.pa_cons hT (L2.pa_cons hU L2.pa_nil hs2) hs1)) L2.pa_nil he2) he) (by decide) (by decide) he hpl).imp fun σ H Q q => un_imp hf q⟩
end
end Pd
end PdX_text

section PdY_text
set_option maxHeartbeats 4000000
/-! enumerate over lists and tuples; lists that change; further targets and methods -/
namespace Pd
open PySem PySem.Spec PyProof.Rows L2
set_option maxHeartbeats 8000000 in
theorem meets_enum1 {v : Value} {o : Obj} {H : Heap → Prop} (B : Begins v o H) :
    Meets (Builtin.«enumerate.__new__» ⟨[.type "enumerate", v], []⟩) (fun _ R s => H s.heap ∧
      R (.ok (.ret (.ref (s.heap.push o).objs.size))) { s with heap := (s.heap.push o).push { cls := .type "enumerate", data := .fields #[.none, .bool false, .ref s.heap.objs.size, rawInt 0, .none, .none] } }) :=
  .of_wp fun prog w A R s h => by
    obtain ⟨hp, g, d, tk, os⟩ := s; obtain ⟨h1, h⟩ := h
    have hsub := sub_enumerate
    have q1 : ∀ {A' : Around} {E : Value → Shared → Prop} {Q : Value → Shared → Prop}, Q (.ref hp.objs.size) ⟨hp.push o, g, d, tk, os⟩ → wpAny (model prog w) A' (pyIter v) Q E ⟨hp, g, d, tk, os⟩ :=
      fun q => B.iter prog w _ _ ⟨hp, g, d, tk, os⟩ _ h1 q
    wp_walk using q1
    refine wpAny_stack_any fun st => wpAny_pure ?_
    split
    · rename_i c _ _ _ _ _
      cases (c == Value.type "enumerate")
      · wp_walk using q1
        exact ⟨_, rfl, h⟩
      · wp_walk using q1
        exact ⟨_, rfl, h⟩
    · wp_walk using q1
      exact ⟨_, rfl, h⟩
section
variable {prog : Program} {w : World} {A : Around} {E : Value → Shared → Prop} {s : Shared}
theorem call_enum1 {v : Value} {o : Obj} {H : Heap → Prop} {Q : Value → Shared → Prop} (B : Begins v o H) (h1 : H s.heap)
    (h : ∀ h', IsEnum h' (s.heap.objs.size + 1) s.heap.objs.size 0 .none → h'.get? s.heap.objs.size = some o → h'.objs.size = s.heap.objs.size + 2 →
      (∀ b o, s.heap.get? b = some o → h'.get? b = some o) → Q (.ref (s.heap.objs.size + 1)) { s with heap := h' }) :
    wpAny (model prog w) A (call (.type "enumerate") [v]) Q E s := by
  refine callType_new F.called_enumerate (by decide) (F.typeCall_enumerate_1 _) (F.newCall_enumerate_1 _) (fun obj => F.args_object_init_2 obj _) F.entry_enumerate_new (meets_enum1 B) ⟨h1, ?_⟩
  have hz : (s.heap.push o).objs.size = s.heap.objs.size + 1 := Heap.size_push ..
  show _ ∧ _
  rw [hz]
  have he : IsEnum ((s.heap.push o).push { cls := .type "enumerate", data := .fields #[.none, .bool false, .ref s.heap.objs.size, rawInt 0, .none, .none] }) (s.heap.objs.size + 1) s.heap.objs.size 0 .none := by
    have := Heap.get?_push_size (s.heap.push o) (o := { cls := .type "enumerate", data := .fields #[.none, .bool false, .ref s.heap.objs.size, rawInt 0, .none, .none] }) rfl
    rw [hz] at this; exact this
  refine ⟨⟨_, he, rfl⟩, h _ he (Heap.get?_push_of_some _ (Heap.get?_push_size _ B.free)) (by rw [Heap.size_push, hz]) fun b o x => Heap.get?_push_of_some _ (Heap.get?_push_of_some _ x)⟩
end
/-- the tuple at a, each item in a new pair -/
def Itet (K : PySem.W.Frag) (a : Addr) : It :=
  ⟨fun i H => ∃ (xs : List V) (x : V), SqT K H a xs ∧ xs[i]? = some x, fun i H v H' => ∃ T x, v = .ref T ∧ H T = none ∧ H' = upd H T (.tup [.int (i : Nat), x]) ∧ ∀ xs, SqT K H a xs → xs[i]? = some x, fun i H => ∃ xs : List V, SqT K H a xs ∧ xs.length ≤ i⟩
theorem turn_enumT {P : Program} {w : World} {K : PySem.W.Frag} {elts : List Expr} {kk : Nat} {tpos : Pos} (a e it : Addr) :
    Turn P w K (.Tuple elts kk tpos) (Itet K a) [e, it] e (fun i h => (∃ old, IsEnum h e it ((i : Nat) : Int) old) ∧ h.IsTupleIter it a i ∧ e ≠ it ∧ e ≠ a ∧ a ≠ it) where
  mem := by simp
  obj := fun i h st b hb => by
    obtain ⟨⟨old, he⟩, ⟨o, ho, hc, hd⟩, _⟩ := st
    have e' : b = e ∨ b = it := by simpa using hb
    rcases e' with z | z
    · rw [z]; exact ⟨_, he, fun v q => nomatch q⟩
    · rw [z]; exact ⟨o, ho, fun v q => by rw [hd] at q; cases q⟩
  keep := fun i h h' st k => let ⟨⟨old, he⟩, hi, hne⟩ := st; ⟨⟨old, k e (by simp) _ he⟩, hi.at fun o q => k it (by simp) o q, hne⟩
  item := by
    intro X hP hw hK hc i pins s σ H E I hf st hg
    subst hP hw hK
    obtain ⟨⟨old, he⟩, hit, hne, hea, hai⟩ := st
    obtain ⟨xs, x, hq, hx⟩ := hg
    obtain ⟨its, rv, p, hz⟩ := I.tuple hq
    obtain ⟨u, hu, ru⟩ := rv.get hx
    have hel : e < s.heap.objs.size := Heap.lt_size he
    have hil : it < s.heap.objs.size := by obtain ⟨_, q, _⟩ := hit; exact Heap.lt_size q
    have D := Draws.tuple (prog := X.prog) (w := X.w) (A := X.A.in1) (I.ok.hd hc) it a hai its.toArray
    have hlt : i < its.toArray.size := by
      obtain ⟨h, _⟩ := List.getElem?_eq_some_iff.mp hu
      simpa using h
    refine wpAny_pyNext_enum_itemD D he ⟨hit, p⟩ hlt hne (by simp [hne, hea]) fun x' h' tk hp ho hit' hT hsz hk => ?_
    have ex : x' = u := by
      have hu' : its.toArray[i]? = some u := by simpa using hu
      rw [hu'] at hp
      exact (Option.some.inj hp).symm
    subst ex
    refine ⟨_, rfl, wpAny_letOwnedTupleGo_enum (s := { s with heap := h', toks := tk + 1 }) ho fun h'' he' sb => ?_⟩
    have hT2 : h''.get? s.heap.objs.size = some { cls := .type "tuple", data := .seq #[.int i tk, x'] } := (sb.2 _ (Nat.ne_of_gt hel)).trans hT
    have new : ObjOk X.prog X.w (upd H s.heap.objs.size (.tup [.int (i : Nat), x])) h'' s.heap.objs.size (.tup [.int (i : Nat), x]) :=
      ⟨by show 2 ≤ sizeLine; decide, [.int i tk, x'], .cons ⟨_, rfl⟩ (.cons ru .nil), ⟨_, hT2, rfl, _, rfl⟩⟩
    have I1 : Inv X pins σ (upd H s.heap.objs.size (.tup [.int (i : Nat), x])) { s with heap := h'', toks := tk + 1 } :=
      I.turnedNew (ch := [e, it]) (fun b ob hb q => (sb.2 b (fun z => hb (by simp [z]))).trans (hk b ob (fun z => hb (by simp [z])) (fun z => hb (by simp [z])) q)) hf (Nat.le_refl _) new
    refine ⟨.ref s.heap.objs.size, _, I1, rfl, ⟨_, x, rfl, I.hok.fresh (Nat.le_refl _), rfl, fun ys hy => by rw [I.tuple_inj hy hq]; exact hx⟩, ⟨⟨x', ?_⟩, hit'.1.at fun o q => (sb.2 it (Ne.symm hne)).trans q, hne, hea, hai⟩, fun b hb => ?_⟩
    · have e1 : ((i + 1 : Nat) : Int) = (i : Int) + 1 := by omega
      rw [e1]; exact he'
    · have hb' : b < s.heap.objs.size := by
        have e' : b = e ∨ b = it := by simpa using hb
        rcases e' with z | z
        · rw [z]; exact hel
        · rw [z]; exact hil
      rw [upd_ne (Nat.ne_of_lt hb')]
      exact (hf b hb).1
  done := by
    intro X hP hw hK hc i pins s σ H E I hf st hg
    subst hP hw hK
    obtain ⟨⟨old, he⟩, hit, hne, hea, hai⟩ := st
    obtain ⟨xs, hq, hx⟩ := hg
    obtain ⟨its, rv, p, hz⟩ := I.tuple hq
    obtain ⟨f0, f1, f2, f3, f4, f5⟩ := hf it (by simp)
    have hl := rv.length
    have hT : s.TypeIs (.ref e) "enumerate" := ⟨_, he, rfl⟩
    have R : wpAny (model X.prog X.w) X.A (pyNext (.ref e)) (fun v s' => v = none ∧ Inv X pins σ H s') E s := by
      unfold pyNext
      refine wpAny_bind (wpAny_attempt (wpAny_callSpecial?_slot (name := Str.ofString "__next__") hT F.slot_enumerate_next
        (wpAny_call_entry F.slot_enumerate_next hT F.entry_enumerate_next ?_ (F.args_enumerate_next_1 _))))
      show wpAny _ _ (field (.ref e) 2 >>= _) _ _ _
      refine wpAny_bind (wpAny_field he rfl (x := .ref it) rfl ?_)
      refine wpAny_bind (wpAny_nextOf_tuple_end (A := X.A.in1) (I.ok.hd hc) hit p (by simp; omega) fun h' x he' hx' => ?_)
      obtain ⟨o, ho, hc'⟩ := hx'
      refine wpAny_bind (wpAny_isInstance (T := "StopIteration") (b := true) ⟨o, ho, hc'⟩ isSubtype_stop ?_)
      exact wpAny_pure ⟨rfl, I.turned (t' := s.toks) (fun b o hb q => he' b o hb q) f0 f1 f3 f4 f5⟩
    exact R
  self := fun A i s Q E st h => let ⟨⟨_, he⟩, _⟩ := st; wpAny_pyIter_enum he h
def iEnumA (K : PySem.W.Frag) (ta : TA) : TI := fun σ H R => ta σ H fun vs H1 => ∃ a, vs = [.ref a] ∧ ((∃ xs, SqL K H1 a xs ∧ R (Ite K a) H1) ∨ ∃ xs, SqT K H1 a xs ∧ R (Itet K a) H1)
theorem pi_enumA {X : Cx} {e : Expr} {ta : TA} {p pos tpos : Pos} {elts : List Expr} {kk : Nat} (hg : Gl X "enumerate") (hm : X.mg "enumerate" = none) (ha : PA X [e] ta) (hs : starEach [e] X.env = [(false, eval e X.env)] := by rfl) :
    PI X (.Tuple elts kk tpos) (.Call (.Name "enumerate" p) [e] [] pos) (iEnumA X.K ta) := by
  refine ⟨fun pins s σ H R I h => ?_⟩
  refine Call_ (ld_blt I hg hm boot_enumerate (PyProof.Rows.callWith_type1 (thn (ha.run pos pins s σ H _ I h) fun us s1 ⟨vs, H1, I1, r1, q1⟩ => ?_) hs rfl))
  obtain ⟨a, ex, q1⟩ := q1
  subst ex
  cases r1 with
  | cons r rr =>
    cases rr
    cases r
    have fp : ∀ b ∈ [s1.heap.objs.size + 1, s1.heap.objs.size], FpOk X pins H1 b := fun b hb => by
      have e' : b = s1.heap.objs.size + 1 ∨ b = s1.heap.objs.size := by simpa using hb
      have hle : s1.heap.objs.size ≤ b := by
        rcases e' with z | z
        · rw [z]; exact Nat.le_add_right _ _
        · rw [z]; exact Nat.le_refl _
      exact I1.fpOk hle (I1.hok.fresh hle)
    rcases q1 with ⟨xs, hq, q⟩ | ⟨xs, hq, q⟩
    · obtain ⟨its, rv, p', hz⟩ := I1.list hq
      refine call_enumerate_list p'.isList fun h' he hit hsz hk => wpAny_pyIter_enum he ?_
      have I2 : Inv X pins σ H1 { s1 with heap := h' } := I1.kept (t' := s1.toks) hk
      exact ⟨s1.heap.objs.size + 1, [s1.heap.objs.size + 1, s1.heap.objs.size], _, _, H1, rfl, I2, turn_enum a (s1.heap.objs.size + 1) s1.heap.objs.size, ⟨⟨.none, he⟩, hit, Nat.succ_ne_self _⟩, fp, q⟩
    · obtain ⟨its, rv, p', hz⟩ := I1.tuple hq
      have hal : a < s1.heap.objs.size := by
        obtain ⟨o, ho, _⟩ := p'
        exact Heap.lt_size ho
      refine call_enum1 (begins_tuple a its.toArray) p' fun h' he hit hsz hk => wpAny_pyIter_enum he ?_
      have I2 : Inv X pins σ H1 { s1 with heap := h' } := I1.kept (t' := s1.toks) hk
      exact ⟨s1.heap.objs.size + 1, [s1.heap.objs.size + 1, s1.heap.objs.size], _, _, H1, rfl, I2, turn_enumT a (s1.heap.objs.size + 1) s1.heap.objs.size, ⟨⟨.none, he⟩, ⟨_, hit, rfl, rfl⟩, Nat.succ_ne_self _, Nat.ne_of_gt (Nat.lt_succ_of_lt hal), Nat.ne_of_lt hal⟩, fp, q⟩
def enumD (ds : List D) : List D := (List.range ds.length).map fun k => .tup [.int (k : Nat), ds[k]?.getD .non]
def gEnum (g : GV) : GI := fun S => (g S).bind fun d S1 => match d with
  | .lst ds => .ok (enumD ds) S1
  | .tup ds => .ok (enumD ds) S1
  | _ => .bad
theorem itok_enum {K : PySem.W.Frag} {mg : Str → Option Value} {H : Hp} {a : Addr} {vs : List V} {ds : List D} (h : FzL K H a vs) (r : Reps K mg H ds vs) : ItOk K mg H (enumD ds) (Ite K a) := fun i H1 s => by
  unfold enumD
  refine ⟨fun d e => ?_, fun hl => ⟨vs, (h.stay s).sq, by rw [r.len]; simpa using hl⟩⟩
  rw [List.getElem?_map] at e
  by_cases hi : i < ds.length
  · rw [List.getElem?_range hi] at e
    cases e
    obtain ⟨v, ev, rv⟩ := r.get (List.getElem?_eq_getElem hi)
    refine ⟨⟨vs, v, (h.stay s).sq, ev⟩, fun x H' y => ?_⟩
    obtain ⟨T, x, rfl, hT, rfl, y⟩ := y
    have e2 := y vs (h.stay s).sq
    rw [ev] at e2
    cases e2
    have sm := same_upd (o := .tup [.int (i : Nat), v]) hT
    refine ⟨sm, T, [.int (i : Nat), v], rfl, .inl upd_same, Reps.cons rfl (Reps.cons ?_ Reps.nil)⟩
    rw [List.getElem?_eq_getElem hi]
    exact (rv.stay s _ _).stay (Stay.of_same sm) _ _
  · rw [List.getElem?_eq_none (by simpa using hi)] at e
    cases e
theorem itok_enumT {K : PySem.W.Frag} {mg : Str → Option Value} {H : Hp} {a : Addr} {vs : List V} {ds : List D} (h : FzT K H a vs) (r : Reps K mg H ds vs) : ItOk K mg H (enumD ds) (Itet K a) := fun i H1 s => by
  unfold enumD
  refine ⟨fun d e => ?_, fun hl => ⟨vs, (h.stay s).sq, by rw [r.len]; simpa using hl⟩⟩
  rw [List.getElem?_map] at e
  by_cases hi : i < ds.length
  · rw [List.getElem?_range hi] at e
    cases e
    obtain ⟨v, ev, rv⟩ := r.get (List.getElem?_eq_getElem hi)
    refine ⟨⟨vs, v, (h.stay s).sq, ev⟩, fun x H' y => ?_⟩
    obtain ⟨T, x, rfl, hT, rfl, y⟩ := y
    have e2 := y vs (h.stay s).sq
    rw [ev] at e2
    cases e2
    have sm := same_upd (o := .tup [.int (i : Nat), v]) hT
    refine ⟨sm, T, [.int (i : Nat), v], rfl, .inl upd_same, Reps.cons rfl (Reps.cons ?_ Reps.nil)⟩
    rw [List.getElem?_eq_getElem hi]
    exact (rv.stay s _ _).stay (Stay.of_same sm) _ _
  · rw [List.getElem?_eq_none (by simpa using hi)] at e
    cases e
section
variable {X : Cx} {F : Fx} {W : WX}
theorem pi_enumD {l : Expr} {g : GV} {p pos tpos : Pos} {elts : List Expr} {kk : Nat} (hg : Gl X "enumerate") (hm : X.mg "enumerate" = none) (h : PV X F W l g) (hs : starEach [l] X.env = [(false, eval l X.env)] := by rfl) :
    PId X F W (.Tuple elts kk tpos) (.Call (.Name "enumerate" p) [l] [] pos) (gEnum g) :=
  ⟨(pi_enumA hg hm (L2.pa_cons h.pe L2.pa_nil hs) hs).imp fun σ H R q => tG.bind q fun d S1 v H1 I1 r s k => by
    cases d with
    | lst ds =>
      obtain ⟨a, vs, rfl, e1, e2⟩ := r
      exact ⟨a, rfl, .inl ⟨vs, e1.sq, k.ok (R := RI X.K X.mg) I1 (itok_enum e1 e2)⟩⟩
    | tup ds =>
      obtain ⟨a, vs, rfl, e1, e2⟩ := r
      exact ⟨a, rfl, .inr ⟨vs, e1.sq, k.ok (R := RI X.K X.mg) I1 (itok_enumT e1 e2)⟩⟩
    | _ => exact k.elim⟩
end
end Pd
end PdY_text

section PdZ_text
set_option maxHeartbeats 4000000
/-! comprehensions with two clauses -/
namespace Pd
open PySem PySem.Spec PyProof.Rows L2
theorem wipeS_out {S : List SV} {j : Nat} : ∀ {vs : List Nat}, j ∉ vs → (wipeS S vs)[j]? = S[j]?
  | [], _ => rfl
  | v :: vs, h => by
    unfold wipeS
    rw [List.getElem?_set_ne (fun z => h (by rw [z]; exact List.mem_cons_self)), wipeS_out fun z => h (List.mem_cons_of_mem _ z)]
def comp2G (tgt : GTg) (test : GT) (src1 : GI) (tgt1 : GTg) (test1 : GT) (elt : GV) (vs vs1 : List Nat) : List D → List D → GI
  | [], acc => fun S => .ok acc S
  | d :: ds, acc => fun S => match tgt d S with
    | none => .bad
    | some S1 => (match test S1 with
      | .ok true S2 => (match src1 S2 with
        | .ok es S3 => (match compG tgt1 test1 elt vs1 es acc (wipeS S3 vs1) with
          | .ok acc' S4 => comp2G tgt test src1 tgt1 test1 elt vs vs1 ds acc' (wipeS S4 vs)
          | _ => .bad)
        | _ => .bad)
      | .ok false S2 => comp2G tgt test src1 tgt1 test1 elt vs vs1 ds acc (wipeS S2 vs)
      | _ => .bad)
def gComp2 (src : GI) (tgt : GTg) (test : GT) (src1 : GI) (tgt1 : GTg) (test1 : GT) (elt : GV) (vs vs1 : List Nat) : GE := fun S => (src S).bind fun ds S1 => (comp2G tgt test src1 tgt1 test1 elt vs vs1 ds [] (wipeS S1 vs)).bind fun acc S2 => .ok (.own true (.lst acc)) S2
section
variable {X : Cx} {F : Fx} {W : WX}
theorem pi_ex {α : Type} {tg e : Expr} {t : α → TI} (h : ∀ a, PI X tg e (t a)) : PI X tg e (fun σ H Q => ∃ a, t a σ H Q) := ⟨fun pins s σ H Q I ⟨a, q⟩ => (h a).run pins s σ H Q I q⟩
theorem lc2_imp {src : GI} {tgt : GTg} {test : GT} {src1 : GI} {tgt1 : GTg} {test1 : GT} {elt : GV} {vs vs1 ts ts1 : List Nat} (hts : ∀ j ∈ ts, j ∈ vs) (hts1 : ∀ j ∈ ts1, j ∈ vs1) (hv : ∀ j ∈ vs1, j ∈ vs) {σ : L2.St} {H : Hp} {Q : VK}
    (q : tG X.K X.mg F W (RE X.K X.mg F) (gComp2 src tgt test src1 tgt1 test1 elt vs vs1) σ H Q) :
    tLc2 (tG X.K X.mg F W (RI X.K X.mg) src) (fun v σ H Q => ∃ F : Fx, tT X.K X.mg F ts tgt v σ H Q) (fun σ H Q => ∃ F : Fx, tG X.K X.mg F W0 RB test σ H Q)
      (fun σ H Q => ∃ F : Fx, tG X.K X.mg F W0 (RI X.K X.mg) src1 σ H Q) (fun v σ H Q => ∃ F : Fx, tT X.K X.mg F ts1 tgt1 v σ H Q) (fun σ H Q => ∃ F : Fx, tG X.K X.mg F W0 RB test1 σ H Q) (fun σ H Q => ∃ F : Fx, tG X.K X.mg F W0 (RD X.K X.mg) elt σ H Q) vs vs1 σ H Q := by
  refine tG.bind q fun ds S1 J H1 I1 J1 s1 k => ?_
  have J1 : ItOk X.K X.mg H1 ds J := J1
  intro D hD
  have sD := same_upd (o := HO.lst []) hD
  have hF0 := I1.fresh hD
  have hFp := I1.noprot hD
  have I2 := I1.wipe vs
  have noS : ∀ {vs : List Nat} {S : List SV} {j : Nat} {b : Bool} {c : Cn}, (wipeS S vs)[j]? = some (.own b c) → j ∉ vs := fun {vs S j b c} e m => by
    have z := wipeS_in m e
    cases z
  refine ⟨fun i mm H' => mm = ds.length - i ∧ i ≤ ds.length ∧ Stay H1 H' ∧ ∃ (S : List SV) (acc : List Pd.D) (accV : List V), EnvD X.K X.mg F (wipe σ vs) H' (wipeS S vs) ∧ H' D = some (.lst accV) ∧ Reps X.K X.mg H' acc accV ∧
      (∀ (j : Nat) b c, (wipeS S vs)[j]? = some (.own b c) → (wipe σ vs)[j]? ≠ some (some (.ref D))) ∧
      OutG X.K X.mg F W (RE X.K X.mg F) σ H1 ((comp2G tgt test src1 tgt1 test1 elt vs vs1 (ds.drop i) acc (wipeS S vs)).bind fun acc S2 => .ok (.own true (.lst acc)) S2) Q,
    ⟨ds.length, rfl, Nat.zero_le _, Stay.of_same sD, S1, [], [], I2.same sD, upd_same, rfl, I2.noal hD, k⟩, fun i mm H2 w => ?_⟩
  obtain ⟨rfl, hi, st, S, acc, accV, I, hHD, racc, na, o⟩ := w
  by_cases hl : i < ds.length
  · right
    obtain ⟨go, yl⟩ := (J1 i H2 st).1 ds[i] (List.getElem?_eq_getElem hl)
    rw [List.drop_eq_getElem_cons hl] at o
    have o' : OutG X.K X.mg F W (RE X.K X.mg F) σ H1 (Res.bind (match tgt ds[i] (wipeS S vs) with
      | none => .bad
      | some S1 => (match test S1 with
        | .ok true S2 => (match src1 S2 with
          | .ok es S3 => (match compG tgt1 test1 elt vs1 es acc (wipeS S3 vs1) with
            | .ok acc' S4 => comp2G tgt test src1 tgt1 test1 elt vs vs1 (ds.drop (i + 1)) acc' (wipeS S4 vs)
            | _ => .bad)
          | _ => .bad)
        | .ok false S2 => comp2G tgt test src1 tgt1 test1 elt vs vs1 (ds.drop (i + 1)) acc (wipeS S2 vs)
        | _ => .bad)) fun acc S2 => .ok (.own true (.lst acc)) S2) Q := o
    refine ⟨go, fun H' => Stay H1 H' ∧ ∃ (S : List SV) (acc : List Pd.D) (accV : List V), EnvD X.K X.mg F (wipe σ vs) H' (wipeS S vs) ∧ H' D = some (.lst accV) ∧ Reps X.K X.mg H' acc accV ∧
      (∀ (j : Nat) b c, (wipeS S vs)[j]? = some (.own b c) → (wipe σ vs)[j]? ≠ some (some (.ref D))) ∧
      OutG X.K X.mg F W (RE X.K X.mg F) σ H1 ((comp2G tgt test src1 tgt1 test1 elt vs vs1 (ds.drop (i + 1)) acc (wipeS S vs)).bind fun acc S2 => .ok (.own true (.lst acc)) S2) Q, fun H' h => ⟨ds.length - (i + 1), by omega, rfl, hl, h⟩, fun x H3 y => ?_⟩
    obtain ⟨sm, rp⟩ := yl x H3 y
    have st3 := st.trans (Stay.of_same sm)
    have I3 : EnvD X.K X.mg { F with pr := (D, .lst accV) :: F.pr } (wipe σ vs) H3 (wipeS S vs) := (I.same sm).shield (sm _ _ hHD) na
    have racc3 := racc.stay (Stay.of_same sm) _ _
    cases e1 : tgt ds[i] (wipeS S vs) with
    | none =>
      simp only [e1] at o'
      exact o'.elim
    | some S2 =>
      simp only [e1] at o'
      refine ⟨{ F with pr := (D, .lst accV) :: F.pr }, ds[i], wipeS S vs, S2, I3, rp, e1, fun σ4 I4 a4 l4 => ?_⟩
      have ew : wipe σ4 vs = wipe σ vs := (wipe_eq l4 (a4.sub hts)).trans wipe_wipe
      refine ⟨ew, { F with pr := (D, .lst accV) :: F.pr }, S2, I4, ?_⟩
      cases e2 : test S2 with
      | bad =>
        simp only [e2] at o'
        exact o'
      | exc x S3 =>
        simp only [e2] at o'
        exact o'.elim
      | ok b S3 =>
        intro b' H4 I5 eb s4
        have eb' : b = b' := eb
        subst eb'
        cases b with
        | false =>
          simp only [e2] at o'
          refine iteF ?_
          obtain ⟨J5, h5, n5⟩ := (I5.wipe vs).unshield
          rw [ew] at J5 n5
          exact ⟨st3.trans s4, S3, acc, accV, J5, h5, racc3.stay s4 _ _, n5, o'⟩
        | true =>
          simp only [e2] at o'
          refine iteT ⟨{ F with pr := (D, .lst accV) :: F.pr }, S3, I5, ?_⟩
          cases e3 : src1 S3 with
          | bad =>
            simp only [e3] at o'
            exact o'
          | exc x S4 =>
            simp only [e3] at o'
            exact o'.elim
          | ok es S4 =>
            simp only [e3] at o'
            intro J2 H5 I6 hJ2 s5
            have J3 : ItOk X.K X.mg H5 es J2 := hJ2
            obtain ⟨I7, hD5, na5⟩ := (I6.wipe vs1).unshield
            have racc5 := (racc3.stay s4 _ _).stay s5 _ _
            refine ⟨fun j kk H' => kk = es.length - j ∧ j ≤ es.length ∧ Stay H5 H' ∧ ∃ (T : List SV) (ac : List Pd.D) (acV : List V), EnvD X.K X.mg F (wipe σ4 vs1) H' (wipeS T vs1) ∧ H' D = some (.lst acV) ∧ Reps X.K X.mg H' ac acV ∧
                (∀ (j : Nat) b c, (wipeS T vs1)[j]? = some (.own b c) → (wipe σ4 vs1)[j]? ≠ some (some (.ref D))) ∧
                OutG X.K X.mg F W (RE X.K X.mg F) σ H1 (Res.bind (match compG tgt1 test1 elt vs1 (es.drop j) ac (wipeS T vs1) with
                  | .ok acc' S4 => comp2G tgt test src1 tgt1 test1 elt vs vs1 (ds.drop (i + 1)) acc' (wipeS S4 vs)
                  | _ => .bad) fun acc S2 => .ok (.own true (.lst acc)) S2) Q,
              ⟨es.length, rfl, Nat.zero_le _, Stay.refl _, S4, acc, accV, I7, hD5, racc5, na5, o'⟩, fun j kk H6 w => ?_⟩
            obtain ⟨rfl, hj, st6, T, ac, acV, K6, hD6, r6, na6, o6⟩ := w
            by_cases hl6 : j < es.length
            · right
              obtain ⟨go6, yl6⟩ := (J3 j H6 st6).1 es[j] (List.getElem?_eq_getElem hl6)
              rw [List.drop_eq_getElem_cons hl6] at o6
              have o7 : OutG X.K X.mg F W (RE X.K X.mg F) σ H1 (Res.bind (match (match tgt1 es[j] (wipeS T vs1) with
                | none => (Res.bad : Res (List Pd.D))
                | some S1 => (match test1 S1 with
                  | .ok true S2 => (match elt S2 with
                    | .ok y S3 => if Fits ac.length then compG tgt1 test1 elt vs1 (es.drop (j + 1)) (ac ++ [y]) (wipeS S3 vs1) else .bad
                    | _ => .bad)
                  | .ok false S2 => compG tgt1 test1 elt vs1 (es.drop (j + 1)) ac (wipeS S2 vs1)
                  | _ => .bad)) with
                | .ok acc' S4 => comp2G tgt test src1 tgt1 test1 elt vs vs1 (ds.drop (i + 1)) acc' (wipeS S4 vs)
                | _ => .bad) fun acc S2 => .ok (.own true (.lst acc)) S2) Q := o6
              refine ⟨go6, fun H' => Stay H5 H' ∧ ∃ (T : List SV) (ac : List Pd.D) (acV : List V), EnvD X.K X.mg F (wipe σ4 vs1) H' (wipeS T vs1) ∧ H' D = some (.lst acV) ∧ Reps X.K X.mg H' ac acV ∧
                (∀ (j : Nat) b c, (wipeS T vs1)[j]? = some (.own b c) → (wipe σ4 vs1)[j]? ≠ some (some (.ref D))) ∧
                OutG X.K X.mg F W (RE X.K X.mg F) σ H1 (Res.bind (match compG tgt1 test1 elt vs1 (es.drop (j + 1)) ac (wipeS T vs1) with
                  | .ok acc' S4 => comp2G tgt test src1 tgt1 test1 elt vs vs1 (ds.drop (i + 1)) acc' (wipeS S4 vs)
                  | _ => .bad) fun acc S2 => .ok (.own true (.lst acc)) S2) Q, fun H' h => ⟨es.length - (j + 1), by omega, rfl, hl6, h⟩, fun x H7 y => ?_⟩
              obtain ⟨sm7, rp7⟩ := yl6 x H7 y
              have st7 := st6.trans (Stay.of_same sm7)
              have I8 : EnvD X.K X.mg { F with pr := (D, .lst acV) :: F.pr } (wipe σ4 vs1) H7 (wipeS T vs1) := (K6.same sm7).shield (sm7 _ _ hD6) na6
              have r7 := r6.stay (Stay.of_same sm7) _ _
              cases e4 : tgt1 es[j] (wipeS T vs1) with
              | none =>
                simp only [e4] at o7
                exact o7.elim
              | some T2 =>
                simp only [e4] at o7
                refine ⟨{ F with pr := (D, .lst acV) :: F.pr }, es[j], wipeS T vs1, T2, I8, rp7, e4, fun σ8 I9 a8 l8 => ?_⟩
                have ew8 : wipe σ8 vs1 = wipe σ4 vs1 := (wipe_eq l8 (a8.sub hts1)).trans wipe_wipe
                refine ⟨ew8, { F with pr := (D, .lst acV) :: F.pr }, T2, I9, ?_⟩
                cases e5 : test1 T2 with
                | bad =>
                  simp only [e5] at o7
                  exact o7
                | exc x T3 =>
                  simp only [e5] at o7
                  exact o7.elim
                | ok b T3 =>
                  intro b' H8 I10 eb s8
                  have eb' : b = b' := eb
                  subst eb'
                  cases b with
                  | false =>
                    simp only [e5] at o7
                    refine iteF ?_
                    obtain ⟨J5, h5, n5⟩ := (I10.wipe vs1).unshield
                    rw [ew8] at J5 n5
                    exact ⟨st7.trans s8, T3, ac, acV, J5, h5, r7.stay s8 _ _, n5, o7⟩
                  | true =>
                    simp only [e5] at o7
                    refine iteT ⟨{ F with pr := (D, .lst acV) :: F.pr }, T3, I10, ?_⟩
                    cases e6 : elt T3 with
                    | bad =>
                      simp only [e6] at o7
                      exact o7
                    | exc x T4 =>
                      simp only [e6] at o7
                      exact o7.elim
                    | ok yd T4 =>
                      simp only [e6] at o7
                      intro yv H9 I11 ry s9
                      by_cases hz : Fits ac.length
                      · rw [if_pos hz] at o7
                        obtain ⟨J5, h5, n5⟩ := (I11.wipe vs1).unshield
                        rw [ew8] at J5 n5
                        have r9 := (r7.stay s8 _ _).stay s9 _ _
                        have st10 := stay_upd (u := .lst (acV ++ [yv])) h5 True.intro
                        refine ⟨acV, h5, by rw [r9.len]; exact hz.lt, ((st7.trans s8).trans s9).trans st10, T4, ac ++ [yd], acV ++ [yv], J5.poke h5 True.intro n5 hF0 hFp, upd_same, ?_, n5, o7⟩
                        exact Reps.app (r9.stay st10 _ _) (Reps.cons (Rep.stay st10 _ _ ry) Reps.nil)
                      · rw [if_neg hz] at o7
                        exact o7.elim
            · left
              have e : j = es.length := by omega
              subst e
              rw [List.drop_length] at o6
              have o7 : OutG X.K X.mg F W (RE X.K X.mg F) σ H1 ((comp2G tgt test src1 tgt1 test1 elt vs vs1 (ds.drop (i + 1)) ac (wipeS (wipeS T vs1) vs)).bind fun acc S2 => .ok (.own true (.lst acc)) S2) Q := o6
              have ww : wipe (wipe σ4 vs1) vs = wipe σ vs := (wipe_eq (wipe_length σ4 vs1) fun j hj => wipe_out fun z => hj (hv j z)).trans ew
              have K7 := K6.wipe vs
              rw [ww] at K7
              refine ⟨(J3 _ H6 st6).2 (Nat.le_refl _), (((st3.trans s4).trans s5).trans st6), wipeS T vs1, ac, acV, K7, hD6, r6, fun j' b c e => ?_, o7⟩
              have nj := noS e
              have e' : (wipeS T vs1)[j']? = some (.own b c) := by
                rw [wipeS_out nj] at e
                exact e
              have z := na6 j' b c e'
              rw [← ww, wipe_out nj]
              exact z
  · left
    have e : i = ds.length := by omega
    subst e
    rw [List.drop_length] at o
    refine ⟨(J1 _ H2 st).2 (Nat.le_refl _), o _ H2 (I.rewipe (wipe_length σ vs).symm fun j hj => (wipe_out hj).symm) ⟨rfl, D, _, rfl, hHD, ⟨accV, rfl, racc⟩, hF0, hFp, fun j b c e => ?_⟩ st⟩
    rw [← wipe_out (noS e)]
    exact na j b c e
theorem pd_lc2 {src : GI} {tgt : GTg} {test : GT} {src1 : GI} {tgt1 : GTg} {test1 : GT} {elt : GV} {ts ts1 vs1 : List Nat} {tg iter tg1 iter1 el : Expr} {ifs ifs1 : List Expr} {scope : Scope} {own : List (Str × Nat)} {pos : Pos} {k : Nat} (hts : ∀ j ∈ ts, j ∈ own.map (·.2)) (hts1 : ∀ j ∈ ts1, j ∈ vs1) (hv : ∀ j ∈ vs1, j ∈ own.map (·.2))
    (bc : BC X W k) (hi : PId X F W tg iter src) (ok : BlkOk X.N X.env.scope scope own)
    (hg : ∀ (s : Shared) (H : Hp) (C : Addr) (cl : List (Str × Addr)) (fp : List Addr) (F : Fx), PGD (X.blk s H scope (compEnvC scope cl C X.env) fp) F ts tg tgt)
    (ht : ∀ (s : Shared) (H : Hp) (C : Addr) (cl : List (Str × Addr)) (fp : List Addr) (F : Fx), BC (X.blk s H scope (compEnvC scope cl C X.env) fp) W0 k → PBs (X.blk s H scope (compEnvC scope cl C X.env) fp) F W0 ifs test)
    (hi1 : ∀ (s : Shared) (H : Hp) (C : Addr) (cl : List (Str × Addr)) (fp : List Addr) (F : Fx), BC (X.blk s H scope (compEnvC scope cl C X.env) fp) W0 k → PId (X.blk s H scope (compEnvC scope cl C X.env) fp) F W0 tg1 iter1 src1)
    (hg1 : ∀ (s : Shared) (H : Hp) (C : Addr) (cl : List (Str × Addr)) (fp : List Addr) (F : Fx), PGD (X.blk s H scope (compEnvC scope cl C X.env) fp) F ts1 tg1 tgt1)
    (ht1 : ∀ (s : Shared) (H : Hp) (C : Addr) (cl : List (Str × Addr)) (fp : List Addr) (F : Fx), BC (X.blk s H scope (compEnvC scope cl C X.env) fp) W0 k → PBs (X.blk s H scope (compEnvC scope cl C X.env) fp) F W0 ifs1 test1)
    (he : ∀ (s : Shared) (H : Hp) (C : Addr) (cl : List (Str × Addr)) (fp : List Addr) (F : Fx), BC (X.blk s H scope (compEnvC scope cl C X.env) fp) W0 k → PV (X.blk s H scope (compEnvC scope cl C X.env) fp) F W0 el elt) (hs : ∀ x, foldedSetIterable iter X.env x = pure x := by intro _; rfl) (hs1 : ∀ env x, foldedSetIterable iter1 env x = pure x := by intro _ _; rfl) :
    PD X F W (.ListComp el [⟨tg, iter, ifs, 0⟩, ⟨tg1, iter1, ifs1, 0⟩] scope pos) (gComp2 src tgt test src1 tgt1 test1 elt (own.map (·.2)) vs1) :=
  have bcb : ∀ (s : Shared) (H : Hp) (C : Addr) (cl : List (Str × Addr)) (fp : List Addr), BC (X.blk s H scope (compEnvC scope cl C X.env) fp) W0 k := fun s H C cl fp => ⟨bc.hr, bc.calm, takes0, bc.nd, PassesOwn.never⟩
  ⟨(pe_lc2 bc.calm bc.nd hi.pi ok hv (fun s H C cl fp => pg_ex fun F => (hg s H C cl fp F).pg) (fun s H C cl fp => pts_ex fun F => (ht s H C cl fp F (bcb s H C cl fp)).pt)
    (fun s H C cl fp => pi_ex fun F => (hi1 s H C cl fp F (bcb s H C cl fp)).pi) (fun s H C cl fp => pg_ex fun F => (hg1 s H C cl fp F).pg) (fun s H C cl fp => pts_ex fun F => (ht1 s H C cl fp F (bcb s H C cl fp)).pt)
    (fun s H C cl fp => pe_ex fun F => (he s H C cl fp F (bcb s H C cl fp)).pe) hs hs1).imp
    fun σ H Q q => lc2_imp hts hts1 hv q⟩
end
end Pd
end PdZ_text

section PdZA_text
set_option maxHeartbeats 4000000
/-! lists that change, targets of several names, dicts, constants of the text, methods -/
namespace Pd
open PySem PySem.Spec PyProof.Rows L2
section
variable {X : Cx} {F : Fx} {W : WX}
def isOwnL (S : List SV) (i : Nat) : Bool := match S[i]? with
  | some (.own _ (.lst _)) => true
  | _ => false
/-- x.append(e) -/
def gAppend (i : Nat) (g : GV) : GS := fun S => if isOwnL S i then (g S).st fun d S1 => match S1[i]? with
  | some (.own b (.lst xs)) => if Fits xs.length then .nx (S1.set i (.own b (.lst (xs ++ [d])))) else .bad
  | _ => .bad
  else .bad
theorem isOwnL_of {S : List SV} {i : Nat} (h : isOwnL S i = true) : ∃ b xs, S[i]? = some (.own b (.lst xs)) := by
  unfold isOwnL at h
  split at h
  · exact ⟨_, _, by assumption⟩
  · cases h
theorem ps_appendD {i : Nat} {x : Str} {e : Expr} {g : GV} {nm ap cp pos : Pos} (hx : PE X (.Name x nm) (tVar i)) (h : PV X F W e g)
    (hbase : attributeBase (.Name x nm) "append" X.env (eval (.Name x nm) X.env) = eval (.Name x nm) X.env := by rfl)
    (hfew : ((backTo cp (starEach [e] X.env)).all (fun x => !x.1) && (backToKw cp (keywordEach [] X.env)).all (fun x => x.1.isSome)
      && decide (([e] : List Expr).length + ([] : List Keyword).length + (if ([] : List Keyword).isEmpty then 0 else 1) < 30)) = true := by rfl)
    (hline : (ap.endLine == cp.line) = true := by rfl) (hs : starEach [e] X.env = (false, eval e X.env) :: starEach [] X.env := by rfl) (hplain : (backTo cp (starEach [] X.env)).any (·.1) = false := by rfl)
    (hsw : swapsWith (.Call (.Attribute (.Name x nm) "append" ap) [e] [] cp) none pos.line X.env = pure false := by rfl) :
    PSD X F W [] (.Expr (.Call (.Attribute (.Name x nm) "append" ap) [e] [] cp) pos) (gAppend i g) := by
  refine ⟨(L2.ps_expr (pe_bm PySem.F.plainAttrs_list PySem.F.slot_list_append PySem.F.type_list_append mt_append hx (L2.pa_cons h.pe L2.pa_nil hs) hbase hfew hline hs hplain) hsw).imp fun D σ H ⟨S, I, q⟩ => ?_⟩
  have q' : OutS X.K X.mg F W [] σ H (gAppend i g S) D := q
  unfold gAppend at q'
  by_cases ho : isOwnL S i = true
  · rw [if_pos ho] at q'
    obtain ⟨b0, xs0, e0⟩ := isOwnL_of ho
    obtain ⟨a, ho0, ex, ea, vs0, rfl, _⟩ := I.own e0
    refine ⟨.ref a, ex, .inl ⟨rfl, vs0, SqL.of ea⟩, ?_⟩
    have tg : tG X.K X.mg F W (RD X.K X.mg) g σ H (fun d H1 => rAppend (.ref a) [d] H1 fun v H2 => D.nx σ H2) := by
      refine tS.expr (g := g) (m := []) (f := fun d S1 => match S1[i]? with
        | some (.own b (.lst xs)) => if Fits xs.length then .nx (S1.set i (.own b (.lst (xs ++ [d])))) else .bad
        | _ => .bad) ⟨S, I, q'⟩ fun d S1 v H1 I1 r s z => ?_
      cases e1 : S1[i]? with
      | none =>
        simp only [e1] at z
        exact z.elim
      | some sv =>
        cases sv with
        | own b c =>
          cases c with
          | lst xs =>
            simp only [e1] at z
            obtain ⟨a', ho', ex', ea', vs, rfl, rr⟩ := I1.own e1
            have eaa : a' = a := by
              rw [ex] at ex'
              exact (V.ref.inj (Option.some.inj (Option.some.inj ex'))).symm
            subst eaa
            by_cases hz : Fits xs.length
            · rw [if_pos hz] at z
              have st := stay_upd (u := .lst (vs ++ [v])) ea' True.intro
              exact ⟨a', vs, v, rfl, rfl, ea', by rw [rr.len]; exact hz.lt, z σ _ (I1.write e1 ex' ea' True.intro ⟨vs ++ [v], rfl, rr.app (Reps.cons r Reps.nil)⟩) Agr.refl st⟩
            · rw [if_neg hz] at z
              exact z.elim
          | _ =>
            simp only [e1] at z
            exact z.elim
        | _ =>
          simp only [e1] at z
          exact z.elim
    exact tg
  · rw [if_neg ho] at q'
    exact q'.elim
/-- x[i] = e -/
def gSetIx (i : Nat) (g : GV) (h : GO) : GS := fun S => (g S).st fun d S1 => if isOwnL S1 i then (h S1).st fun o S2 => match S2[i]?, o.get S2 with
  | some (.own b (.lst xs)), some (.int k) => (match ixN xs.length k with
    | some j => .nx (S2.set i (.own b (.lst (xs.set j d))))
    | none => .bad)
  | _, _ => .bad
  else .bad
theorem ps_setIxD {i : Nat} {x : Str} {e ix : Expr} {g : GV} {h : GO} {nm sp pos : Pos} (hx : PE X (.Name x nm) (tVar i)) (he : PV X F W e g) (hi : PO X F W ix h)
    (ha : ∀ v, assign (.Subscript (.Name x nm) ix sp) X.env v = (do
      let ov ← holding [v] (eval (.Name x nm) X.env)
      let iv ← holding [v, ov] (eval ix X.env)
      standAt sp
      holding [v, ov, iv] (setItem ov iv v)
      release [v, ov, iv] []) := by intro _; rfl)
    (hs : swapsWithSole [.Subscript (.Name x nm) ix sp] e pos.line X.env = pure false := by rfl) (hw : swappedStores [.Subscript (.Name x nm) ix sp] e X.env = pure none := by rfl)
    (h1 : (assignEach [.Subscript (.Name x nm) ix sp] X.env).map (·.2) = [assign (.Subscript (.Name x nm) ix sp) X.env] := by rfl) :
    PSD X F W [] (.Assign [.Subscript (.Name x nm) ix sp] e pos) (gSetIx i g h) := by
  refine ⟨(ps_asg he.pe (pg_sub hx hi.pe set_list ha) hs hw h1).imp fun D σ H q => tS.expr (g := g) q fun d S1 v H1 I1 r s z => ?_⟩
  by_cases ho : isOwnL S1 i = true
  · rw [if_pos ho] at z
    obtain ⟨b0, xs0, e0⟩ := isOwnL_of ho
    obtain ⟨a, ho0, ex, ea, vs0, rfl, _⟩ := I1.own e0
    refine ⟨.ref a, ex, ?_⟩
    have z' : tS X.K X.mg F W [] (fun S1 => (h S1).st fun o S2 => match S2[i]?, o.get S2 with
      | some (.own b (.lst xs)), some (.int k) => (match ixN xs.length k with
        | some j => .nx (S2.set i (.own b (.lst (xs.set j d))))
        | none => .bad)
      | _, _ => .bad) D σ H1 := ⟨S1, I1, z⟩
    have tg : tG X.K X.mg F W (RO X.K X.mg) h σ H1 (fun iv H2 => rSetL (.ref a) iv v H2 fun H3 => D.nx σ H3) := by
      refine tS.expr z' fun o S2 u H2 I2 r2 s2 y => ?_
      cases e1 : S2[i]? with
      | none =>
        simp only [e1] at y
        exact y.elim
      | some sv =>
        cases sv with
        | own b c =>
          cases c with
          | lst xs =>
            cases e2 : o.get S2 with
            | none =>
              simp only [e1, e2] at y
              exact y.elim
            | some dk =>
              cases dk with
              | int k =>
                simp only [e1, e2] at y
                have ru := RO.unf I2 r2 e2
                cases ru.int
                obtain ⟨a', ho', ex', ea', vs, rfl, rr⟩ := I2.own e1
                have eaa : a' = a := by
                  rw [ex] at ex'
                  exact (V.ref.inj (Option.some.inj (Option.some.inj ex'))).symm
                subst eaa
                cases e3 : ixN xs.length k with
                | none =>
                  simp only [e3] at y
                  exact y.elim
                | some j =>
                  simp only [e3] at y
                  have rv := r.stay s2 _ _
                  have st := stay_upd (u := .lst (vs.set j v)) ea' True.intro
                  exact ⟨a', vs, k, j, rfl, rfl, ea', by rw [rr.len]; exact e3, y σ _ (I2.write e1 ex' ea' True.intro ⟨vs.set j v, rfl, rr.set j rv⟩) Agr.refl st⟩
              | _ =>
                simp only [e1, e2] at y
                exact y.elim
          | _ =>
            simp only [e1] at y
            exact y.elim
        | _ =>
          simp only [e1] at y
          exact y.elim
    exact tg
  · rw [if_neg ho] at z
    exact z.elim
/-- a, b = e -/
def gSetT (g : GV) (f : GTg) : GS := fun S => (g S).st fun d S1 => match f d S1 with
  | some S2 => .nx S2
  | none => .bad
theorem ps_setTD {ts : List Nat} {tg e : Expr} {g : GV} {f : GTg} {pos : Pos} (he : PV X F W e g) (ht : PGD X F ts tg f) (hs : swapsWithSole [tg] e pos.line X.env = pure false := by rfl) (hw : swappedStores [tg] e X.env = pure none := by rfl)
    (h1 : (assignEach [tg] X.env).map (·.2) = [assign tg X.env] := by rfl) : PSD X F W ts (.Assign [tg] e pos) (gSetT g f) := by
  refine ⟨(ps_asg he.pe ht.pg hs hw h1).imp fun D σ H q => tS.expr (g := g) q fun d S1 v H1 I1 r s z => ?_⟩
  cases e1 : f d S1 with
  | none =>
    simp only [e1] at z
    exact z.elim
  | some S2 =>
    simp only [e1] at z
    exact ⟨d, S1, S2, I1, r, e1, fun σ' I' a l => z σ' H1 I' a (Stay.refl _)⟩
/-- x.bit_length() -/
def fBits : D → Option SV
  | .int i => some (.dat (.int (Builtin.Int.intBits i : Nat)))
  | _ => none
theorem pd_bits {o : Expr} {g : GO} {apos pos : Pos} (ho : PO X F W o g) (hbase : attributeBase o "bit_length" X.env (eval o X.env) = eval o X.env := by rfl) (hline : (apos.endLine == pos.line) = true := by rfl) :
    PD X F W (.Call (.Attribute o "bit_length" apos) [] [] pos) (gUn fBits g) := by
  have hf : UnD X.K X.mg (fun x H Q => ∃ i, x = .int i ∧ Q (.int (Builtin.Int.intBits i : Nat)) H) fBits := by
    intro H x d sv Q r e q
    cases d <;> first | (cases e; done) | skip
    cases r.int
    cases e
    exact ⟨_, rfl, q _ H (fun _ _ h => h) rfl⟩
  exact ⟨(pe_bits ho.pe hbase hline).imp fun σ H Q q => un_imp hf q⟩
/-- x.count(y), texts -/
def fCount : D → D → Option SV
  | .str x, .str y => some (.dat (.int (Txt.count x y)))
  | _, _ => none
def isStr : Option D → Bool
  | some (.str _) => true
  | _ => false
def gMeth1 (f : D → D → Option SV) (ga gb : GO) : GE := fun S => (ga S).bind fun o1 S1 => if isStr (o1.get S1) then (gb S1).bind fun o2 S2 => match o1.get S2, o2.get S2 with
  | some d1, some d2 => (match f d1 d2 with
    | some sv => .ok sv S2
    | none => .bad)
  | _, _ => .bad
  else .bad
theorem pd_count {o e : Expr} {ga gb : GO} {ap cp : Pos} (ho : PO X F W o ga) (he : PO X F W e gb)
    (hbase : attributeBase o "count" X.env (eval o X.env) = eval o X.env := by rfl)
    (hfew : ((backTo cp (starEach [e] X.env)).all (fun x => !x.1) && (backToKw cp (keywordEach [] X.env)).all (fun x => x.1.isSome)
      && decide (([e] : List Expr).length + ([] : List Keyword).length + (if ([] : List Keyword).isEmpty then 0 else 1) < 30)) = true := by rfl)
    (hline : (ap.endLine == cp.line) = true := by rfl) (hs : starEach [e] X.env = (false, eval e X.env) :: starEach [] X.env := by rfl) (hplain : (backTo cp (starEach [] X.env)).any (·.1) = false := by rfl) :
    PD X F W (.Call (.Attribute o "count" ap) [e] [] cp) (gMeth1 fCount ga gb) := by
  refine ⟨(pe_bm PySem.F.plainAttrs_str PySem.F.slot_str_count PySem.F.type_str_count mt_count ho.pe (L2.pa_cons he.pe L2.pa_nil hs) hbase hfew hline hs hplain).imp fun σ H Q q => ?_⟩
  refine tG.bind q fun o1 S1 x H1 I1 r1 s1 k => ?_
  by_cases hstr : isStr (o1.get S1) = true
  · rw [if_pos hstr] at k
    obtain ⟨z, ez⟩ : ∃ z, o1.get S1 = some (.str z) := by
      unfold isStr at hstr
      split at hstr
      · exact ⟨_, by assumption⟩
      · cases hstr
    have rz := RO.unf I1 r1 ez
    cases rz.str
    refine ⟨rfl, ?_⟩
    have k' : tG X.K X.mg F W (RE X.K X.mg F) (fun S1 => (gb S1).bind fun o2 S2 => match o1.get S2, o2.get S2 with
      | some d1, some d2 => (match fCount d1 d2 with
        | some sv => .ok sv S2
        | none => .bad)
      | _, _ => .bad) σ H1 Q := ⟨S1, I1, k⟩
    have tg : tG X.K X.mg F W (RO X.K X.mg) gb σ H1 (fun y H2 => ∃ a b, V.str z = .str a ∧ [y] = [.str b] ∧ Q (.int (Txt.count a b)) H2) := by
      refine tG.bind k' fun o2 S2 y H2 I2 r2 s2 w => ?_
      cases e1 : o1.get S2 with
      | none =>
        simp only [e1] at w
        exact w.elim
      | some d1 =>
        cases e2 : o2.get S2 with
        | none =>
          simp only [e1, e2] at w
          exact w.elim
        | some d2 =>
          simp only [e1, e2] at w
          have u1 := RO.unf I2 (RO.stay (S' := S2) s2 r1) e1
          have u2 := RO.unf I2 r2 e2
          cases d1 <;> first | exact w.elim | skip
          cases d2 <;> first | exact w.elim | skip
          have e3 := u1.str
          cases e3
          cases u2.str
          exact ⟨_, _, rfl, rfl, w.ok (R := RE X.K X.mg F) I2 rfl⟩
    exact tg
  · rw [if_neg hstr] at k
    exact k.elim
/-! ### constants of the text -/
def CN (K : PySem.W.Frag) (mg : Str → Option Value) (x : Str) (d : D) : Prop := ∃ u v, mg x = some u ∧ RelV v u ∧ ∀ H, Rep K mg H d v
theorem pv_cn {x : Str} {d : D} {pos : Pos} (h : CN X.K X.mg x d) (hg : Gl X x) (hd : (x == ("__debug__" : Str)) = false := by decide) : PV X F W (.Name x pos) (gC d) := by
  obtain ⟨u, v, hm, r, q⟩ := h
  exact pv_c (pe_glob hg hm r hd) q
/-- a dict of the text with texts as keys -/
structure KTab (K : PySem.W.Frag) (mg : Str → Option Value) (w : World) (x : Str) (tab : Str → Option D) : Prop where
  ex : ∃ d es n, mg x = some (.ref d) ∧ KDict K w d es n ∧ ∀ z, match tab z with
    | none => PySem.W.nsIn K d z = some none
    | some dv => ∃ u v, PySem.W.nsIn K d z = some (some u) ∧ RelV v u ∧ ∀ H, Rep K mg H dv v
theorem KTab.cn {K : PySem.W.Frag} {mg : Str → Option Value} {w : World} {x : Str} {tab : Str → Option D} (T : KTab K mg w x tab) : CN K mg x (.fn x) := by
  obtain ⟨d, es, n, hm, _⟩ := T.ex
  exact ⟨.ref d, .ref d, hm, rfl, fun _ => ⟨d, rfl, hm⟩⟩
def fInK (x : Str) (tab : Str → Option D) (neg : Bool) : D → D → Option SV
  | .str z, .fn n => if n = x then some (.dat (.bl (neg ^^ (tab z).isSome))) else none
  | _, _ => none
def fIxK (x : Str) (tab : Str → Option D) : D → D → Option SV
  | .fn n, .str z => if n = x then (match tab z with
    | some d => some (.dat d)
    | none => none) else none
  | _, _ => none
theorem inK_ok {x : Str} {tab : Str → Option D} (T : KTab X.K X.mg X.w x tab) : ∃ r r', OpR X (compareOp .In) r ∧ OpD X.K X.mg r (fInK x tab false) ∧ OpR X (compareOp .NotIn) r' ∧ OpD X.K X.mg r' (fInK x tab true) := by
  obtain ⟨d, es, n, hm, D, ht⟩ := T.ex
  refine ⟨_, _, op_in_kd D, ?_, op_notIn_kd D, ?_⟩ <;>
  · intro H a b d1 d2 sv Q r1 r2 e q
    cases d1 <;> first | (cases e; done) | skip
    cases d2 <;> first | (cases e; done) | skip
    rename_i z nn
    simp only [fInK] at e
    split at e
    · rename_i hn
      subst hn
      cases e
      cases r1.str
      have er2 : b = .ref d := by
        rcases r2 with ⟨f, rfl, hf⟩ | ⟨c, _, _, e1, _⟩
        · rw [hm] at hf
          cases hf
          rfl
        · cases c <;> cases e1
      subst er2
      have hz := ht z
      cases e1 : tab z with
      | none =>
        rw [e1] at hz q
        exact ⟨z, none, rfl, rfl, hz, q _ H (fun _ _ h => h) rfl⟩
      | some dv =>
        rw [e1] at hz q
        obtain ⟨u, v, hu, _⟩ := hz
        exact ⟨z, some u, rfl, rfl, hu, q _ H (fun _ _ h => h) rfl⟩
    · cases e
section
variable {x : Str} {tab : Str → Option D} {a b : Expr} {ga gb : GO} {pos : Pos}
theorem pd_inK (T : KTab X.K X.mg X.w x tab) (ha : PO X F W a ga) (hb : PO X F W b gb) (hm : behindInMarks .In b = false) : PD X F W (.Compare a [.In] [b] pos) (gBin (fInK x tab false) ga gb) := by
  obtain ⟨r, r', h1, h2, h3, h4⟩ := inK_ok T
  exact pd_cmp h1 h2 ha hb hm
theorem pd_notInK (T : KTab X.K X.mg X.w x tab) (ha : PO X F W a ga) (hb : PO X F W b gb) (hm : behindInMarks .NotIn b = false) : PD X F W (.Compare a [.NotIn] [b] pos) (gBin (fInK x tab true) ga gb) := by
  obtain ⟨r, r', h1, h2, h3, h4⟩ := inK_ok T
  exact pd_cmp h3 h4 ha hb hm
theorem pb_inK (T : KTab X.K X.mg X.w x tab) (ha : PO X F W a ga) (hb : PO X F W b gb) (hm : behindInMarks .In b = false) : PB X F W (.Compare a [.In] [b] pos) (gB (gBin (fInK x tab false) ga gb)) := by
  obtain ⟨r, r', h1, h2, h3, h4⟩ := inK_ok T
  exact pb_cmp h1 h2 ha hb hm
theorem pb_notInK (T : KTab X.K X.mg X.w x tab) (ha : PO X F W a ga) (hb : PO X F W b gb) (hm : behindInMarks .NotIn b = false) : PB X F W (.Compare a [.NotIn] [b] pos) (gB (gBin (fInK x tab true) ga gb)) := by
  obtain ⟨r, r', h1, h2, h3, h4⟩ := inK_ok T
  exact pb_cmp h3 h4 ha hb hm
theorem pd_ixK (T : KTab X.K X.mg X.w x tab) (ha : PO X F W a ga) (hb : PO X F W b gb) (hs : PlainIx b) : PD X F W (.Subscript a b pos) (gBin (fIxK x tab) ga gb) := by
  obtain ⟨d, es, n, hm, D, ht⟩ := T.ex
  refine pd_ix ix_kdict ?_ ha hb hs
  intro H a b d1 d2 sv Q r1 r2 e q
  cases d1 <;> first | (cases e; done) | skip
  cases d2 <;> first | (cases e; done) | skip
  rename_i nn z
  simp only [fIxK] at e
  split at e
  · rename_i hn
    subst hn
    have er2 : a = .ref d := by
      rcases r1 with ⟨f, rfl, hf⟩ | ⟨c, _, _, e1, _⟩
      · rw [hm] at hf
        cases hf
        rfl
      · cases c <;> cases e1
    subst er2
    cases r2.str
    have hz := ht z
    cases e1 : tab z with
    | none =>
      rw [e1] at e
      cases e
    | some dv =>
      rw [e1] at hz e
      cases e
      obtain ⟨u, v, hu, ru, rep⟩ := hz
      exact ⟨d, z, v, rfl, rfl, ⟨es, n, u, D.at_, D.lit, hu, ru⟩, q _ H (fun _ _ h => h) (rep H)⟩
  · cases e
end
end
end Pd
end PdZA_text

section PdZB_text
set_option maxHeartbeats 4000000
/-! dicts that are made here -/
namespace Pd
open PySem PySem.Spec PyProof.Rows L2
def D.key : D → Option Key
  | .int i => some (.inl i)
  | .str x => some (.inr x)
  | _ => none
def kGet : List Key → List D → Key → Option D
  | k :: ks, x :: xs, j => if k = j then some x else kGet ks xs j
  | _, _, _ => none
section
variable {K : PySem.W.Frag} {mg : Str → Option Value} {H : Hp}
theorem RepU.key {d : D} {v : V} {k : Key} (r : RepU K mg H d v) (e : d.key = some k) : v = kV k := by
  cases d <;> first | (cases e; done) | skip
  · cases e
    exact r.int
  · cases e
    exact r.str
theorem RepU.dic {ks : List Key} {xs : List D} {v : V} (r : RepU K mg H (.dic ks xs) v) : ∃ a vs, v = .ref a ∧ Rd H a (.dK (ks.zip vs)) ∧ ks.length = vs.length ∧ Reps K mg H xs vs := by
  rcases r with ⟨a, vs, o, rfl, ea, hl, rr⟩ | ⟨c, a, ho, e1, rfl, ea, r2⟩
  · exact ⟨a, vs, rfl, .inr ⟨o, ea⟩, hl, rr⟩
  · cases c <;> cases e1
    obtain ⟨vs, rfl, hl, rr⟩ := r2
    exact ⟨a, vs, rfl, .inl ea, hl, rr⟩
theorem kGet_val {k : Key} : ∀ {ks : List Key} {xs : List D} {vs : List V}, Reps K mg H xs vs → ks.length = vs.length → match kGet ks xs k with
    | some d => ∃ v, valV (ks.zip vs) k = some v ∧ Rep K mg H d v
    | none => valV (ks.zip vs) k = none
  | [], xs, vs, r, _ => by
    cases xs <;> exact rfl
  | j :: ks, [], vs, r, l => by
    cases (show vs = [] from r)
    cases l
  | j :: ks, x :: xs, vs, r, l => by
    obtain ⟨v, w, rfl, r1, r2⟩ := r
    have ih := kGet_val (k := k) (ks := ks) r2 (Nat.succ.inj l)
    unfold kGet
    rw [List.zip_cons_cons]
    by_cases h : j = k
    · rw [if_pos h, valV_pos (p := (j, v)) h]
      exact ⟨v, rfl, r1⟩
    · rw [if_neg h, valV_neg (p := (j, v)) h]
      exact ih
def fInDk (neg : Bool) (a b : D) : Option SV := match a.key, b with
  | some k, .dic ks xs => some (.dat (.bl (neg ^^ (kGet ks xs k).isSome)))
  | _, _ => none
def fIxDk (a b : D) : Option SV := match a, b.key with
  | .dic ks xs, some k => (match kGet ks xs k with
    | some d => some (.dat d)
    | none => none)
  | _, _ => none
def rInDk : R2 := fun x y H Q => ∃ a o, y = .ref a ∧ DGet H a x o ∧ Q (.bl o.isSome) H
def rNotInDk : R2 := fun x y H Q => ∃ a o, y = .ref a ∧ DGet H a x o ∧ Q (.bl (!o.isSome)) H
def rIxDk : R2 := fun x y H Q => ∃ a v, x = .ref a ∧ DGet H a y (some v) ∧ Q v H
theorem op_inDk {X : Cx} (hu : X.A.units + 1 < cLine) : OpR X (compareOp .In) rInDk := by
  intro pins s σ H x y v u Q I rx ry h
  obtain ⟨a, o, rfl, g, q⟩ := h
  obtain rfl : u = Value.ref a := ry
  exact d_in hu I g rx fun s' I' => ⟨.bl _, H, I', rfl, q⟩
theorem op_notInDk {X : Cx} (hu : X.A.units + 1 < cLine) : OpR X (compareOp .NotIn) rNotInDk := by
  intro pins s σ H x y v u Q I rx ry h
  obtain ⟨a, o, rfl, g, q⟩ := h
  obtain rfl : u = Value.ref a := ry
  exact d_notIn hu I g rx fun s' I' => ⟨.bl _, H, I', rfl, q⟩
theorem ix_Dk {X : Cx} (hu : X.A.units + 1 < cLine) : IxR X rIxDk := by
  intro value slice pins s σ H x y v u Q I rx ry h hs
  obtain ⟨a, w', rfl, g, q⟩ := h
  obtain rfl : v = Value.ref a := rx
  exact tail_any (dict_typeIs I g) PySem.F.slot_dict_getitem.lookup (d_getItem hu I g ry fun z s' I' r' => ⟨w', H, I', r', q⟩) hs
theorem dk_some {a b : D} {neg : Bool} {sv : SV} (e : fInDk neg a b = some sv) : ∃ k ks xs, a.key = some k ∧ b = .dic ks xs ∧ sv = .dat (.bl (neg ^^ (kGet ks xs k).isSome)) := by
  unfold fInDk at e
  split at e
  · rename_i h
    cases e
    exact ⟨_, _, _, h, rfl, rfl⟩
  · cases e
theorem od_inDk : OpD K mg rInDk (fInDk false) := by
  intro H x y d1 d2 sv Q r1 r2 e q
  obtain ⟨k, ks, xs, h1, rfl, rfl⟩ := dk_some e
  obtain ⟨a, vs, rfl, rd, hl, rr⟩ := r2.dic
  cases r1.key h1
  have z := kGet_val (k := k) rr hl
  have q' := q (.bl (valV (ks.zip vs) k).isSome) H (fun _ _ h => h)
  refine ⟨a, _, rfl, .inl ⟨_, k, rd, rfl, rfl⟩, q' ?_⟩
  cases e1 : kGet ks xs k with
  | none =>
    rw [e1] at z
    rw [z]
    exact rfl
  | some d =>
    rw [e1] at z
    obtain ⟨v, e2, _⟩ := z
    rw [e2]
    exact rfl
theorem od_notInDk : OpD K mg rNotInDk (fInDk true) := by
  intro H x y d1 d2 sv Q r1 r2 e q
  obtain ⟨k, ks, xs, h1, rfl, rfl⟩ := dk_some e
  obtain ⟨a, vs, rfl, rd, hl, rr⟩ := r2.dic
  cases r1.key h1
  have z := kGet_val (k := k) rr hl
  have q' := q (.bl (!(valV (ks.zip vs) k).isSome)) H (fun _ _ h => h)
  refine ⟨a, _, rfl, .inl ⟨_, k, rd, rfl, rfl⟩, q' ?_⟩
  cases e1 : kGet ks xs k with
  | none =>
    rw [e1] at z
    rw [z]
    exact rfl
  | some d =>
    rw [e1] at z
    obtain ⟨v, e2, _⟩ := z
    rw [e2]
    exact rfl
theorem od_ixDk : OpD K mg rIxDk fIxDk := by
  intro H x y d1 d2 sv Q r1 r2 e q
  unfold fIxDk at e
  split at e
  · rename_i ks xs k h
    obtain ⟨a, vs, rfl, rd, hl, rr⟩ := r1.dic
    cases r2.key h
    have z := kGet_val (k := k) rr hl
    cases e1 : kGet ks xs k with
    | none =>
      rw [e1] at e
      cases e
    | some d =>
      rw [e1] at e z
      cases e
      obtain ⟨v, e2, rv⟩ := z
      exact ⟨a, v, rfl, .inl ⟨_, k, rd, rfl, e2.symm⟩, q v H (fun _ _ h => h) rv⟩
  · cases e
def fInU (neg : Bool) (a b : D) : Option SV := (fIn neg a b).or (fInDk neg a b)
def fIxU (a b : D) : Option SV := (fIx a b).or (fIxDk a b)
end
theorem BC.hu65 {X : Cx} {W : WX} {k : Nat} (c : BC X W k) : X.A.units + 65 < cLine := by
  have := c.hr.un
  omega
theorem BC.hu1 {X : Cx} {W : WX} {k : Nat} (c : BC X W k) : X.A.units + 1 < cLine := by
  have := c.hr.un
  omega
section
variable {X : Cx} {F : Fx} {W : WX} {k : Nat} {a b : Expr} {ga gb : GO} {pos : Pos}
theorem pd_in (c : BC X W k) (ha : PO X F W a ga) (hb : PO X F W b gb) (hm : behindInMarks .In b = false) : PD X F W (.Compare a [.In] [b] pos) (gBin (fInU false) ga gb) :=
  pd_cmp (orOp (op_inA c.hu65) (op_inDk c.hu1)) (od_in.or od_inDk) ha hb hm
theorem pd_notIn (c : BC X W k) (ha : PO X F W a ga) (hb : PO X F W b gb) (hm : behindInMarks .NotIn b = false) : PD X F W (.Compare a [.NotIn] [b] pos) (gBin (fInU true) ga gb) :=
  pd_cmp (orOp (op_notInA c.hu65) (op_notInDk c.hu1)) (od_in.or od_notInDk) ha hb hm
theorem pb_in (c : BC X W k) (ha : PO X F W a ga) (hb : PO X F W b gb) (hm : behindInMarks .In b = false) : PB X F W (.Compare a [.In] [b] pos) (gB (gBin (fInU false) ga gb)) :=
  pb_cmp (orOp (op_inA c.hu65) (op_inDk c.hu1)) (od_in.or od_inDk) ha hb hm
theorem pb_notIn (c : BC X W k) (ha : PO X F W a ga) (hb : PO X F W b gb) (hm : behindInMarks .NotIn b = false) : PB X F W (.Compare a [.NotIn] [b] pos) (gB (gBin (fInU true) ga gb)) :=
  pb_cmp (orOp (op_notInA c.hu65) (op_notInDk c.hu1)) (od_in.or od_notInDk) ha hb hm
theorem pd_ixU (c : BC X W k) (ha : PO X F W a ga) (hb : PO X F W b gb) (hs : PlainIx b) : PD X F W (.Subscript a b pos) (gBin fIxU ga gb) :=
  pd_ix (ix_seq.or (ix_Dk c.hu1)) (od_ix.or od_ixDk) ha hb hs
/-- {'k': 1, ..} of constants -/
def trsC : List (Key × V) → List (TE × TE)
  | [] => []
  | p :: r => (tC (kV p.1), tC p.2) :: trsC r
theorem tPairsC {σ : L2.St} {H : Hp} {Q : List (V × V) → Hp → Prop} : ∀ {kvs : List (Key × V)}, Q (kvs.map fun kv => (kV kv.1, kv.2)) H → tPairs (trsC kvs) σ H Q
  | [], h => h
  | p :: r, h => tPairsC (kvs := r) (Q := fun ps H3 => Q ((kV p.1, p.2) :: ps) H3) h
def gDisp (ks : List Key) (ds : List D) : GE := fun S => .ok (.own true (.dic ks ds)) S
theorem pd_disp {keys : List (Option Expr)} {values : List Expr} {ks : List Key} {ds : List D} {vs : List V} (h : PPs X pos keys values (trsC (ks.zip vs))) (hr : ∀ H, Reps X.K X.mg H ds vs) (hl2 : ks.length = vs.length) (hm : mergeK [] (ks.zip vs) = ks.zip vs) (hall : keys.all (·.isSome) = true) (hl : keys.length = values.length) (h0 : keys ≠ [])
    (h15 : keys.length ≤ 15) (h15' : ks.length ≤ 15) : PD X F W (.Dict keys values pos) (gDisp ks ds) := by
  refine ⟨(pe_disp h hall hl h0 h15).imp fun σ H Q ⟨S, I, q⟩ => fun p hp => tPairsC ⟨upd_same, ks.zip vs, rfl, by rw [zip_len hl2]; exact h15', ?_⟩⟩
  rw [hm]
  have e : upd (upd H p (.dK [])) p (.dK (ks.zip vs)) = upd H p (.dK (ks.zip vs)) := by
    funext b
    by_cases hb : b = p
    · rw [hb, upd_same, upd_same]
    · rw [upd_ne hb, upd_ne hb, upd_ne hb]
  rw [e]
  have q' : OutG X.K X.mg F W (RE X.K X.mg F) σ H (.ok (.own true (.dic ks ds)) S) Q := q
  exact q'.okN I (same_upd hp) (RN.rv I ⟨rfl, p, _, rfl, hp, upd_same, vs, rfl, hl2, (hr H).stay (Stay.of_same (same_upd hp)) _ _⟩)
end
end Pd
end PdZB_text

section PdZC_text
set_option maxHeartbeats 4000000
/-! defs by their names -/
namespace Pd
open PySem PySem.Spec PyProof.Rows L2
section
variable {P : Program} {w : World} {K : PySem.W.Frag} {mg : Str → Option Value} {base : Heap}
/-- a def of the text, without defaults -/
structure DefOk (K : PySem.W.Frag) (mg : Str → Option Value) (x : Str) (ps : List Str) (params : Arguments) (body : List Stmt) (scope : Scope) : Prop where
  ex : ∃ (f : Addr) (fd : FuncData), mg x = some (.ref f) ∧ FunD K x x params body scope [] [] f fd ∧ Binds K fd ps []
theorem DefOk.bad {x : Str} {ps : List Str} {params : Arguments} {body : List Stmt} {scope : Scope} (k : Nat) (h : DefOk K mg x ps params body scope) : FD P w K mg base k x [] (fun _ => .bad) := by
  obtain ⟨f, fd, hm, F, hb⟩ := h.ex
  exact ⟨f, fd, ps, [], [], hm, F.kp, hb, .nil, fun _ => rfl, ⟨fun vs H Q E ⟨as, _, z⟩ => z.elim, fun A outer s H args us vs Q E _ _ _ _ ⟨as, _, z⟩ => z.elim⟩⟩
theorem DefOk.fd {x : Str} {ps N : List Str} {params : Arguments} {body : List Stmt} {scope : Scope} {k : Nat} {mods : List Nat} {g : GS} (h : DefOk K mg x ps params body scope) (S : FnScope N ps scope)
    (hb : ∀ (f : Addr) (cdv : Value) (A : Around) (outer : List Env) (s : Shared) (H : Hp) (E : XK) (F : Fx) (W : WX), BC (cxOf (L2.CX P w) P w K mg base N x scope f cdv A outer s H E) W k →
      PSsD (cxOf (L2.CX P w) P w K mg base N x scope f cdv A outer s H E) F W mods body g) : FD P w K mg base (k + 1) x [] (runBody ps.length N.length mods g) := by
  obtain ⟨f, fd, hm, F, hbi⟩ := h.ex
  exact ⟨f, fd, ps, [], [], hm, F.kp, hbi, .nil, fun _ => rfl, fn_body F S fun cdv A outer s H E F W bc => hb f cdv A outer s H E F W bc⟩
theorem FD.mono {j k : Nat} {x : Str} {dd : List D} {m : Mir} (h : FD P w K mg base j x dd m) (hk : j ≤ k) : FD P w K mg base k x dd m := by
  obtain ⟨f, fd, ps, ds, dvs, h1, h2, h3, h4, h5, h6⟩ := h.ex
  exact ⟨f, fd, ps, ds, dvs, h1, h2, h3, h4, h5, h6.mono hk⟩
end
end Pd
namespace Pd
open PySem PySem.Spec PyProof.Rows L2
theorem pss_sub {X : Cx} {F : Fx} {W : WX} {m n : List Nat} {st : List Stmt} {g : GS} (h : PSsD X F W m st g) (hs : (m.all fun j => n.contains j) = true) : PSsD X F W n st g :=
  ⟨h.ps.imp fun D σ H ⟨S, I, q⟩ => ⟨S, I, OutS.sub q fun j hj => List.contains_iff_mem.mp (List.all_eq_true.mp hs j hj)⟩⟩
def subT (l : List (Str × Bool)) (n : Str) : Option Bool := l.lookup n
def tabT (l : List (Str × D)) (n : Str) : Option D := l.lookup n
/-- what an own exception's class gives to suites -/
structure XH (K : PySem.W.Frag) (mg : Str → Option Value) (x : Str) (subs isis : List (Str × Bool)) : Prop where
  ex : ∃ C, mg x = some (.ref C) ∧ SubOk K mg (.ref C) (subT subs) ∧ IsiOk K mg (.ref C) (subT isis)
def cPow (i j : Int) : Bool := decide (0 ≤ j) && (decide (j.toNat.log2 < 19) && decide (i.natAbs.log2 < 60))
def fPow := iI cPow fun i j => i ^ j.toNat
theorem od_pow {K : PySem.W.Frag} {mg : Str → Option Value} : OpD K mg (rI CPow fun i j => .int (i ^ j.toNat)) fPow := opd_int fun i j h => by
  unfold cPow at h
  rw [Bool.and_eq_true, Bool.and_eq_true] at h
  have h1 := of_decide_eq_true h.1
  have h2 := log2_lt_of (of_decide_eq_true h.2.1)
  have h3 := log2_lt_of (of_decide_eq_true h.2.2)
  refine ⟨h1, ?_, ?_⟩
  · omega
  · omega
/-- what an f-string of a message may hold: a short text, an int of few bits -/
def okMsg : D → Bool
  | .str x => decide (x.length ≤ 200)
  | .int i => decide (i.natAbs.log2 < 200)
  | _ => false
end Pd
end PdZC_text

section PdZD_text
set_option maxHeartbeats 4000000
/-! what the head sees of the text -/
namespace Pd
open PySem PySem.Spec PyProof.Rows
open L2 hiding ps_ret ps_if ps_set pss_nil pss_one pss_cons
open He (ba eqO eqO_ok ga ma)
/-! ### constants -/
mutual
def repB (K : PySem.W.Frag) : D → Value → Bool
  | .non, u => (match u with
    | .none => true
    | _ => false)
  | .bl b, u => (match u with
    | .bool c => b == c
    | _ => false)
  | .int i, u => (match u with
    | .int j _ => decide (i = j)
    | _ => false)
  | .str x, u => (match u with
    | .str y _ => decide (x = y)
    | _ => false)
  | .tup ds, u => (match u with
    | .ref a => (match K.lookup a with
      | some ⟨.type c, _, .seq its _, _⟩ => decide (c = "tuple") && (decide (its.size ≤ sizeLine) && repsB K ds its.toList)
      | _ => false)
    | _ => false)
  | _, _ => false
def repsB (K : PySem.W.Frag) : List D → List Value → Bool
  | [], us => us.isEmpty
  | d :: ds, us => (match us with
    | u :: us => repB K d u && repsB K ds us
    | [] => false)
end
section
variable {K : PySem.W.Frag} {mg : Str → Option Value}
mutual
theorem repB_ok : ∀ (d : D) (u : Value), repB K d u = true → ∃ v, RelV v u ∧ ∀ H, Rep K mg H d v
  | .non, u, h => by
    unfold repB at h
    cases u <;> first | (cases h; done) | exact ⟨.non, rfl, fun _ => rfl⟩
  | .bl b, u, h => by
    unfold repB at h
    cases u <;> first | (cases h; done) | skip
    exact ⟨.bl b, by rw [beq_iff_eq.mp h]; exact rfl, fun _ => rfl⟩
  | .int i, u, h => by
    unfold repB at h
    cases u <;> first | (cases h; done) | skip
    exact ⟨.int i, ⟨_, by rw [of_decide_eq_true h]⟩, fun _ => rfl⟩
  | .str x, u, h => by
    unfold repB at h
    cases u <;> first | (cases h; done) | skip
    exact ⟨.str x, ⟨_, by rw [of_decide_eq_true h]⟩, fun _ => rfl⟩
  | .tup ds, u, h => by
    unfold repB at h
    cases u <;> first | (cases h; done) | skip
    rename_i a
    cases q : K.lookup a with
    | none =>
      simp only [q] at h
      cases h
    | some o =>
      obtain ⟨oc, od, dt, sl⟩ := o
      simp only [q] at h
      cases oc <;> first | (cases h; done) | skip
      cases dt <;> first | (cases h; done) | skip
      rename_i c its n
      obtain ⟨h1, h2⟩ := ba h
      obtain ⟨h3, h4⟩ := ba h2
      obtain ⟨vs, rv, rr⟩ := repsB_ok ds its.toList h4
      exact ⟨.ref a, rfl, fun H => ⟨a, vs, rfl, .inr ⟨_, its, n, q, congrArg Value.type (of_decide_eq_true h1), rfl, of_decide_eq_true h3, rv⟩, rr H⟩⟩
  | .lst _, _, h => by unfold repB at h; cases h
  | .dic _ _, _, h => by unfold repB at h; cases h
  | .ins _ _ _, _, h => by unfold repB at h; cases h
  | .fn _, _, h => by unfold repB at h; cases h
theorem repsB_ok : ∀ (ds : List D) (us : List Value), repsB K ds us = true → ∃ vs, Vals vs us ∧ ∀ H, Reps K mg H ds vs
  | [], us, h => by
    unfold repsB at h
    cases us with
    | nil => exact ⟨[], .nil, fun _ => rfl⟩
    | cons _ _ => cases h
  | d :: ds, us, h => by
    unfold repsB at h
    cases us with
    | nil => cases h
    | cons u us =>
      obtain ⟨h1, h2⟩ := ba h
      obtain ⟨v, r1, r2⟩ := repB_ok d u h1
      obtain ⟨vs, r3, r4⟩ := repsB_ok ds us h2
      exact ⟨v :: vs, .cons r1 r3, fun H => Reps.cons (r2 H) (r4 H)⟩
end
def cnB (K : PySem.W.Frag) (x : Str) (d : D) : Bool := match PySem.W.nsIn K mainGlobals x with
  | some (some u) => repB K d u
  | _ => false
theorem cnB_ok {h : Heap} (X : K.In h) (G : h.Ns mainGlobals mg) {x : Str} {d : D} (c : cnB K x d = true) : CN K mg x d := by
  unfold cnB at c
  cases e : PySem.W.nsIn K mainGlobals x with
  | none =>
    rw [e] at c
    cases c
  | some o =>
    cases o with
    | none =>
      rw [e] at c
      cases c
    | some u =>
      rw [e] at c
      obtain ⟨v, r, q⟩ := repB_ok (mg := mg) d u c
      exact ⟨u, v, PySem.W.mg_of X G e, r, q⟩
/-! ### dicts -/
def entB (K : PySem.W.Frag) : List DictEntry → List (Str × D) → Bool
  | [], [] => true
  | e :: r, p :: q => (match e.key with
    | .str x _ => decide (x = p.1)
    | _ => false) && (repB K p.2 e.val && entB K r q)
  | _, _ => false
def tabB (K : PySem.W.Frag) (a : Addr) (tab : List (Str × D)) : Bool := match K.lookup a with
  | some ⟨_, _, .dict es _, _⟩ => entB K es.toList tab
  | _ => false
theorem entB_ok : ∀ {es : List DictEntry} {tab : List (Str × D)}, entB K es tab = true → es.any (·.refKey) = false ∧ ∀ z, match tab.lookup z with
    | none => es.find? (·.key.isStr z) = none
    | some dv => ∃ e v, es.find? (·.key.isStr z) = some e ∧ RelV v e.val ∧ ∀ H, Rep K mg H dv v
  | [], [], _ => ⟨rfl, fun z => rfl⟩
  | [], _ :: _, h => by cases h
  | _ :: _, [], h => by cases h
  | e :: r, p :: q, h => by
    unfold entB at h
    obtain ⟨h1, h2⟩ := ba h
    obtain ⟨h3, h4⟩ := ba h2
    obtain ⟨i1, i2⟩ := entB_ok h4
    obtain ⟨x, dv⟩ := p
    obtain ⟨kx, key, val⟩ := e
    cases key <;> first | (cases h1; done) | skip
    rename_i s t
    have es : s = x := of_decide_eq_true h1
    subst es
    refine ⟨by rw [List.any_cons, i1]; rfl, fun z => ?_⟩
    rw [lookup_cons, List.find?_cons]
    by_cases hz : z = s
    · subst hz
      rw [if_pos rfl]
      have e1 : (Value.str z t).isStr z = true := beq_self_eq_true z
      simp only [e1]
      obtain ⟨v, r1, r2⟩ := repB_ok (mg := mg) dv val h3
      exact ⟨_, v, rfl, r1, r2⟩
    · rw [if_neg hz]
      have e1 : (Value.str s t).isStr z = false := beq_eq_false_iff_ne.mpr (Ne.symm hz)
      simp only [e1]
      exact i2 z
theorem tabB_ok {h : Heap} {w : World} (X : K.In h) (G : h.Ns mainGlobals mg) {x : Str} {tab : List (Str × D)} (c1 : (He.Fa.glo x).ok K = true) (c2 : tabB K (ga K x) tab = true) (c3 : ∃ es n, KDict K w (ga K x) es n) : KTab K mg w x (tabT tab) := by
  obtain ⟨es, n, D⟩ := c3
  refine ⟨ga K x, es, n, He.glo_ok X G c1, D, fun z => ?_⟩
  have hl := D.at_
  unfold tabB at c2
  rw [hl] at c2
  obtain ⟨i1, i2⟩ := entB_ok (mg := mg) c2
  have z2 := i2 z
  show match tab.lookup z with
    | none => PySem.W.nsIn K (ga K x) z = some none
    | some dv => ∃ u v, PySem.W.nsIn K (ga K x) z = some (some u) ∧ RelV v u ∧ ∀ H, Rep K mg H dv v
  unfold PySem.W.nsIn
  rw [hl]
  cases e : tab.lookup z with
  | none =>
    rw [e] at z2
    simp only [z2, i1]
    rfl
  | some dv =>
    rw [e] at z2
    obtain ⟨en, v, e1, r1, r2⟩ := z2
    simp only [e1]
    exact ⟨_, v, rfl, r1, r2⟩
/-! ### exceptions' classes -/
def oexB (K : PySem.W.Frag) (C : Addr) : Bool := (match K.lookup C with
  | some ⟨.type t, _, .cls cd, sl⟩ => decide (t = "type") && (match cd.mro, sl.toList with
    | .ref C' :: bm, [_, _, _, _, some (.builtin n), _] => decide (C' = C) && (decide (n = "ValueError.__new__") && (!cd.hasDel && (cd.hasDict && PySem.HandSPX.refsVE bm)))
    | _, _ => false)
  | _ => false) && (eqO (PySem.W.findIn K (.ref C) "__setattr__") (some (some (.builtin "object.__setattr__"))) && (decide (PySem.W.subIn K (.ref C) (.type "BaseException") = some true) && (decide (PySem.W.typeIn K (.ref C) = some (.type "type")) && PySem.W.keepIn K (.ref C))))
theorem oexB_ok {C : Addr} (h : oexB K C = true) : OexC K C := by
  unfold oexB at h
  obtain ⟨h1, h2⟩ := ba h
  obtain ⟨h3, h4⟩ := ba h2
  obtain ⟨h5, h6⟩ := ba h4
  obtain ⟨h7, h8⟩ := ba h6
  refine ⟨?_, eqO_ok h3, of_decide_eq_true h5, of_decide_eq_true h7, h8⟩
  cases q : K.lookup C with
  | none =>
    rw [q] at h1
    cases h1
  | some o =>
    obtain ⟨oc, od, dt, sl⟩ := o
    rw [q] at h1
    cases oc <;> first | (cases h1; done) | skip
    cases dt <;> first | (cases h1; done) | skip
    rename_i t cd
    obtain ⟨g1, g2⟩ := ba h1
    have et := of_decide_eq_true g1
    subst et
    obtain ⟨nm, bs, mro, ns, qn, hd, sn, sub, ab, col, del⟩ := cd
    dsimp only at g2
    split at g2
    · rename_i C' bm k0 k1 k2 k3 n k5 hs
      obtain ⟨f1, f2⟩ := ba g2
      obtain ⟨f3, f4⟩ := ba f2
      obtain ⟨f5, f6⟩ := ba f4
      obtain ⟨f7, f8⟩ := ba f6
      have e1 := of_decide_eq_true f1
      have e2 := of_decide_eq_true f3
      subst e1 e2 f7
      have e3 : del = false := by
        cases del with
        | false => rfl
        | true => cases f5
      subst e3
      have hsl : sl = #[k0, k1, k2, k3, some (.builtin "ValueError.__new__"), k5] := by
        obtain ⟨l⟩ := sl
        simp only at hs
        rw [hs]
      subst hsl
      exact ⟨nm, qn, ns, bs, bm, sn, sub, ab, col, od, k0, k1, k2, k3, k5, rfl, f8⟩
    · cases g2
def excCB (K : PySem.W.Frag) (D : Addr) : Bool := eqO (PySem.W.findIn K (.ref D) "__getattribute__") (some (some (.builtin "BaseException.__getattribute__"))) && (eqO (PySem.W.findIn K (.ref D) "__getattr__") (some none) && (decide (PySem.W.subIn K (.ref D) (.type "BaseException") = some true) && (PySem.W.hasDictIn K D &&
  (eqO (PySem.W.findIn K (.ref D) "__class__") (some (some (.builtin "object.__class__"))) && (eqO (PySem.W.specialIn K (.builtin "object.__class__") "__get__") (some (some (.builtin "getset_descriptor.__get__"))) && (decide (PySem.W.takesIn K (.builtin "object.__class__") = some true) && decide (PySem.W.mroIn K D (.type "object") = some true)))))))
theorem excCB_ok {C : Addr} (h : excCB K C = true) : ExcC K C := by
  unfold excCB at h
  obtain ⟨h1, h⟩ := ba h
  obtain ⟨h2, h⟩ := ba h
  obtain ⟨h3, h⟩ := ba h
  obtain ⟨h4, h⟩ := ba h
  obtain ⟨h5, h⟩ := ba h
  obtain ⟨h6, h⟩ := ba h
  obtain ⟨h7, h8⟩ := ba h
  exact ⟨eqO_ok h1, eqO_ok h2, of_decide_eq_true h3, h4, eqO_ok h5, eqO_ok h6, of_decide_eq_true h7, of_decide_eq_true h8⟩
/-- x's __init__ is DC's -/
def supB (K : PySem.W.Frag) (x DC fld : Str) : Bool := oexB K (ga K x) && (eqO (PySem.W.ks_superIn K (ga K x) (ga K DC) "__init__") (some (some (.builtin "ValueError.__init__"))) && (decide (PySem.W.mroIn K (ga K x) (.ref (ga K DC)) = some true) && (decide (PySem.W.subIn K (.ref (ga K x)) (.type "ValueError") = some true) &&
  (eqO (PySem.W.findIn K (.ref (ga K x)) fld) (some none) && (eqO (PySem.W.findIn K (.ref (ga K x)) "__init__") (some (some (.ref (ma K (ga K DC) "__init__")))) && decide (PySem.W.typeIn K (.ref (ma K (ga K DC) "__init__")) = some (.type "function")))))))
theorem supB_ok {x DC fld : Str} (h : supB K x DC fld = true) : SupC K (ga K x) (ga K DC) fld ∧ PySem.W.findIn K (.ref (ga K x)) "__init__" = some (some (.ref (ma K (ga K DC) "__init__"))) ∧ PySem.W.typeIn K (.ref (ma K (ga K DC) "__init__")) = some (.type "function") := by
  unfold supB at h
  obtain ⟨h1, h⟩ := ba h
  obtain ⟨h2, h⟩ := ba h
  obtain ⟨h3, h⟩ := ba h
  obtain ⟨h4, h⟩ := ba h
  obtain ⟨h5, h⟩ := ba h
  obtain ⟨h6, h7⟩ := ba h
  exact ⟨⟨oexB_ok h1, eqO_ok h2, of_decide_eq_true h3, of_decide_eq_true h4, eqO_ok h5⟩, eqO_ok h6, of_decide_eq_true h7⟩
abbrev FnI : Type := Option (Str × Str × Arguments × FuncBody × Scope × Addr × List Str × Addr)
def initW (K : PySem.W.Frag) (DC : Str) : FnI := match K.lookup (ma K (ga K DC) "__init__") with
  | some ⟨_, _, .func fd, _⟩ => some (fd.name, fd.qualname, fd.params, fd.body, fd.scope, fd.globals, fd.closure.map (·.1), fd.builtins)
  | _ => none
def initB (K : PySem.W.Frag) (file DC q : Str) : Bool := match K.lookup (ma K (ga K DC) "__init__") with
  | some ⟨_, _, .func fd, _⟩ => (match fd.closure, fd.defaults, fd.code with
    | [(_, cc)], .none, .ref cda => PySem.W.codeIn K (.ref cda) q && ((match K.lookup cda with
      | some ⟨_, _, .fields vs, _⟩ => (match (vs : Array Value)[2]? with
        | some (Value.str f _) => file == f
        | _ => false)
      | _ => false) && ((match K.lookup cc with
      | some ⟨_, _, .cell (some (.ref d)), _⟩ => decide (d = ga K DC)
      | _ => false) && ((PySem.W.clsIn K (ga K DC)).isSome && eqO (PySem.W.nsIn K cStatics "thirdparty.any") (some none))))
    | _, _, _ => false)
  | _ => false
theorem initB_ok {P : Program} {DC q nm : Str} {params : Arguments} {body : List Stmt} {scope : Scope} (h : initB K P.main.file DC q = true) (e : initW K DC = some (nm, q, params, FuncBody.stmts body, scope, mainGlobals, [("__class__" : Str)], builtinsNs)) :
    ∃ cc cda fd, SupF P K (ga K DC) (ma K (ga K DC) "__init__") cc cda nm q params body scope fd := by
  unfold initB at h
  unfold initW at e
  cases ql : K.lookup (ma K (ga K DC) "__init__") with
  | none =>
    rw [ql] at h
    cases h
  | some o =>
    obtain ⟨oc, od, dt, osl⟩ := o
    rw [ql] at h e
    cases dt <;> first | (cases h; done) | skip
    rename_i fd
    obtain ⟨n1, n2, n3, n4, n5, n6, n7, n8, n9, n10, n11, n12, n13, n14, n15⟩ := fd
    have e2 : (some (n1, n2, n3, n4, n5, n6, n7.map (·.1), n15) : FnI) = some (nm, q, params, FuncBody.stmts body, scope, mainGlobals, [("__class__" : Str)], builtinsNs) := e
    simp only [Option.some.injEq, Prod.mk.injEq] at e2
    obtain ⟨g1, g2, g3, g4, g5, g6, g7, g8⟩ := e2
    subst g1 g2 g3 g4 g5 g6 g8
    dsimp only at h
    split at h
    · rename_i x0 cc cda
      have ex : x0 = "__class__" := by
        simp only [List.map_cons, List.map_nil, List.cons.injEq] at g7
        exact g7.1
      subst ex
      obtain ⟨c1, h⟩ := ba h
      obtain ⟨c2, h⟩ := ba h
      obtain ⟨c3, h⟩ := ba h
      obtain ⟨c4, c5⟩ := ba h
      refine ⟨cc, cda, _, ⟨⟨oc, od, n9, n10, n11, n12, n14, osl, rfl, ql⟩, c1, ?_, ?_, Option.isSome_iff_exists.mp c4, eqO_ok c5⟩⟩
      · cases q2 : K.lookup cda with
        | none =>
          rw [q2] at c2
          cases c2
        | some o2 =>
          obtain ⟨o1, o2', o3, o4⟩ := o2
          rw [q2] at c2
          cases o3 <;> first | (cases c2; done) | skip
          rename_i vs
          cases q3 : vs[2]? with
          | none =>
            simp only [q3] at c2
            cases c2
          | some u =>
            simp only [q3] at c2
            cases u <;> first | (cases c2; done) | skip
            exact ⟨_, _, vs, _, _, _, rfl, q3, c2⟩
      · cases q2 : K.lookup cc with
        | none =>
          rw [q2] at c3
          cases c3
        | some o2 =>
          obtain ⟨o1, o2', o3, o4⟩ := o2
          rw [q2] at c3
          cases o3 <;> first | (cases c3; done) | skip
          rename_i cv
          cases cv with
          | none => cases c3
          | some u =>
            cases u <;> first | (cases c3; done) | skip
            rename_i d
            have ed : d = ga K DC := of_decide_eq_true c3
            subst ed
            exact ⟨_, _, _, rfl⟩
    · cases h
end
end Pd
end PdZD_text

section PdZE_text
set_option maxHeartbeats 4000000
/-! the head's Hook, the law's end, exceptions' classes out of the text -/
namespace Pd
open PySem PySem.Spec PyProof.Rows
open L2 hiding ps_ret ps_if ps_set pss_nil pss_one pss_cons
open He (ba eqO eqO_ok ga ma)
abbrev AlP : Type := He.AlT × (Bool × List FnI)
def obsP (fa : List He.Fa) (fn : List He.DefD) (ts : List He.Tab) (ini : List Str) (ex : PySem.W.Frag → Bool) (K : PySem.W.Frag) : AlP := (He.obsT fa fn ts K, (ex K, ini.map (initW K)))
def KG (g : Addr → Option Obj) (n : Nat) : PySem.W.Frag := He.frG g (cStatics :: He.asD g n)
def valP (fn : List He.DefD) (ts : List He.Tab) (iv : List FnI) (w : World) : AlP := (He.valT fn ts w, (true, iv))
def obsPG (n : Nat) (fa : List He.Fa) (fn : List He.DefD) (ts : List He.Tab) (ini : List Str) (ex : PySem.W.Frag → Bool) (g : Addr → Option Obj) : AlP := obsP fa fn ts ini ex (KG g n)
def hookP (n : Nat) (fa : List He.Fa) (fn : List He.DefD) (ts : List He.Tab) (ini : List Str) (ex : PySem.W.Frag → Bool) (iv : List FnI) : PySem.W.Hook where
  α := AlP
  obs := fun s => obsPG n fa fn ts ini ex s.heap.get?
  val := fun w => valP fn ts iv w
  says := fun w h => ∃ K : PySem.W.Frag, K.In h ∧ obsP fa fn ts ini ex K = valP fn ts iv w
  of := fun _ _ e => ⟨_, He.frG_in, e⟩
  keeps := fun _ _ _ ⟨K, hK, c⟩ k => ⟨K, PySem.W.Frag.In.keeps hK k, c⟩
theorem obsPG_eq {n : Nat} {fa : List He.Fa} {fn : List He.DefD} {ts : List He.Tab} {ini : List Str} {ex : PySem.W.Frag → Bool} {iv : List FnI} {g : Addr → Option Obj} {s : Shared} (h : ∀ a, g a = s.heap.get? a) : obsPG n fa fn ts ini ex g = (hookP n fa fn ts ini ex iv).obs s := by
  have e : g = s.heap.get? := funext h
  rw [e] <;> rfl
section
variable {fa : List He.Fa} {fn : List He.DefD} {ts : List He.Tab} {ini : List Str} {ex : PySem.W.Frag → Bool} {iv : List FnI} {w : World} {K : PySem.W.Frag}
theorem sp_t (c : obsP fa fn ts ini ex K = valP fn ts iv w) : He.SaysT fa fn ts w K := congrArg (fun z : AlP => z.1) c
theorem sp_ex (c : obsP fa fn ts ini ex K = valP fn ts iv w) : ex K = true := congrArg (fun z : AlP => z.2.1) c
theorem sp_ini (c : obsP fa fn ts ini ex K = valP fn ts iv w) : ini.map (initW K) = iv := congrArg (fun z : AlP => z.2.2) c
end
theorem walk_EB {l : PySem.W.OpenLaw} {n k : Nat} {q : Program} {loose : List Str} {XP : (Str → Option Value) → Heap → Prop} {YP : World → Heap → Prop} {d : DefRec} {CX : World → CXT} {x : Str}
    (hn : l.most = some n) (hn2 : n ≤ sizeLine) (hdf : d.params.defaults = []) (hr : Room k callerA)
    (F : ∀ (w : World) (mg : Str → Option Value) (fa : Addr) (h : Heap), YP w h → h.Ns mainGlobals mg → mg d.name = some (.ref fa) →
      ∃ (K : PySem.W.Frag) (fd : FuncData) (sp : Sp), K.In h ∧ (∀ (s : Shared) (u : Value), BindsTo s fd ⟨[u], []⟩ [(x, u)]) ∧
        (∀ (H : Hp) (a : Addr) (ns : List Int), ns.length ≤ n → (∀ z ∈ ns, Builtin.Int.intBits z ≤ 1048576) → Only H → SqL K H a (ns.map V.int) → sp [.ref a] H (fun v _ => v = .bl true) fun _ _ _ => False) ∧
        ∀ base : Heap, K.In base → base.Ns mainGlobals mg → FnOk l.prog w K mg base (CX w) k fa fd [x] sp)
    (hCX : ∀ (w : World) (H : Hp) (s : Shared) (e : Value) (s' : Shared), CX w [] H s (fun _ _ _ => False) e s' → False) :
    PySem.W.WalkO q loose XP YP l.row.toRowW d [] (fun f vs => PySem.call f vs) := by
  refine Att.attach_callB hn hdf fun w s₀ s₁ mg mb fa o pm cd doc a vs ns G Y ho hd hcd hmg hobj hints hlen hbits hg => ?_
  obtain ⟨K, fd, sp, KX, hb, hsp, hF⟩ := F w mg fa _ Y G.T.g hmg
  exact law_call KX G.T.g G.T.b G.T.builtins G.T.nolimit hg hobj hints (Nat.le_trans hlen hn2) hr hF hb (fun H hO hS => hsp H a ns hlen hbits hO hS) fun H e s' => hCX w H s₁ e s'
/-- the law's promise, by its mirror -/
theorem law_sp {K : PySem.W.Frag} {mg : Str → Option Value} {m : Mir} {H : Hp} {a : Addr} {ns : List Int} (hO : Only H) (hS : SqL K H a (ns.map V.int)) (hm : ∃ outs, m [.dat (.lst (ns.map D.int))] = .ret (.dat (.bl true)) outs) :
    spD K mg m [.ref a] H (fun v _ => v = .bl true) fun _ _ _ => False := by
  obtain ⟨outs, hm⟩ := hm
  have hf : FzL K H a (ns.map V.int) := by
    rcases hS with h | h
    · rcases h with h | ⟨o, h⟩
      · rcases hO a with z | ⟨o, xs, z⟩
        · rw [h] at z
          cases z
        · rw [h] at z
          cases z
      · exact .inl ⟨o, h⟩
    · exact .inr h
  have hr : Reps K mg H (ns.map D.int) (ns.map V.int) := by
    clear hm hf hS
    induction ns with
    | nil => exact rfl
    | cons n ns ih => exact Reps.cons rfl ih
  refine ⟨[.dat (.lst (ns.map D.int))], ⟨.cons ⟨a, _, rfl, hf, hr⟩ .nil, fun i j a b c b' c' e _ _ _ => ?_⟩, ?_⟩
  · match i, e with
    | 0, e => cases e
    | i + 1, e => simp at e
  · rw [hm]
    intro v H' _ r
    exact r
/-! ### an exception's class -/
def okV (y : V) : Prop := (∃ x : Str, y = .str x ∧ x.length ≤ 1000) ∨ ∃ i : Int, y = .int i ∧ i.natAbs.log2 < 1920
theorem okMsg_v {K : PySem.W.Frag} {mg : Str → Option Value} : ∀ (d : D) (v : V) (H : Hp), okMsg d = true → Rep K mg H d v → okV v := by
  intro d v H h r
  cases d <;> first | (cases h; done) | skip
  · exact .inr ⟨_, r, Nat.lt_trans (of_decide_eq_true h) (by decide)⟩
  · exact .inl ⟨_, r, Nat.le_trans (of_decide_eq_true h) (by decide)⟩
def tPart : Option Str → TE
  | some s => tC (.str s)
  | none => tFmt (tVar 1)
def wPart : Option Str → Nat
  | some s => s.length
  | none => 2000
theorem str_app (a b : Str) : (a ++ b).length = a.length + b.length := by
  show (a.cps ++ b.cps).size = a.cps.size + b.cps.size
  simp
theorem tJs_ok {σ : L2.St} {H1 : Hp} {y : V} (hy : okV y) (hs : σ[1]? = some (some y)) : ∀ (ps : List (Option Str)) (acc : Str) (Q : Str → Hp → Prop), acc.length + (ps.map wPart).sum ≤ sizeLine → (∀ out, Q out H1) → tJs (ps.map tPart) acc σ H1 Q
  | [], acc, Q, _, h => h acc
  | some s :: ps, acc, Q, hw, h => by
    rw [List.map_cons, List.sum_cons] at hw
    have e : (acc ++ s).length = acc.length + s.length := str_app acc s
    have ew : wPart (some s) = s.length := rfl
    refine ⟨s, rfl, ?_, tJs_ok hy hs ps (acc ++ s) Q ?_ h⟩
    · rw [e]
      omega
    · rw [e]
      omega
  | none :: ps, acc, Q, hw, h => by
    rw [List.map_cons, List.sum_cons] at hw
    have ew : wPart none = 2000 := rfl
    have sl := sizeLine_eq
    rcases hy with ⟨x, rfl, hx⟩ | ⟨i, rfl, hi⟩
    · have e : (acc ++ x).length = acc.length + x.length := str_app acc x
      exact ⟨_, hs, .inl ⟨x, rfl, by omega, x, rfl, by rw [e]; omega, tJs_ok (.inl ⟨x, rfl, hx⟩) hs ps (acc ++ x) Q (by rw [e]; omega) h⟩⟩
    · have e : (acc ++ (Str.ofString (toString i))).length = acc.length + (Str.ofString (toString i)).length := str_app acc _
      have el : (Str.ofString (toString i)).length ≤ 1921 := by
        rw [PySem.ofString_length]
        exact int_text_length_le (k := 1920) (by decide) hi
      exact ⟨_, hs, .inr ⟨i, rfl, hi, _, rfl, by rw [e]; omega, tJs_ok (.inr ⟨i, rfl, hi⟩) hs ps (acc ++ Str.ofString (toString i)) Q (by rw [e]; omega) h⟩⟩
theorem xcl_of {P : Program} {w : World} {K : PySem.W.Frag} {mg : Str → Option Value} {base : Heap} {x DC fld ar : Str} {fd : FuncData} {tm : V → Prop} {ok : D → Bool} (hm : mg x = some (.ref (ga K x))) (hs : supB K x DC fld = true)
    (F : FnOk P w K mg base (L2.CX P w) 1 (ma K (ga K DC) "__init__") fd ["self", ar] (spSup K (ga K DC) fld tm)) (hb : Binds K fd ["self", ar] []) (hok : ∀ d v H, ok d = true → Rep K mg H d v → tm v) : XCl P w K mg base x fld ok := by
  obtain ⟨h1, h2, h3⟩ := supB_ok hs
  exact ⟨_, _, _, fd, _, tm, hm, h1, h2, h3, F, hb, hok⟩
/-- what suites ask -/
def handB (K : PySem.W.Frag) (x : Str) (subs : List (Str × Bool)) : Bool := subs.all fun p => decide (PySem.W.exmOne K (.ref (ga K p.1)) (.ref (ga K x)) = some p.2) && (excCB K (ga K p.1) && (decide (PySem.W.kitOne K (.ref (ga K p.1)) (.ref (ga K x)) = some p.2) && eqO (PySem.W.nsIn K mainGlobals p.1) (some (some (.ref (ga K p.1))))))
theorem lookup_mem' {β : Type} {n : Str} {b : β} : ∀ {l : List (Str × β)}, l.lookup n = some b → (n, b) ∈ l
  | [], e => by cases e
  | p :: r, e => by
    obtain ⟨x, y⟩ := p
    rw [lookup_cons] at e
    by_cases h : n = x
    · rw [if_pos h] at e
      cases e
      rw [h]
      exact List.mem_cons_self
    · rw [if_neg h] at e
      exact List.mem_cons_of_mem _ (lookup_mem' e)
theorem handB_ok {K : PySem.W.Frag} {mg : Str → Option Value} {h : Heap} (X : K.In h) (G : h.Ns mainGlobals mg) {x : Str} {subs : List (Str × Bool)} (hm : mg x = some (.ref (ga K x))) (c : handB K x subs = true) : XH K mg x subs subs := by
  have key : ∀ n b, subs.lookup n = some b → ∀ C, mg n = some (.ref C) → PySem.W.exmOne K (.ref C) (.ref (ga K x)) = some b ∧ ExcC K C ∧ PySem.W.kitOne K (.ref C) (.ref (ga K x)) = some b := fun n b e C hC => by
    have z := List.all_eq_true.mp c _ (lookup_mem' e)
    obtain ⟨z1, z⟩ := ba z
    obtain ⟨z2, z⟩ := ba z
    obtain ⟨z3, z4⟩ := ba z
    have hn : mg n = some (.ref (ga K n)) := PySem.W.mg_of X G (eqO_ok z4)
    rw [hn] at hC
    cases hC
    exact ⟨of_decide_eq_true z1, excCB_ok z2, of_decide_eq_true z3⟩
  exact ⟨ga K x, hm, fun n b e C hC => (key n b e C hC).1, fun n b e C hC => ⟨(key n b e C hC).2.1, (key n b e C hC).2.2⟩⟩
def fldB (K : PySem.W.Frag) (fld : Str) (ok : List Str) : Bool := ok.all fun n => excCB K (ga K n) && (eqO (PySem.W.findIn K (.ref (ga K n)) fld) (some none) && eqO (PySem.W.nsIn K mainGlobals n) (some (some (.ref (ga K n)))))
theorem fldB_ok {K : PySem.W.Frag} {mg : Str → Option Value} {h : Heap} (X : K.In h) (G : h.Ns mainGlobals mg) {fld : Str} {ok : List Str} (c : fldB K fld ok = true) : FldOk K mg fld ok := fun n hn C hC => by
  have z := List.all_eq_true.mp c _ hn
  obtain ⟨z1, z⟩ := ba z
  obtain ⟨z2, z3⟩ := ba z
  have hm : mg n = some (.ref (ga K n)) := PySem.W.mg_of X G (eqO_ok z3)
  rw [hm] at hC
  cases hC
  exact ⟨excCB_ok z1, eqO_ok z2⟩
def isiTB (K : PySem.W.Frag) (T : String) (subs : List (Str × Bool)) : Bool := subs.all fun p => excCB K (ga K p.1) && (decide (PySem.W.kitOne K (.ref (ga K p.1)) (.type T) = some p.2) && eqO (PySem.W.nsIn K mainGlobals p.1) (some (some (.ref (ga K p.1)))))
theorem isiTB_ok {K : PySem.W.Frag} {mg : Str → Option Value} {h : Heap} (X : K.In h) (G : h.Ns mainGlobals mg) {T : String} {subs : List (Str × Bool)} (c : isiTB K T subs = true) : IsiOk K mg (.type T) (subT subs) := fun n b e C hC => by
  have z := List.all_eq_true.mp c _ (lookup_mem' e)
  obtain ⟨z1, z⟩ := ba z
  obtain ⟨z2, z3⟩ := ba z
  have hn : mg n = some (.ref (ga K n)) := PySem.W.mg_of X G (eqO_ok z3)
  rw [hn] at hC
  cases hC
  exact ⟨excCB_ok z1, of_decide_eq_true z2⟩
theorem defOk_of {K : PySem.W.Frag} {mg : Str → Option Value} {h : Heap} (X : K.In h) (G : h.Ns mainGlobals mg) {x : Str} {ps : List Str} {params : Arguments} {body : List Stmt} {scope : Scope} {fd : FuncData} (hg : (He.Fa.glo x).ok K = true) (F : FunD K x x params body scope [] [] (ga K x) fd)
    (hb : ∀ (kV doc pm : Value) (an : Option Addr) (cdv ct : Value) (us : List Value), us.length = ps.length → bindArgs (PySem.W.fnOf x x params body scope .none kV doc pm an cdv ct) ⟨us, []⟩ = pure (ps.zip us)) : DefOk K mg x ps params body scope :=
  ⟨_, fd, He.glo_ok X G hg, F, F.bindsN hb⟩
end Pd
end PdZE_text

section PdZF_text
set_option maxHeartbeats 4000000
/-! denotations at a state, for simp -/
namespace Pd
open PySem PySem.Spec PyProof.Rows L2
@[simp] theorem ev_gV (g : GE) (S : List SV) : gV g S = (g S).bind fun sv S1 => match sv with
  | .dat d => .ok d S1
  | .own _ c => .ok c.toD S1
  | _ => .bad := rfl
@[simp] theorem ev_gO (g : GV) (S : List SV) : gO g S = (g S).bind fun d S1 => .ok (.val d) S1 := rfl
@[simp] theorem ev_gE (g : GV) (S : List SV) : gE g S = (g S).bind fun d S1 => .ok (.dat d) S1 := rfl
@[simp] theorem ev_gVar (i : Nat) (S : List SV) : gVar i S = match getS S i with
  | some _ => .ok (.var i) S
  | none => .bad := rfl
@[simp] theorem ev_gNam (i : Nat) (S : List SV) : gNam i S = match S[i]? with
  | some (.dat d) => .ok d S
  | some (.own _ c) => .ok c.toD (S.set i (.dat c.toD))
  | _ => .bad := rfl
@[simp] theorem ev_gMove (i : Nat) (S : List SV) : gMove i S = match S[i]? with
  | some (.dat d) => .ok (.dat d) S
  | some (.own true c) => .ok (.own true c) (S.set i .no)
  | some (.own false c) => .ok (.dat c.toD) (S.set i (.dat c.toD))
  | _ => .bad := rfl
@[simp] theorem ev_gC (d : D) (S : List SV) : gC d S = .ok d S := rfl
@[simp] theorem ev_gBin (f : D → D → Option SV) (ga gb : GO) (S : List SV) : gBin f ga gb S = (ga S).bind fun o1 S1 => (gb S1).bind fun o2 S2 => match o1.get S2, o2.get S2 with
  | some d1, some d2 => (match f d1 d2 with
    | some sv => .ok sv S2
    | none => .bad)
  | _, _ => .bad := rfl
@[simp] theorem ev_gB (g : GE) (S : List SV) : gB g S = (g S).bind fun sv S1 => match sv with
  | .dat (.bl b) => .ok b S1
  | _ => .bad := rfl
@[simp] theorem ev_gChain (f f' : D → D → Option SV) (ga gb gc : GO) (S : List SV) : gChain f f' ga gb gc S = (ga S).bind fun o1 S1 => (gb S1).bind fun o2 S2 => match o1.get S2, o2.get S2 with
  | some d1, some d2 => (match f d1 d2 with
    | some (.dat (.bl true)) => (gc S2).bind fun o3 S3 => (match o2.get S3, o3.get S3 with
      | some d2, some d3 => (match f' d2 d3 with
        | some sv => .ok sv S3
        | none => .bad)
      | _, _ => .bad)
    | some (.dat (.bl false)) => .ok (.dat (.bl false)) S2
    | _ => .bad)
  | _, _ => .bad := rfl
@[simp] theorem ev_gAnd (g h : GT) (S : List SV) : gAnd g h S = (g S).bind fun b S1 => if b = true then h S1 else .ok false S1 := rfl
@[simp] theorem ev_gOr (g h : GT) (S : List SV) : gOr g h S = (g S).bind fun b S1 => if b = true then .ok true S1 else h S1 := rfl
@[simp] theorem ev_gNot (g : GT) (S : List SV) : gNot g S = (g S).bind fun b S1 => .ok (!b) S1 := rfl
@[simp] theorem ev_gAndV (g h : GE) (S : List SV) : gAndV g h S = (g S).bind fun sv S1 => match sv with
  | .dat (.bl true) => h S1
  | .dat (.bl false) => .ok (.dat (.bl false)) S1
  | _ => .bad := rfl
@[simp] theorem ev_gOrV (g h : GE) (S : List SV) : gOrV g h S = (g S).bind fun sv S1 => match sv with
  | .dat (.bl true) => .ok (.dat (.bl true)) S1
  | .dat (.bl false) => h S1
  | _ => .bad := rfl
@[simp] theorem ev_gNotV (g : GE) (S : List SV) : gNotV g S = (g S).bind fun sv S1 => match sv with
  | .dat (.bl b) => .ok (.dat (.bl (!b))) S1
  | _ => .bad := rfl
@[simp] theorem ev_gIf (g : GT) (h k : GE) (S : List SV) : gIf g h k S = (g S).bind fun b S1 => if b = true then h S1 else k S1 := rfl
@[simp] theorem ev_gTru (g : GO) (S : List SV) : gTru g S = (g S).bind fun o S1 => match o.get S1 with
  | some d => (match d.truth with
    | some b => .ok b S1
    | none => .bad)
  | none => .bad := rfl
@[simp] theorem ev_gsNil (S : List SV) : gsNil  S = .ok [] S := rfl
@[simp] theorem ev_gsCons (g : GV) (h : GVs) (S : List SV) : gsCons g h S = (g S).bind fun d S1 => (h S1).bind fun ds S2 => .ok (d :: ds) S2 := rfl
@[simp] theorem ev_gaNil (S : List SV) : gaNil  S = .ok [] S := rfl
@[simp] theorem ev_gaCons (g : GO) (h : GA) (S : List SV) : gaCons g h S = (g S).bind fun o S1 => (h S1).bind fun os S2 => .ok (o :: os) S2 := rfl
@[simp] theorem ev_gTup (g : GVs) (S : List SV) : gTup g S = (g S).bind fun ds S1 => if Fits ds.length then .ok (.tup ds) S1 else .bad := rfl
@[simp] theorem ev_gLst (g : GVs) (S : List SV) : gLst g S = (g S).bind fun ds S1 => if Fits ds.length then .ok (.own true (.lst ds)) S1 else .bad := rfl
@[simp] theorem ev_gUn (f : D → Option SV) (g : GO) (S : List SV) : gUn f g S = (g S).bind fun o S1 => match o.get S1 with
  | some d => (match f d with
    | some sv => .ok sv S1
    | none => .bad)
  | none => .bad := rfl
@[simp] theorem ev_gpNone (S : List SV) : gpNone  S = .ok none S := rfl
@[simp] theorem ev_gpSome (g : GO) (S : List SV) : gpSome g S = (g S).bind fun o S1 => match o.get S1 with
  | some (.int i) => .ok (some i) S1
  | _ => .bad := rfl
@[simp] theorem ev_gSl (f : D → Option Int → Option Int → Option SV) (g : GO) (l h : GP) (S : List SV) : gSl f g l h S = (g S).bind fun o S1 => (l S1).bind fun lo S2 => (h S2).bind fun hi S3 => match o.get S3 with
  | some d => (match f d lo hi with
    | some sv => .ok sv S3
    | none => .bad)
  | none => .bad := rfl
@[simp] theorem ev_gCall (f : List D → Option SV) (g : GA) (S : List SV) : gCall f g S = (g S).bind fun os S1 => match gets S1 os with
  | some ds => (match f ds with
    | some sv => .ok sv S1
    | none => .bad)
  | none => .bad := rfl
@[simp] theorem ev_gNx (S : List SV) : gNx  S = .nx S := rfl
@[simp] theorem ev_gSeq (g h : GS) (S : List SV) : gSeq g h S = (g S).bind h := rfl
@[simp] theorem ev_gBrk (S : List SV) : gBrk  S = .bk S := rfl
@[simp] theorem ev_gCnt (S : List SV) : gCnt  S = .ct S := rfl
@[simp] theorem ev_gDrop (g : GE) (S : List SV) : gDrop g S = (g S).st fun _ S1 => .nx S1 := rfl
@[simp] theorem ev_gRet (g : GE) (S : List SV) : gRet g S = (g S).st fun sv S1 => .rt sv S1 := rfl
@[simp] theorem ev_gRetN (S : List SV) : gRetN  S = .rt (.dat .non) S := rfl
@[simp] theorem ev_gIfS (g : GT) (h k : GS) (S : List SV) : gIfS g h k S = (g S).st fun b S1 => if b = true then h S1 else k S1 := rfl
@[simp] theorem ev_gSet (i : Nat) (g : GE) (S : List SV) : gSet i g S = (g S).st fun sv S1 => if i < S1.length then .nx (S1.set i sv) else .bad := rfl
@[simp] theorem ev_gCallF (m : Mir) (dd : List D) (ga : GA) (S : List SV) : gCallF m dd ga S = (ga S).bind fun os S1 => match argsOf S1 os with
  | some as => if noDup (ownIx S1 os) = true then (match m (as ++ dd.map SV.dat) with
      | .ret sv outs => .ok sv (putBack os outs S1)
      | .exc e outs => .exc e (putBack os outs S1)
      | .bad => .bad)
    else .bad
  | none => .bad := rfl
@[simp] theorem ev_gItems (g : GV) (S : List SV) : gItems g S = (g S).bind fun d S1 => match d.items with
  | some ds => .ok ds S1
  | none => .bad := rfl
@[simp] theorem ev_gRng1 (g : GA) (S : List SV) : gRng1 g S = (g S).bind fun os S1 => match gets S1 os with
  | some [.int j] => if Fit62 j then .ok (rng 0 j.toNat) S1 else .bad
  | _ => .bad := rfl
@[simp] theorem ev_gRng2 (g : GA) (S : List SV) : gRng2 g S = (g S).bind fun os S1 => match gets S1 os with
  | some [.int i, .int j] => if Fit62 i ∧ Fit62 j then .ok (rng i (j - i).toNat) S1 else .bad
  | _ => .bad := rfl
@[simp] theorem ev_gRng3 (g : GA) (S : List SV) : gRng3 g S = (g S).bind fun os S1 => match gets S1 os with
  | some [.int i, .int j, .int c] => if c = -1 ∧ Fit62 i ∧ Fit62 j then .ok (rngD i (i - j).toNat) S1 else .bad
  | _ => .bad := rfl
@[simp] theorem ev_gFor (src : GI) (tgt : GTg) (body : GS) (dead : List Nat) (S : List SV) : gFor src tgt body dead S = (src S).st fun ds S1 => forG tgt body dead ds (wipeS S1 dead) := rfl
@[simp] theorem ev_gWhile (c : GT) (body : GS) (dead : List Nat) (n : Nat) (S : List SV) : gWhile c body dead n S = whileG c body dead n (wipeS S dead) := rfl
@[simp] theorem ev_gComp (src : GI) (tgt : GTg) (test : GT) (elt : GV) (vs : List Nat) (S : List SV) : gComp src tgt test elt vs S = (src S).bind fun ds S1 => (compG tgt test elt vs ds [] (wipeS S1 vs)).bind fun acc S2 => .ok (.own true (.lst acc)) S2 := rfl
@[simp] theorem ev_gYes (S : List SV) : gYes  S = .ok true S := rfl
@[simp] theorem ev_gRaise (x fld : Str) (ok : D → Bool) (g : GV) (S : List SV) : gRaise x fld ok g S = (g S).st fun d S => if ok d then .exc ⟨x, [fld], [d]⟩ S else .bad := rfl
@[simp] theorem ev_gTry (gb : GS) (l : List Cl) (S : List SV) : gTry gb l S = match gb S with
  | .exc e S1 => gHand e l S1
  | r => r := rfl
@[simp] theorem ev_gXf (i : Nat) (fld : Str) (ok : List Str) (S : List SV) : gXf i fld ok S = match exAt S i with
  | some e => if ok.contains e.C then (match (e.ns.zip e.xs).lookup fld with
    | some d => .ok d S
    | none => .bad) else .bad
  | none => .bad := rfl
@[simp] theorem ev_gXi (i : Nat) (sub : Str → Option Bool) (S : List SV) : gXi i sub S = match exAt S i with
  | some e => (match sub e.C with
    | some b => .ok (.bl b) S
    | none => .bad)
  | none => .bad := rfl
@[simp] theorem ev_gEnum (g : GV) (S : List SV) : gEnum g S = (g S).bind fun d S1 => match d with
  | .lst ds => .ok (enumD ds) S1
  | .tup ds => .ok (enumD ds) S1
  | _ => .bad := rfl
@[simp] theorem ev_gComp2 (src : GI) (tgt : GTg) (test : GT) (src1 : GI) (tgt1 : GTg) (test1 : GT) (elt : GV) (vs vs1 : List Nat) (S : List SV) : gComp2 src tgt test src1 tgt1 test1 elt vs vs1 S = (src S).bind fun ds S1 => (comp2G tgt test src1 tgt1 test1 elt vs vs1 ds [] (wipeS S1 vs)).bind fun acc S2 => .ok (.own true (.lst acc)) S2 := rfl
@[simp] theorem ev_gAppend (i : Nat) (g : GV) (S : List SV) : gAppend i g S = if isOwnL S i then (g S).st fun d S1 => match S1[i]? with
  | some (.own b (.lst xs)) => if Fits xs.length then .nx (S1.set i (.own b (.lst (xs ++ [d])))) else .bad
  | _ => .bad
  else .bad := rfl
@[simp] theorem ev_gSetIx (i : Nat) (g : GV) (h : GO) (S : List SV) : gSetIx i g h S = (g S).st fun d S1 => if isOwnL S1 i then (h S1).st fun o S2 => match S2[i]?, o.get S2 with
  | some (.own b (.lst xs)), some (.int k) => (match ixN xs.length k with
    | some j => .nx (S2.set i (.own b (.lst (xs.set j d))))
    | none => .bad)
  | _, _ => .bad
  else .bad := rfl
@[simp] theorem ev_gSetT (g : GV) (f : GTg) (S : List SV) : gSetT g f S = (g S).st fun d S1 => match f d S1 with
  | some S2 => .nx S2
  | none => .bad := rfl
@[simp] theorem ev_gMeth1 (f : D → D → Option SV) (ga gb : GO) (S : List SV) : gMeth1 f ga gb S = (ga S).bind fun o1 S1 => if isStr (o1.get S1) then (gb S1).bind fun o2 S2 => match o1.get S2, o2.get S2 with
  | some d1, some d2 => (match f d1 d2 with
    | some sv => .ok sv S2
    | none => .bad)
  | _, _ => .bad
  else .bad := rfl
@[simp] theorem ev_gDisp (ks : List Key) (ds : List D) (S : List SV) : gDisp ks ds S = .ok (.own true (.dic ks ds)) S := rfl
@[simp] theorem ev_gtName (i : Nat) (d : D) (S : List SV) : gtName i d S = if i < S.length then some (S.set i (.dat d)) else none := rfl
@[simp] theorem ev_gtsNil (S : List SV) : gtsNil [] S = some S := rfl
@[simp] theorem ev_gtsCons (f : GTg) (g : List D → List SV → Option (List SV)) (d : D) (ds : List D) (S : List SV) : gtsCons f g (d :: ds) S = match f d S with
    | some S1 => g ds S1
    | none => none := rfl
@[simp] theorem ev_gtTup (n : Nat) (f : List D → List SV → Option (List SV)) (ds : List D) (S : List SV) : gtTup n f (.tup ds) S = if ds.length = n then f ds S else none := rfl
@[simp] theorem ev_get_val (S : List SV) (d : D) : Opd.get S (.val d) = some d := rfl
@[simp] theorem ev_get_var (S : List SV) (i : Nat) : Opd.get S (.var i) = getS S i := rfl
@[simp] theorem ev_gets_nil (S : List SV) : gets S [] = some [] := rfl
@[simp] theorem ev_gets_cons (S : List SV) (o : Opd) (os : List Opd) : gets S (o :: os) = match o.get S with
    | some d => (match gets S os with
      | some ds => some (d :: ds)
      | none => none)
    | none => none := rfl
@[simp] theorem ev_args_nil (S : List SV) : argsOf S [] = some [] := rfl
@[simp] theorem ev_args_val (S : List SV) (d : D) (os : List Opd) : argsOf S (.val d :: os) = (argsOf S os).map (SV.dat d :: ·) := rfl
@[simp] theorem ev_args_var (S : List SV) (i : Nat) (os : List Opd) : argsOf S (.var i :: os) = match S[i]? with
    | some (.dat d) => (argsOf S os).map (SV.dat d :: ·)
    | some (.own _ c) => (argsOf S os).map (SV.own false c :: ·)
    | _ => none := rfl
@[simp] theorem ev_own_nil (S : List SV) : ownIx S [] = [] := rfl
@[simp] theorem ev_own_val (S : List SV) (d : D) (os : List Opd) : ownIx S (.val d :: os) = ownIx S os := rfl
@[simp] theorem ev_own_var (S : List SV) (i : Nat) (os : List Opd) : ownIx S (.var i :: os) = match S[i]? with
    | some (.own _ _) => i :: ownIx S os
    | _ => ownIx S os := rfl
@[simp] theorem ev_noDup_nil : noDup [] = true := rfl
@[simp] theorem ev_noDup_cons (x : Nat) (xs : List Nat) : noDup (x :: xs) = (!xs.contains x && noDup xs) := rfl
@[simp] theorem ev_pb_nil (outs S : List SV) : putBack [] outs S = S := rfl
@[simp] theorem ev_pb_val (d : D) (os : List Opd) (outs S : List SV) : putBack (.val d :: os) outs S = putBack os outs.tail S := rfl
@[simp] theorem ev_pb_var (i : Nat) (os : List Opd) (outs S : List SV) : putBack (.var i :: os) outs S = putBack os outs.tail (match S[i]? with
    | some (.own b _) => S.set i (back b outs.head?)
    | _ => S) := rfl
@[simp] theorem ev_back_own (b b' : Bool) (c : Cn) : back b (some (.own b' c)) = .own b c := rfl
@[simp] theorem ev_back_dat (b : Bool) (d : D) : back b (some (.dat d)) = .dat d := rfl
@[simp] theorem ev_wipe_nil (S : List SV) : wipeS S [] = S := rfl
@[simp] theorem ev_wipe_cons (S : List SV) (v : Nat) (vs : List Nat) : wipeS S (v :: vs) = (wipeS S vs).set v .no := rfl
@[simp] theorem ev_for_nil (tgt : GTg) (body : GS) (dead : List Nat) (S : List SV) : forG tgt body dead [] S = .nx S := rfl
theorem ev_for_cons (tgt : GTg) (body : GS) (dead : List Nat) (d : D) (ds : List D) (S : List SV) : forG tgt body dead (d :: ds) S = match tgt d S with
    | none => .bad
    | some S1 => (match body S1 with
      | .nx S2 => forG tgt body dead ds (wipeS S2 dead)
      | .ct S2 => forG tgt body dead ds (wipeS S2 dead)
      | .bk S2 => .nx S2
      | r => r) := rfl
@[simp] theorem ev_comp_nil (tgt : GTg) (test : GT) (elt : GV) (vs : List Nat) (acc : List D) (S : List SV) : compG tgt test elt vs [] acc S = .ok acc S := rfl
theorem ev_comp_cons (tgt : GTg) (test : GT) (elt : GV) (vs : List Nat) (d : D) (ds acc : List D) (S : List SV) : compG tgt test elt vs (d :: ds) acc S = match tgt d S with
    | none => .bad
    | some S1 => (match test S1 with
      | .ok true S2 => (match elt S2 with
        | .ok y S3 => if Fits acc.length then compG tgt test elt vs ds (acc ++ [y]) (wipeS S3 vs) else .bad
        | _ => .bad)
      | .ok false S2 => compG tgt test elt vs ds acc (wipeS S2 vs)
      | _ => .bad) := rfl
@[simp] theorem ev_getS (S : List SV) (i : Nat) : getS S i = match S[i]? with
    | some (.dat d) => some d
    | some (.own _ c) => some c.toD
    | _ => none := rfl
@[simp] theorem ev_toD_lst (xs : List D) : (Cn.lst xs).toD = .lst xs := rfl
@[simp] theorem ev_toD_dic (ks : List Key) (xs : List D) : (Cn.dic ks xs).toD = .dic ks xs := rfl
@[simp] theorem ev_tru_bl (b : Bool) : D.truth (.bl b) = some b := rfl
@[simp] theorem ev_tru_int (i : Int) : D.truth (.int i) = some (i != 0) := rfl
@[simp] theorem ev_tru_non : D.truth .non = some false := rfl
@[simp] theorem ev_items_lst (xs : List D) : D.items (.lst xs) = some xs := rfl
@[simp] theorem ev_items_tup (xs : List D) : D.items (.tup xs) = some xs := rfl
end Pd
end PdZF_text

section PdZG_text
set_option maxHeartbeats 4000000
/-! plain facts for the mathematics -/
namespace Pd
open PySem
theorem intBits_le {i : Int} {k : Nat} (h : i.natAbs < 2 ^ k) : Builtin.Int.intBits i ≤ k := by
  unfold Builtin.Int.intBits
  split
  · exact Nat.zero_le _
  · rename_i hz
    have h0 : i.natAbs ≠ 0 := by
      intro z
      apply hz
      have : i = 0 := by omega
      rw [this]
      rfl
    have := (Nat.log2_lt h0).mpr h
    omega
theorem intBits_lt (i : Int) : i.natAbs < 2 ^ Builtin.Int.intBits i := by
  unfold Builtin.Int.intBits
  split
  · rename_i hz
    have e : i = 0 := by simpa using hz
    rw [e]
    decide
  · rename_i hz
    have h0 : i.natAbs ≠ 0 := by
      intro z
      apply hz
      have : i = 0 := by omega
      rw [this]
      rfl
    exact (Nat.log2_lt h0).mp (Nat.lt_succ_self _)
theorem intBits_mono {i j : Int} (h : i.natAbs ≤ j.natAbs) : Builtin.Int.intBits i ≤ Builtin.Int.intBits j := intBits_le (Nat.lt_of_le_of_lt h (intBits_lt j))
theorem fShl_ok {i : Int} {j : Nat} (h : Builtin.Int.intBits i + j < 2 ^ 25) : fShl (.int i) (.int (j : Int)) = some (.dat (.int (i * 2 ^ j))) := by
  have hc : cShl i (j : Int) = true := by
    unfold cShl
    rw [Bool.and_eq_true, decide_eq_true_eq, decide_eq_true_eq]
    refine ⟨by omega, ?_⟩
    rw [Int.toNat_natCast]
    by_cases hz : Builtin.Int.intBits i + j = 0
    · rw [hz]
      decide +kernel
    · refine (Nat.log2_lt hz).mpr ?_
      omega
  show iI cShl _ (.int i) (.int j) = _
  simp only [iI, hc, if_true, Int.toNat_natCast]
theorem fShr_ok {i : Int} {j : Nat} : fShr (.int i) (.int (j : Int)) = some (.dat (.int (i / 2 ^ j))) := by
  have hc : cShr i (j : Int) = true := decide_eq_true (by omega)
  show iI cShr _ (.int i) (.int j) = _
  simp only [iI, hc, if_true, Int.toNat_natCast]
@[simp] theorem fAbs_int (i : Int) : fAbs [.int i] = some (.dat (.int (if i < 0 then -i else i))) := rfl
theorem fMul_ok {i j : Int} (hi : i.natAbs < 2 ^ 10000) (hj : j.natAbs < 2 ^ 10000) : fMul (.int i) (.int j) = some (.dat (.int (i * j))) := by
  have h1 := intBits_le hi
  have h2 := intBits_le hj
  have hc : cMul i j = true := by
    unfold cMul
    rw [decide_eq_true_eq]
    by_cases hz : Builtin.Int.intBits i + Builtin.Int.intBits j = 0
    · rw [hz]
      decide +kernel
    · refine (Nat.log2_lt hz).mpr ?_
      have e : 2 ^ 26 = 67108864 := by decide
      omega
  show iI cMul _ (.int i) (.int j) = _
  simp only [iI, hc, if_true]
theorem pw100 {x : Nat} (h : x < 2 ^ 100) : x < 2 ^ 10000 := Nat.lt_of_lt_of_le h (Nat.pow_le_pow_right (by decide) (by decide))
theorem fMul_sm {i j : Int} (hi : i.natAbs < 2 ^ 100) (hj : j.natAbs < 2 ^ 100) : fMul (.int i) (.int j) = some (.dat (.int (i * j))) := fMul_ok (pw100 hi) (pw100 hj)
theorem fMod_ok {i j : Int} (h : 0 < j) : fMod (.int i) (.int j) = some (.dat (.int (i % j))) := by
  have hc : cMod i j = true := decide_eq_true h
  show iI cMod _ (.int i) (.int j) = _
  simp only [iI, hc, if_true]
theorem fDiv_ok {i j : Int} (h : 0 < j) (h2 : j.natAbs.log2 < 4000) : fDiv (.int i) (.int j) = some (.dat (.int (i / j))) := by
  have hc : cDiv i j = true := by
    unfold cDiv
    have h3 : j.natAbs.log2.log2 < 12 := by
      by_cases hz : j.natAbs.log2 = 0
      · rw [hz]
        decide +kernel
      · refine (Nat.log2_lt hz).mpr ?_
        omega
    rw [decide_eq_true h, decide_eq_true h3]
    rfl
  show iI cDiv _ (.int i) (.int j) = _
  simp only [iI, hc, if_true]
@[simp] theorem fAdd_int (i j : Int) : fAdd (.int i) (.int j) = some (.dat (.int (i + j))) := rfl
@[simp] theorem fSub_int (i j : Int) : fSub (.int i) (.int j) = some (.dat (.int (i - j))) := rfl
@[simp] theorem fInt_int (i : Int) : fInt [.int i] = some (.dat (.int i)) := rfl
@[simp] theorem fLt_int (i j : Int) : fLt (.int i) (.int j) = some (.dat (.bl (decide (i < j)))) := rfl
@[simp] theorem fLe_int (i j : Int) : fLe (.int i) (.int j) = some (.dat (.bl (decide (i ≤ j)))) := rfl
@[simp] theorem fGt_int (i j : Int) : fGt (.int i) (.int j) = some (.dat (.bl (decide (j < i)))) := rfl
@[simp] theorem fGe_int (i j : Int) : fGe (.int i) (.int j) = some (.dat (.bl (decide (j ≤ i)))) := rfl
end Pd
end PdZG_text

section PdZH_text
set_option maxHeartbeats 4000000
/-! plain facts: equality of data, membership -/
namespace Pd
open PySem
mutual
/-- data without dicts and objects, its texts in order, at most so deep -/
def D.lay : D → Nat → Prop
  | .non, _ => True
  | .bl _, _ => True
  | .int _, _ => True
  | .str x, _ => PyData.strOk x = true
  | .tup ds, k => 0 < k ∧ D.lays ds (k - 1)
  | .lst ds, k => 0 < k ∧ D.lays ds (k - 1)
  | .dic _ _, _ => False
  | .ins _ _ _, _ => False
  | .fn _, _ => False
def D.lays : List D → Nat → Prop
  | [], _ => True
  | d :: ds, k => D.lay d k ∧ D.lays ds k
end
theorem lays_all : ∀ {ds : List D} {k : Nat}, (∀ d ∈ ds, d.lay k) → D.lays ds k
  | [], _, _ => trivial
  | d :: ds, k, h => ⟨h d (List.mem_cons_self ..), lays_all fun e he => h e (List.mem_cons_of_mem _ he)⟩
theorem lays_mem : ∀ {ds : List D} {k : Nat}, D.lays ds k → ∀ d ∈ ds, d.lay k
  | d :: ds, k, h, e, he => by
    rcases List.mem_cons.mp he with rfl | he
    · exact h.1
    · exact lays_mem h.2 e he
theorem lays_app {xs ys : List D} {k : Nat} (h : D.lays xs k) (h2 : D.lays ys k) : D.lays (xs ++ ys) k := lays_all fun d hd => (List.mem_append.mp hd).elim (lays_mem h d) (lays_mem h2 d)
mutual
theorem lay_toP : ∀ (d : D) (k : Nat), d.lay k → ∃ p, d.toP = some p ∧ p.canLay0 = true ∧ p.depth ≤ k ∧ PyData.eqv p p = true
  | .non, k, _ => ⟨.none, rfl, rfl, Nat.zero_le _, rfl⟩
  | .bl b, k, _ => ⟨.bool b, rfl, rfl, Nat.zero_le _, by cases b <;> rfl⟩
  | .int i, k, _ => ⟨.int i, rfl, rfl, Nat.zero_le _, by simp [PyData.eqv]⟩
  | .str x, k, h => ⟨.str x, rfl, by
      have h' : PyData.strOk x = true := h
      simp [PyData.canLay0, h'], Nat.zero_le _, by simp [PyData.eqv]⟩
  | .tup ds, k, h => by
    obtain ⟨ps, e1, e2, e3, e4⟩ := lays_toP ds (k - 1) h.2
    refine ⟨.tuple ps, by simp [D.toP, e1], by simp [PyData.canLay0, e2], ?_, by simp [PyData.eqv, e4]⟩
    have := h.1
    simp only [PyData.depth]
    omega
  | .lst ds, k, h => by
    obtain ⟨ps, e1, e2, e3, e4⟩ := lays_toP ds (k - 1) h.2
    refine ⟨.list ps, by simp [D.toP, e1], by simp [PyData.canLay0, e2], ?_, by simp [PyData.eqv, e4]⟩
    have := h.1
    simp only [PyData.depth]
    omega
  | .dic _ _, k, h => absurd h (by simp [D.lay])
  | .ins _ _ _, k, h => absurd h (by simp [D.lay])
  | .fn _, k, h => absurd h (by simp [D.lay])
theorem lays_toP : ∀ (ds : List D) (k : Nat), D.lays ds k → ∃ ps, D.toPs ds = some ps ∧ PyData.canLayAll0 ps = true ∧ PyData.depthAll ps ≤ k ∧ PyData.eqvAll ps ps = true
  | [], k, _ => ⟨[], rfl, rfl, Nat.zero_le _, rfl⟩
  | d :: ds, k, h => by
    obtain ⟨p, e1, e2, e3, e4⟩ := lay_toP d k h.1
    obtain ⟨ps, f1, f2, f3, f4⟩ := lays_toP ds k h.2
    refine ⟨p :: ps, by simp [D.toPs, e1, f1], by simp [PyData.canLayAll0, e2, f2], ?_, by simp [PyData.eqvAll, e4, f4]⟩
    simp only [PyData.depthAll]
    omega
end
theorem lay_shaped {d : D} {k : Nat} (h : d.lay k) (hk : k ≤ 64) : ∃ p, d.toP = some p ∧ SeqAt.shaped p = true ∧ PyData.eqv p p = true := by
  obtain ⟨p, e1, e2, e3, e4⟩ := lay_toP d k h
  refine ⟨p, e1, ?_, e4⟩
  unfold SeqAt.shaped
  rw [e2, Bool.true_and]
  exact decide_eq_true (by omega)
theorem fEq_same (neg : Bool) {d : D} {k : Nat} (h : d.lay k) (hk : k ≤ 64) : fEq neg d d = some (.dat (.bl (!neg))) := by
  obtain ⟨p, e1, e2, e3⟩ := lay_shaped h hk
  simp only [fEq, e1, e2, Bool.and_self, if_true, e3]
  cases neg <;> rfl
theorem toPs_ints : ∀ is : List Int, D.toPs (is.map D.int) = some (is.map PyData.int)
  | [] => rfl
  | i :: is => by simp [D.toPs, D.toP, toPs_ints is]
theorem lay_ints : ∀ is : List Int, PyData.canLayAll0 (is.map PyData.int) = true
  | [] => rfl
  | i :: is => by simp [PyData.canLayAll0, PyData.canLay0, lay_ints is]
theorem any_ints (d : Int) : ∀ is : List Int, ((is.map PyData.int).any fun z => PyData.eqv z (.int d)) = is.contains d
  | [] => rfl
  | i :: is => by
    have := any_ints d is
    simp only [List.map_cons, List.any_cons, this, PyData.eqv, List.contains_cons]
    rw [show (i == d) = (d == i) from Bool.eq_iff_iff.mpr ⟨fun h => by simp at h ⊢; exact h.symm, fun h => by simp at h ⊢; exact h.symm⟩]
theorem shaped_int (i : Int) : SeqAt.shaped (.int i) = true := by kernel_rfl
theorem in_ints (neg : Bool) (d : Int) (is : List Int) : fInU neg (.int d) (.tup (is.map D.int)) = some (.dat (.bl (if neg then !is.contains d else is.contains d))) := by
  have h : fIn neg (.int d) (.tup (is.map D.int)) = some (.dat (.bl (if neg then !is.contains d else is.contains d))) := by
    simp only [fIn, D.toP, toPs_ints, lay_ints, shaped_int, Bool.and_self, if_true, any_ints]
  unfold fInU
  rw [h]
  rfl
theorem lays_map {α : Type} (f : α → D) (xs : List α) (k : Nat) (h : ∀ x ∈ xs, (f x).lay k) : D.lays (xs.map f) k := lays_all fun d hd => by
  obtain ⟨x, hx, rfl⟩ := List.mem_map.mp hd
  exact h x hx
theorem lay_mono_aux : True := trivial
mutual
theorem lay_mono : ∀ (d : D) (k j : Nat), k ≤ j → d.lay k → d.lay j
  | .non, _, _, _, _ => trivial
  | .bl _, _, _, _, _ => trivial
  | .int _, _, _, _, _ => trivial
  | .str _, _, _, _, h => h
  | .tup ds, k, j, hk, h => ⟨Nat.lt_of_lt_of_le h.1 hk, lays_mono ds _ _ (Nat.sub_le_sub_right hk 1) h.2⟩
  | .lst ds, k, j, hk, h => ⟨Nat.lt_of_lt_of_le h.1 hk, lays_mono ds _ _ (Nat.sub_le_sub_right hk 1) h.2⟩
  | .dic _ _, _, _, _, h => h
  | .ins _ _ _, _, _, _, h => h
  | .fn _, _, _, _, h => h
theorem lays_mono : ∀ (ds : List D) (k j : Nat), k ≤ j → D.lays ds k → D.lays ds j
  | [], _, _, _, _ => trivial
  | d :: ds, k, j, hk, h => ⟨lay_mono d k j hk h.1, lays_mono ds k j hk h.2⟩
end
end Pd
end PdZH_text

section G07_text
set_option maxHeartbeats 4000000
namespace G07
open PySem PySem.Spec PyProof.Rows Pd
open L2 (pv FnScope op_sub op_mulX op_fdivW op_mod op_shlW op_shr op_and op_or op_xor op_pow op_eqD op_neD un_neg pe_glob pe_bltn pe_str pe_int pps_nil pps_cons tC defArgs defBody defScope nomark blkOk_by cr_sum cr_all cr_any call_abs call_max2 call_min2 call_int1 call_list_of call_tuple_of)
def top (i : Nat) : Stmt := PySem.Challenge.pw_bargainhall_k07_whole_trees.main.body.getD i (.Pass ⟨0, 0, 0, 0⟩)
def c_WORDS : D := (.tup [(.str "pass"), (.str "lose"), (.str "win"), (.str "need"), (.str "grant"), (.str "if"), (.str "then"), (.str "else"), (.str "while"), (.str "do"), (.str "more"), (.str "each"), (.str "end"), (.str "not"), (.str "and"), (.str "or"), (.str "yes"), (.str "no"), (.str "brings"), (.str "keeps"), (.str "over"), (.str "by"), (.str "so"), (.str "to"), (.str "facts"), (.str "deed"), (.str "state"), (.str "never"), (.str "can"), (.str "cannot"), (.str "only"), (.str "none")])
def c_LONGEST_NAME : D := (.int 8)
def c_MOST_TUPLES : D := (.int 60)
def c_DEEPEST_sayings : D := (.int 20)
def c_MOST_PARTS : D := (.int 60)
def c_DEEPEST_trees : D := (.int 20)
def tab_ARMS_sayings : List (Str × D) := [("yes", (.int 0)), ("no", (.int 0)), ("fact", (.int 1)), ("not", (.int 1)), ("and", (.int 2)), ("or", (.int 2))]
def tab_ARMS_trees : List (Str × D) := [("pass", (.str "")), ("lose", (.str "")), ("win", (.str "")), ("deed", (.str "n")), ("need", (.str "s")), ("grant", (.str "s")), ("then", (.str "pp")), ("own", (.str "pp")), ("other", (.str "pp")), ("if", (.str "spp")), ("while", (.str "sp")), ("more", (.str "p")), ("each", (.str "p"))]
def sub_DealsError : List (Str × Bool) := [("DealsError", true), ("WrongNumber", true), ("BadDeal", true)]
def isi_DealsError : List (Str × Bool) := [("DealsError", true), ("WrongNumber", true), ("BadDeal", true)]
def sub_WrongNumber : List (Str × Bool) := [("DealsError", false), ("WrongNumber", true), ("BadDeal", true)]
def isi_WrongNumber : List (Str × Bool) := [("DealsError", false), ("WrongNumber", true), ("BadDeal", true)]
def sub_BadDeal : List (Str × Bool) := [("DealsError", false), ("WrongNumber", false), ("BadDeal", true)]
def isi_BadDeal : List (Str × Bool) := [("DealsError", false), ("WrongNumber", false), ("BadDeal", true)]
def fl_number : List Str := ["WrongNumber", "BadDeal"]
def ok_WrongNumber : D → Bool := okMsg
structure Txt (P : Program) (w : World) (K : PySem.W.Frag) (mg : Str → Option Value) (base : Heap) : Prop where
  b_abs : mg "abs" = none
  b_all : mg "all" = none
  b_enumerate : mg "enumerate" = none
  b_int : mg "int" = none
  b_isinstance : mg "isinstance" = none
  b_len : mg "len" = none
  b_list : mg "list" = none
  b_max : mg "max" = none
  b_range : mg "range" = none
  b_str : mg "str" = none
  b_tuple : mg "tuple" = none
  c_WORDS : CN K mg "WORDS" c_WORDS
  c_LONGEST_NAME : CN K mg "LONGEST_NAME" c_LONGEST_NAME
  c_MOST_TUPLES : CN K mg "MOST_TUPLES" c_MOST_TUPLES
  c_DEEPEST_sayings : CN K mg "DEEPEST_sayings" c_DEEPEST_sayings
  c_MOST_PARTS : CN K mg "MOST_PARTS" c_MOST_PARTS
  c_DEEPEST_trees : CN K mg "DEEPEST_trees" c_DEEPEST_trees
  t_ARMS_sayings : KTab K mg w "ARMS_sayings" (tabT tab_ARMS_sayings)
  t_ARMS_trees : KTab K mg w "ARMS_trees" (tabT tab_ARMS_trees)
  x_BadDeal : XCl P w K mg base "BadDeal" "number" ok_WrongNumber
  h_DealsError : XH K mg "DealsError" sub_DealsError isi_DealsError
  h_WrongNumber : XH K mg "WrongNumber" sub_WrongNumber isi_WrongNumber
  h_BadDeal : XH K mg "BadDeal" sub_BadDeal isi_BadDeal
  f_number : FldOk K mg "number" fl_number
  d_is_listed : DefOk K mg "is_listed" ["thing"] (defArgs (top 7)) (defBody (top 7)) (defScope (top 7))
  d_is_letters : DefOk K mg "is_letters" ["thing"] (defArgs (top 8)) (defBody (top 8)) (defScope (top 8))
  d_is_name : DefOk K mg "is_name" ["thing"] (defArgs (top 9)) (defBody (top 9)) (defScope (top 9))
  d_told_saying : DefOk K mg "told_saying" ["thing", "depth", "room"] (defArgs (top 14)) (defBody (top 14)) (defScope (top 14))
  d_saying_or_none : DefOk K mg "saying_or_none" ["thing"] (defArgs (top 15)) (defBody (top 15)) (defScope (top 15))
  d_head_of : DefOk K mg "head_of" ["thing"] (defArgs (top 20)) (defBody (top 20)) (defScope (top 20))
  d_walked : DefOk K mg "walked" ["thing", "depth", "spot"] (defArgs (top 22)) (defBody (top 22)) (defScope (top 22))
  d_checked_tree : DefOk K mg "checked_tree" ["thing"] (defArgs (top 23)) (defBody (top 23)) (defScope (top 23))
  d_arms_of : DefOk K mg "arms_of" ["part"] (defArgs (top 21)) (defBody (top 21)) (defScope (top 21))
  d_all_parts : DefOk K mg "all_parts" ["tree"] (defArgs (top 24)) (defBody (top 24)) (defScope (top 24))
  d_parts_of : DefOk K mg "parts_of" ["tree"] (defArgs (top 25)) (defBody (top 25)) (defScope (top 25))
  d_inner_spots : DefOk K mg "inner_spots" ["tree", "spot"] (defArgs (top 26)) (defBody (top 26)) (defScope (top 26))
  d_after_spots : DefOk K mg "after_spots" ["parts", "inner"] (defArgs (top 27)) (defBody (top 27)) (defScope (top 27))
  d_followers : DefOk K mg "followers" ["tree"] (defArgs (top 28)) (defBody (top 28)) (defScope (top 28))
  d__law_source : DefOk K mg "_law_source" ["script", "place"] (defArgs (top 30)) (defBody (top 30)) (defScope (top 30))
  d__law_pick : DefOk K mg "_law_pick" ["source", "many"] (defArgs (top 31)) (defBody (top 31)) (defScope (top 31))
  d__law_say : DefOk K mg "_law_say" ["source", "facts", "depth"] (defArgs (top 32)) (defBody (top 32)) (defScope (top 32))
  d__law_leaf : DefOk K mg "_law_leaf" ["source", "facts", "names"] (defArgs (top 33)) (defBody (top 33)) (defScope (top 33))
  d__law_tree : DefOk K mg "_law_tree" ["source", "facts", "names", "size"] (defArgs (top 34)) (defBody (top 34)) (defScope (top 34))
  d__law_arms : DefOk K mg "_law_arms" ["part"] (defArgs (top 35)) (defBody (top 35)) (defScope (top 35))
  d__law_parts : DefOk K mg "_law_parts" ["tree"] (defArgs (top 36)) (defBody (top 36)) (defScope (top 36))
  d__law_put_at : DefOk K mg "_law_put_at" ["tree", "spot", "put"] (defArgs (top 37)) (defBody (top 37)) (defScope (top 37))
  d__law_fact_names : DefOk K mg "_law_fact_names" ["source", "many"] (defArgs (top 38)) (defBody (top 38)) (defScope (top 38))
  d__law_deed_names : DefOk K mg "_law_deed_names" ["source", "many"] (defArgs (top 39)) (defBody (top 39)) (defScope (top 39))
  d__law_lists : DefOk K mg "_law_lists" ["thing"] (defArgs (top 40)) (defBody (top 40)) (defScope (top 40))
  d__law_follow : DefOk K mg "_law_follow" ["tree", "behind", "at"] (defArgs (top 41)) (defBody (top 41)) (defScope (top 41))
  d__law_refusal : DefOk K mg "_law_refusal" ["which", "tree"] (defArgs (top 42)) (defBody (top 42)) (defScope (top 42))
  d__law_wrong : DefOk K mg "_law_wrong" ["source", "old"] (defArgs (top 43)) (defBody (top 43)) (defScope (top 43))
  d__law_tower : DefOk K mg "_law_tower" ["many", "kind"] (defArgs (top 44)) (defBody (top 44)) (defScope (top 44))
  d__law_broad : DefOk K mg "_law_broad" ["many"] (defArgs (top 45)) (defBody (top 45)) (defScope (top 45))
  d_law : DefOk K mg "law" ["script"] (defArgs (top 46)) (defBody (top 46)) (defScope (top 46))
variable {P : Program} {w : World} {K : PySem.W.Frag} {mg : Str → Option Value} {base : Heap}
/-! is_listed -/
def g_is_listed : GS := (gRet (gUn (fIsi [("NoneType", false), ("bool", false), ("int", false), ("str", false), ("tuple", true), ("list", true), ("dict", false)]) (gVar 0)))
def m_is_listed : Mir := runBody (List.length (α := Str) ["thing"]) (List.length (α := Str) ["thing"]) [] g_is_listed
theorem sc_is_listed : FnScope ["thing"] ["thing"] (defScope (top 7)) := ⟨rfl, rfl, rfl, by decide +kernel, rfl, by decide +kernel, by decide +kernel⟩
theorem fd_is_listed (T : Txt P w K mg base) : FD P w K mg base 2 "is_listed" [] m_is_listed := by
  exact T.d_is_listed.fd (k := 1) (mods := []) (g := g_is_listed) sc_is_listed fun f cdv A outer s H E F W bc => (pss_one (ps_ret (m := []) (pd_isi2 (T := "tuple") (U := "list") (tab := [("NoneType", false), ("bool", false), ("int", false), ("str", false), ("tuple", true), ("list", true), ("dict", false)]) rfl T.b_isinstance (by decide +kernel) (po_var (pv 0)) (pe_bltn (v := .ty "tuple") (u := .type "tuple") rfl T.b_tuple (by first | rfl | decide +kernel) rfl) (pe_bltn (v := .ty "list") (u := .type "list") rfl T.b_list (by first | rfl | decide +kernel) rfl))))
/-! is_letters -/
def g_is_letters : GS := (gSeq (gIfS (gOr (gNot (gTru (gO (gV (gUn (fIsi [("NoneType", false), ("bool", false), ("int", false), ("str", true), ("tuple", false), ("list", false), ("dict", false)]) (gVar 0)))))) (gNot (gB (gChain fLe fLe (gO (gC (.int 1))) (gO (gV (gCall fLen (gaCons (gVar 0) gaNil)))) (gO (gC c_LONGEST_NAME)))))) (gRet (gE (gC (.bl false)))) gNx)
  (gRet (gCall fAll (gaCons (gO (gV (gComp (gItems (gNam 0)) (gtName 1) gYes (gV (gChain fLe fLe (gO (gC (.str "a"))) (gVar 1) (gO (gC (.str "z"))))) [1]))) gaNil))))
def m_is_letters : Mir := runBody (List.length (α := Str) ["thing"]) (List.length (α := Str) ["thing", "letter"]) (([] ++ []) ++ []) g_is_letters
theorem sc_is_letters : FnScope ["thing", "letter"] ["thing"] (defScope (top 8)) := ⟨rfl, rfl, rfl, by decide +kernel, rfl, by decide +kernel, by decide +kernel⟩
theorem fd_is_letters (T : Txt P w K mg base) : FD P w K mg base 2 "is_letters" [] m_is_letters := by
  exact T.d_is_letters.fd (k := 1) (mods := (([] ++ []) ++ [])) (g := g_is_letters) sc_is_letters fun f cdv A outer s H E F W bc => (pss_cons (m := ([] ++ [])) (n := []) (ps_if (m := []) (n := []) (PBw.pb (pw_or (pb_not (pb_tru (PV.o (PD.v (pd_isi (T := "str") (tab := [("NoneType", false), ("bool", false), ("int", false), ("str", true), ("tuple", false), ("list", false), ("dict", false)]) rfl T.b_isinstance (by decide +kernel) (po_var (pv 0)) (pe_bltn (v := .ty "str") (u := .type "str") rfl T.b_str (by first | rfl | decide +kernel) rfl)))))) (pw_or1 (pb_not (pb_chain op_leA od_isS op_leA od_isS (PV.o pv_int) (PV.o (PD.v (pd_callB call_lenA cd_len rfl T.b_len (by first | rfl | decide +kernel) (pas_cons (po_var (pv 0)) pas_nil)))) (PV.o (pv_cn T.c_LONGEST_NAME rfl))))))) (pss_one (ps_ret (m := []) (PV.d pv_bl))) (pss_nil (m := [])))
    (pss_one (ps_ret (m := []) (pd_callB (cr_all bc.calm) cd_all rfl T.b_all (by first | rfl | decide +kernel) (pas_cons (PV.o (PD.v (pd_lc (own := [("letter", 1)]) (ts := [1]) (by decide) bc (pi_items (pv_nam (pv 0))) (blkOk_by (N := ["thing", "letter"]) (sc := defScope (top 8)) (by decide +kernel)) (fun s H C cl fp F => (pg_nameD bc.nd (i := 1) rfl (by first | exact Or.inl rfl | exact Or.inr rfl))) (fun s H C cl fp F bc => pbs_nil) (fun s H C cl fp F bc => (PD.v (pd_chain op_leA od_isS op_leA od_isS (PV.o pv_str) (po_var (pv 1)) (PV.o pv_str))))))) pas_nil)))))
/-! is_name -/
def g_is_name : GS := (gRet (gAndV (gCallF m_is_letters [] (gaCons (gVar 0) gaNil)) (gBin (fInU true) (gVar 0) (gO (gC c_WORDS)))))
def m_is_name : Mir := runBody (List.length (α := Str) ["thing"]) (List.length (α := Str) ["thing"]) [] g_is_name
theorem sc_is_name : FnScope ["thing"] ["thing"] (defScope (top 9)) := ⟨rfl, rfl, rfl, by decide +kernel, rfl, by decide +kernel, by decide +kernel⟩
theorem fd_is_name (T : Txt P w K mg base) : FD P w K mg base 3 "is_name" [] m_is_name := by
  have h_is_letters := fd_is_letters (P := P) (w := w) (K := K) (mg := mg) (base := base) T
  exact T.d_is_name.fd (k := 2) (mods := []) (g := g_is_name) sc_is_name fun f cdv A outer s H E F W bc => (pss_one (ps_ret (m := []) (pd_and (pd_call h_is_letters bc (by omega) rfl (pas_cons (po_var (pv 0)) pas_nil)) (pd_one (pd_notIn bc (po_var (pv 0)) (PV.o (pv_cn T.c_WORDS rfl)) (by rfl))))))
/-! told_saying -/
def g_told_saying (m : Mir) : GS := (gSeq (gIfS (gOr (gB (gBin fGt (gVar 1) (gO (gC c_DEEPEST_sayings)))) (gOr (gB (gBin (fEq false) (gVar 2) (gO (gC (.int 0))))) (gOr (gNot (gTru (gO (gV (gCallF m_is_listed [] (gaCons (gVar 0) gaNil)))))) (gB (gBin (fEq false) (gO (gV (gCall fLen (gaCons (gVar 0) gaNil)))) (gO (gC (.int 0)))))))) (gRet (gE (gC .non))) gNx)
  (gSeq (gSet 3 (gBin fIxU (gVar 0) (gO (gC (.int 0)))))
  (gSeq (gIfS (gOr (gNot (gTru (gO (gV (gUn (fIsi [("NoneType", false), ("bool", false), ("int", false), ("str", true), ("tuple", false), ("list", false), ("dict", false)]) (gVar 3)))))) (gOr (gB (gBin (fInK "ARMS_sayings" (tabT tab_ARMS_sayings) true) (gVar 3) (gO (gC (.fn "ARMS_sayings"))))) (gB (gBin (fEq true) (gO (gV (gCall fLen (gaCons (gVar 0) gaNil)))) (gO (gV (gBin fAdd (gO (gV (gBin (fIxK "ARMS_sayings" (tabT tab_ARMS_sayings)) (gO (gC (.fn "ARMS_sayings"))) (gVar 3)))) (gO (gC (.int 1)))))))))) (gRet (gE (gC .non))) gNx)
  (gSeq (gIfS (gB (gBin (fEq false) (gVar 3) (gO (gC (.str "fact"))))) (gRet (gE (gTup (gsCons (gTup (gsCons (gNam 3) (gsCons (gV (gBin fIxU (gVar 0) (gO (gC (.int 1))))) gsNil))) (gsCons (gV (gIf (gTru (gO (gV (gCallF m_is_name [] (gaCons (gO (gV (gBin fIxU (gVar 0) (gO (gC (.int 1)))))) gaNil))))) (gBin fSub (gVar 2) (gO (gC (.int 1)))) (gE (gC .non)))) gsNil))))) gNx)
  (gSeq (gSet 4 (gLst (gsCons (gNam 3) gsNil)))
  (gSeq (gSet 5 (gBin fSub (gVar 2) (gO (gC (.int 1)))))
  (gSeq (gFor (gItems (gV (gSl fSl (gVar 0) (gpSome (gO (gC (.int 1)))) gpNone))) (gtName 6) (gSeq (gSet 7 (gCallF m [] (gaCons (gVar 6) (gaCons (gO (gV (gBin fAdd (gVar 1) (gO (gC (.int 1)))))) (gaCons (gVar 5) gaNil)))))
  (gSeq (gIfS (gOr (gB (gBin (fIs false) (gVar 7) (gO (gC .non)))) (gB (gBin (fIs false) (gO (gV (gBin fIxU (gVar 7) (gO (gC (.int 1)))))) (gO (gC .non))))) (gRet (gE (gC .non))) gNx)
  (gSeq (gAppend 4 (gV (gBin fIxU (gVar 7) (gO (gC (.int 0))))))
  (gSet 5 (gBin fIxU (gVar 7) (gO (gC (.int 1)))))))) [6, 7])
  (gRet (gE (gTup (gsCons (gV (gCall fTuple (gaCons (gVar 4) gaNil))) (gsCons (gNam 5) gsNil))))))))))))
def m_told_saying : Nat → Mir
  | 0 => fun _ => .bad
  | n + 1 => runBody (List.length (α := Str) ["thing", "depth", "room"]) (List.length (α := Str) ["thing", "depth", "room", "kind", "told", "left", "arm", "found"]) (([] ++ []) ++ ([3] ++ (([] ++ []) ++ (([] ++ []) ++ ([4] ++ ([5] ++ (([6] ++ ([7] ++ (([] ++ []) ++ ([] ++ [5])))) ++ []))))))) (g_told_saying (m_told_saying n))
theorem sc_told_saying : FnScope ["thing", "depth", "room", "kind", "told", "left", "arm", "found"] ["thing", "depth", "room"] (defScope (top 14)) := ⟨rfl, rfl, rfl, by decide +kernel, rfl, by decide +kernel, by decide +kernel⟩
theorem fdn_told_saying (T : Txt P w K mg base) : ∀ n : Nat, FD P w K mg base (3 + n) "told_saying" [] (m_told_saying n)
  | 0 => T.d_told_saying.bad _
  | n + 1 => by
    have IH := fdn_told_saying T n
    have h_is_listed := fd_is_listed (P := P) (w := w) (K := K) (mg := mg) (base := base) T
    have h_is_name := fd_is_name (P := P) (w := w) (K := K) (mg := mg) (base := base) T
    exact T.d_told_saying.fd (k := 3 + n) (mods := (([] ++ []) ++ ([3] ++ (([] ++ []) ++ (([] ++ []) ++ ([4] ++ ([5] ++ (([6] ++ ([7] ++ (([] ++ []) ++ ([] ++ [5])))) ++ [])))))))) (g := g_told_saying (m_told_saying n)) sc_told_saying fun f cdv A outer s H E F W bc => (pss_cons (m := ([] ++ [])) (n := ([3] ++ (([] ++ []) ++ (([] ++ []) ++ ([4] ++ ([5] ++ (([6] ++ ([7] ++ (([] ++ []) ++ ([] ++ [5])))) ++ []))))))) (ps_if (m := []) (n := []) (PBw.pb (pw_or (pb_cmp op_gtA od_isS (po_var (pv 1)) (PV.o (pv_cn T.c_DEEPEST_sayings rfl)) (nomark _)) (pw_or (pb_cmp (op_eqD bc.hu) od_eq (po_var (pv 2)) (PV.o pv_int) (nomark _)) (pw_or (pb_not (pb_tru (PV.o (PD.v (pd_call h_is_listed bc (by omega) rfl (pas_cons (po_var (pv 0)) pas_nil)))))) (pw_or1 (pb_cmp (op_eqD bc.hu) od_eq (PV.o (PD.v (pd_callB call_lenA cd_len rfl T.b_len (by first | rfl | decide +kernel) (pas_cons (po_var (pv 0)) pas_nil)))) (PV.o pv_int) (nomark _))))))) (pss_one (ps_ret (m := []) (PV.d pv_non))) (pss_nil (m := [])))
    (pss_cons (m := [3]) (n := (([] ++ []) ++ (([] ++ []) ++ ([4] ++ ([5] ++ (([6] ++ ([7] ++ (([] ++ []) ++ ([] ++ [5])))) ++ [])))))) (ps_set (i := 3) bc.nd rfl (by first | exact Or.inl rfl | exact Or.inr rfl) (pd_ixU bc (po_var (pv 0)) (PV.o pv_int) (fun _ _ => rfl)))
    (pss_cons (m := ([] ++ [])) (n := (([] ++ []) ++ ([4] ++ ([5] ++ (([6] ++ ([7] ++ (([] ++ []) ++ ([] ++ [5])))) ++ []))))) (ps_if (m := []) (n := []) (PBw.pb (pw_or (pb_not (pb_tru (PV.o (PD.v (pd_isi (T := "str") (tab := [("NoneType", false), ("bool", false), ("int", false), ("str", true), ("tuple", false), ("list", false), ("dict", false)]) rfl T.b_isinstance (by decide +kernel) (po_var (pv 3)) (pe_bltn (v := .ty "str") (u := .type "str") rfl T.b_str (by first | rfl | decide +kernel) rfl)))))) (pw_or (pb_notInK T.t_ARMS_sayings (po_var (pv 3)) (PV.o (pv_cn T.t_ARMS_sayings.cn rfl)) (by rfl)) (pw_or1 (pb_cmp (op_neD bc.hu) od_ne (PV.o (PD.v (pd_callB call_lenA cd_len rfl T.b_len (by first | rfl | decide +kernel) (pas_cons (po_var (pv 0)) pas_nil)))) (PV.o (PD.v (pd_bin op_addA od_add (PV.o (PD.v (pd_ixK T.t_ARMS_sayings (PV.o (pv_cn T.t_ARMS_sayings.cn rfl)) (po_var (pv 3)) (fun _ _ => rfl)))) (PV.o pv_int)))) (nomark _)))))) (pss_one (ps_ret (m := []) (PV.d pv_non))) (pss_nil (m := [])))
    (pss_cons (m := ([] ++ [])) (n := ([4] ++ ([5] ++ (([6] ++ ([7] ++ (([] ++ []) ++ ([] ++ [5])))) ++ [])))) (ps_if (m := []) (n := []) (pb_cmp (op_eqD bc.hu) od_eq (po_var (pv 3)) (PV.o pv_str) (nomark _)) (pss_one (ps_ret (m := []) (PV.d (pv_tup (pvs_cons (pv_tup (pvs_cons (pv_nam (pv 3)) (pvs_cons (PD.v (pd_ixU bc (po_var (pv 0)) (PV.o pv_int) (fun _ _ => rfl))) pvs_nil))) (pvs_cons (PD.v (pd_if (pb_tru (PV.o (PD.v (pd_call h_is_name bc (by omega) rfl (pas_cons (PV.o (PD.v (pd_ixU bc (po_var (pv 0)) (PV.o pv_int) (fun _ _ => rfl)))) pas_nil))))) (pd_bin op_sub od_sub (po_var (pv 2)) (PV.o pv_int)) (PV.d pv_non))) pvs_nil)))))) (pss_nil (m := [])))
    (pss_cons (m := [4]) (n := ([5] ++ (([6] ++ ([7] ++ (([] ++ []) ++ ([] ++ [5])))) ++ []))) (ps_set (i := 4) bc.nd rfl (by first | exact Or.inl rfl | exact Or.inr rfl) (pd_lst (pvs_cons (pv_nam (pv 3)) pvs_nil)))
    (pss_cons (m := [5]) (n := (([6] ++ ([7] ++ (([] ++ []) ++ ([] ++ [5])))) ++ [])) (ps_set (i := 5) bc.nd rfl (by first | exact Or.inl rfl | exact Or.inr rfl) (pd_bin op_sub od_sub (po_var (pv 2)) (PV.o pv_int)))
    (pss_cons (m := ([6] ++ ([7] ++ (([] ++ []) ++ ([] ++ [5]))))) (n := []) (ps_forD (ts := [6]) (m := ([7] ++ (([] ++ []) ++ ([] ++ [5])))) [6, 7] bc (pi_items (PD.v (pd_sl sl_all sd_all (po_var (pv 0)) (pp_some (PV.o pv_int)) pp_none))) (pg_nameD bc.nd (i := 6) rfl (by first | exact Or.inl rfl | exact Or.inr rfl)) (pss_cons (m := [7]) (n := (([] ++ []) ++ ([] ++ [5]))) (ps_set (i := 7) bc.nd rfl (by first | exact Or.inl rfl | exact Or.inr rfl) (pd_call IH bc (by omega) rfl (pas_cons (po_var (pv 6)) (pas_cons (PV.o (PD.v (pd_bin op_addA od_add (po_var (pv 1)) (PV.o pv_int)))) (pas_cons (po_var (pv 5)) pas_nil)))))
    (pss_cons (m := ([] ++ [])) (n := ([] ++ [5])) (ps_if (m := []) (n := []) (PBw.pb (pw_or (pb_cmp op_isC od_is (po_var (pv 7)) (PV.o pv_non) (nomark _)) (pw_or1 (pb_cmp op_isC od_is (PV.o (PD.v (pd_ixU bc (po_var (pv 7)) (PV.o pv_int) (fun _ _ => rfl)))) (PV.o pv_non) (nomark _))))) (pss_one (ps_ret (m := []) (PV.d pv_non))) (pss_nil (m := [])))
    (pss_cons (m := []) (n := [5]) (ps_appendD (pv 4) (PD.v (pd_ixU bc (po_var (pv 7)) (PV.o pv_int) (fun _ _ => rfl))))
    (pss_one (ps_set (i := 5) bc.nd rfl (by first | exact Or.inl rfl | exact Or.inr rfl) (pd_ixU bc (po_var (pv 7)) (PV.o pv_int) (fun _ _ => rfl))))))))
    (pss_one (ps_ret (m := []) (PV.d (pv_tup (pvs_cons (PD.v (pd_callTy call_tuple_of cd_tuple rfl T.b_tuple (by first | rfl | decide +kernel) (pas_cons (po_var (pv 4)) pas_nil))) (pvs_cons (pv_nam (pv 5)) pvs_nil)))))))))))))
theorem fd_told_saying (T : Txt P w K mg base) : FD P w K mg base 35 "told_saying" [] (m_told_saying 32) := fdn_told_saying T 32
/-! saying_or_none -/
def g_saying_or_none : GS := (gSeq (gSet 1 (gCallF (m_told_saying 32) [] (gaCons (gVar 0) (gaCons (gO (gC (.int 0))) (gaCons (gO (gC c_MOST_TUPLES)) gaNil)))))
  (gSeq (gIfS (gOr (gB (gBin (fIs false) (gVar 1) (gO (gC .non)))) (gB (gBin (fIs false) (gO (gV (gBin fIxU (gVar 1) (gO (gC (.int 1)))))) (gO (gC .non))))) (gRet (gE (gC .non))) gNx)
  (gRet (gBin fIxU (gVar 1) (gO (gC (.int 0)))))))
def m_saying_or_none : Mir := runBody (List.length (α := Str) ["thing"]) (List.length (α := Str) ["thing", "found"]) ([1] ++ (([] ++ []) ++ [])) g_saying_or_none
theorem sc_saying_or_none : FnScope ["thing", "found"] ["thing"] (defScope (top 15)) := ⟨rfl, rfl, rfl, by decide +kernel, rfl, by decide +kernel, by decide +kernel⟩
theorem fd_saying_or_none (T : Txt P w K mg base) : FD P w K mg base 36 "saying_or_none" [] m_saying_or_none := by
  have h_told_saying := fd_told_saying (P := P) (w := w) (K := K) (mg := mg) (base := base) T
  exact T.d_saying_or_none.fd (k := 35) (mods := ([1] ++ (([] ++ []) ++ []))) (g := g_saying_or_none) sc_saying_or_none fun f cdv A outer s H E F W bc => (pss_cons (m := [1]) (n := (([] ++ []) ++ [])) (ps_set (i := 1) bc.nd rfl (by first | exact Or.inl rfl | exact Or.inr rfl) (pd_call h_told_saying bc (by omega) rfl (pas_cons (po_var (pv 0)) (pas_cons (PV.o pv_int) (pas_cons (PV.o (pv_cn T.c_MOST_TUPLES rfl)) pas_nil)))))
    (pss_cons (m := ([] ++ [])) (n := []) (ps_if (m := []) (n := []) (PBw.pb (pw_or (pb_cmp op_isC od_is (po_var (pv 1)) (PV.o pv_non) (nomark _)) (pw_or1 (pb_cmp op_isC od_is (PV.o (PD.v (pd_ixU bc (po_var (pv 1)) (PV.o pv_int) (fun _ _ => rfl)))) (PV.o pv_non) (nomark _))))) (pss_one (ps_ret (m := []) (PV.d pv_non))) (pss_nil (m := [])))
    (pss_one (ps_ret (m := []) (pd_ixU bc (po_var (pv 1)) (PV.o pv_int) (fun _ _ => rfl))))))
/-! head_of -/
def g_head_of : GS := (gSeq (gIfS (gOr (gNot (gTru (gO (gV (gCallF m_is_listed [] (gaCons (gVar 0) gaNil)))))) (gB (gBin (fEq false) (gO (gV (gCall fLen (gaCons (gVar 0) gaNil)))) (gO (gC (.int 0)))))) (gRet (gE (gC .non))) gNx)
  (gSeq (gSet 1 (gBin fIxU (gVar 0) (gO (gC (.int 0)))))
  (gSeq (gIfS (gOr (gNot (gTru (gO (gV (gUn (fIsi [("NoneType", false), ("bool", false), ("int", false), ("str", true), ("tuple", false), ("list", false), ("dict", false)]) (gVar 1)))))) (gOr (gB (gBin (fInK "ARMS_trees" (tabT tab_ARMS_trees) true) (gVar 1) (gO (gC (.fn "ARMS_trees"))))) (gB (gBin (fEq true) (gO (gV (gCall fLen (gaCons (gVar 0) gaNil)))) (gO (gV (gBin fAdd (gO (gV (gCall fLen (gaCons (gO (gV (gBin (fIxK "ARMS_trees" (tabT tab_ARMS_trees)) (gO (gC (.fn "ARMS_trees"))) (gVar 1)))) gaNil)))) (gO (gC (.int 1)))))))))) (gRet (gE (gC .non))) gNx)
  (gSeq (gIfS (gB (gBin (fEq false) (gO (gV (gBin (fIxK "ARMS_trees" (tabT tab_ARMS_trees)) (gO (gC (.fn "ARMS_trees"))) (gVar 1)))) (gO (gC (.str "n"))))) (gRet (gIf (gTru (gO (gV (gCallF m_is_name [] (gaCons (gO (gV (gBin fIxU (gVar 0) (gO (gC (.int 1)))))) gaNil))))) (gE (gTup (gsCons (gNam 1) (gsCons (gV (gBin fIxU (gVar 0) (gO (gC (.int 1))))) gsNil)))) (gE (gC .non)))) gNx)
  (gSeq (gIfS (gB (gBin (fEq true) (gO (gV (gSl fSl (gO (gV (gBin (fIxK "ARMS_trees" (tabT tab_ARMS_trees)) (gO (gC (.fn "ARMS_trees"))) (gVar 1)))) gpNone (gpSome (gO (gC (.int 1))))))) (gO (gC (.str "s"))))) (gRet (gE (gTup (gsCons (gNam 1) gsNil)))) gNx)
  (gSeq (gSet 2 (gCallF m_saying_or_none [] (gaCons (gO (gV (gBin fIxU (gVar 0) (gO (gC (.int 1)))))) gaNil)))
  (gRet (gIf (gB (gBin (fIs false) (gVar 2) (gO (gC .non)))) (gE (gC .non)) (gE (gTup (gsCons (gNam 1) (gsCons (gNam 2) gsNil))))))))))))
def m_head_of : Mir := runBody (List.length (α := Str) ["thing"]) (List.length (α := Str) ["thing", "kind", "saying"]) (([] ++ []) ++ ([1] ++ (([] ++ []) ++ (([] ++ []) ++ (([] ++ []) ++ ([2] ++ [])))))) g_head_of
theorem sc_head_of : FnScope ["thing", "kind", "saying"] ["thing"] (defScope (top 20)) := ⟨rfl, rfl, rfl, by decide +kernel, rfl, by decide +kernel, by decide +kernel⟩
theorem fd_head_of (T : Txt P w K mg base) : FD P w K mg base 37 "head_of" [] m_head_of := by
  have h_is_listed := fd_is_listed (P := P) (w := w) (K := K) (mg := mg) (base := base) T
  have h_is_name := fd_is_name (P := P) (w := w) (K := K) (mg := mg) (base := base) T
  have h_saying_or_none := fd_saying_or_none (P := P) (w := w) (K := K) (mg := mg) (base := base) T
  exact T.d_head_of.fd (k := 36) (mods := (([] ++ []) ++ ([1] ++ (([] ++ []) ++ (([] ++ []) ++ (([] ++ []) ++ ([2] ++ []))))))) (g := g_head_of) sc_head_of fun f cdv A outer s H E F W bc => (pss_cons (m := ([] ++ [])) (n := ([1] ++ (([] ++ []) ++ (([] ++ []) ++ (([] ++ []) ++ ([2] ++ [])))))) (ps_if (m := []) (n := []) (PBw.pb (pw_or (pb_not (pb_tru (PV.o (PD.v (pd_call h_is_listed bc (by omega) rfl (pas_cons (po_var (pv 0)) pas_nil)))))) (pw_or1 (pb_cmp (op_eqD bc.hu) od_eq (PV.o (PD.v (pd_callB call_lenA cd_len rfl T.b_len (by first | rfl | decide +kernel) (pas_cons (po_var (pv 0)) pas_nil)))) (PV.o pv_int) (nomark _))))) (pss_one (ps_ret (m := []) (PV.d pv_non))) (pss_nil (m := [])))
    (pss_cons (m := [1]) (n := (([] ++ []) ++ (([] ++ []) ++ (([] ++ []) ++ ([2] ++ []))))) (ps_set (i := 1) bc.nd rfl (by first | exact Or.inl rfl | exact Or.inr rfl) (pd_ixU bc (po_var (pv 0)) (PV.o pv_int) (fun _ _ => rfl)))
    (pss_cons (m := ([] ++ [])) (n := (([] ++ []) ++ (([] ++ []) ++ ([2] ++ [])))) (ps_if (m := []) (n := []) (PBw.pb (pw_or (pb_not (pb_tru (PV.o (PD.v (pd_isi (T := "str") (tab := [("NoneType", false), ("bool", false), ("int", false), ("str", true), ("tuple", false), ("list", false), ("dict", false)]) rfl T.b_isinstance (by decide +kernel) (po_var (pv 1)) (pe_bltn (v := .ty "str") (u := .type "str") rfl T.b_str (by first | rfl | decide +kernel) rfl)))))) (pw_or (pb_notInK T.t_ARMS_trees (po_var (pv 1)) (PV.o (pv_cn T.t_ARMS_trees.cn rfl)) (by rfl)) (pw_or1 (pb_cmp (op_neD bc.hu) od_ne (PV.o (PD.v (pd_callB call_lenA cd_len rfl T.b_len (by first | rfl | decide +kernel) (pas_cons (po_var (pv 0)) pas_nil)))) (PV.o (PD.v (pd_bin op_addA od_add (PV.o (PD.v (pd_callB call_lenA cd_len rfl T.b_len (by first | rfl | decide +kernel) (pas_cons (PV.o (PD.v (pd_ixK T.t_ARMS_trees (PV.o (pv_cn T.t_ARMS_trees.cn rfl)) (po_var (pv 1)) (fun _ _ => rfl)))) pas_nil)))) (PV.o pv_int)))) (nomark _)))))) (pss_one (ps_ret (m := []) (PV.d pv_non))) (pss_nil (m := [])))
    (pss_cons (m := ([] ++ [])) (n := (([] ++ []) ++ ([2] ++ []))) (ps_if (m := []) (n := []) (pb_cmp (op_eqD bc.hu) od_eq (PV.o (PD.v (pd_ixK T.t_ARMS_trees (PV.o (pv_cn T.t_ARMS_trees.cn rfl)) (po_var (pv 1)) (fun _ _ => rfl)))) (PV.o pv_str) (nomark _)) (pss_one (ps_ret (m := []) (pd_if (pb_tru (PV.o (PD.v (pd_call h_is_name bc (by omega) rfl (pas_cons (PV.o (PD.v (pd_ixU bc (po_var (pv 0)) (PV.o pv_int) (fun _ _ => rfl)))) pas_nil))))) (PV.d (pv_tup (pvs_cons (pv_nam (pv 1)) (pvs_cons (PD.v (pd_ixU bc (po_var (pv 0)) (PV.o pv_int) (fun _ _ => rfl))) pvs_nil)))) (PV.d pv_non)))) (pss_nil (m := [])))
    (pss_cons (m := ([] ++ [])) (n := ([2] ++ [])) (ps_if (m := []) (n := []) (pb_cmp (op_neD bc.hu) od_ne (PV.o (PD.v (pd_sl sl_all sd_all (PV.o (PD.v (pd_ixK T.t_ARMS_trees (PV.o (pv_cn T.t_ARMS_trees.cn rfl)) (po_var (pv 1)) (fun _ _ => rfl)))) pp_none (pp_some (PV.o pv_int))))) (PV.o pv_str) (nomark _)) (pss_one (ps_ret (m := []) (PV.d (pv_tup (pvs_cons (pv_nam (pv 1)) pvs_nil))))) (pss_nil (m := [])))
    (pss_cons (m := [2]) (n := []) (ps_set (i := 2) bc.nd rfl (by first | exact Or.inl rfl | exact Or.inr rfl) (pd_call h_saying_or_none bc (by omega) rfl (pas_cons (PV.o (PD.v (pd_ixU bc (po_var (pv 0)) (PV.o pv_int) (fun _ _ => rfl)))) pas_nil)))
    (pss_one (ps_ret (m := []) (pd_if (pb_cmp op_isC od_is (po_var (pv 2)) (PV.o pv_non) (nomark _)) (PV.d pv_non) (PV.d (pv_tup (pvs_cons (pv_nam (pv 1)) (pvs_cons (pv_nam (pv 2)) pvs_nil)))))))))))))
/-! walked -/
def g_walked (m : Mir) : GS := (gSeq (gIfS (gOr (gB (gBin fGe (gVar 2) (gO (gC c_MOST_PARTS)))) (gB (gBin fGt (gVar 1) (gO (gC c_DEEPEST_trees))))) (gRaise "BadDeal" "number" ok_WrongNumber (gNam 2)) gNx)
  (gSeq (gSet 3 (gCallF m_head_of [] (gaCons (gVar 0) gaNil)))
  (gSeq (gIfS (gB (gBin (fIs false) (gVar 3) (gO (gC .non)))) (gRaise "BadDeal" "number" ok_WrongNumber (gNam 2)) gNx)
  (gSeq (gSet 4 (gCall fList (gaCons (gVar 3) gaNil)))
  (gSeq (gSet 5 (gBin fAdd (gVar 2) (gO (gC (.int 1)))))
  (gSeq (gFor (gItems (gV (gSl fSl (gVar 0) (gpSome (gO (gV (gCall fLen (gaCons (gVar 3) gaNil))))) gpNone))) (gtName 6) (gSeq (gSetT (gV (gCallF m [] (gaCons (gVar 6) (gaCons (gO (gV (gBin fAdd (gVar 1) (gO (gC (.int 1)))))) (gaCons (gVar 5) gaNil))))) (gtTup 2 (gtsCons (gtName 7) (gtsCons (gtName 5) gtsNil))))
  (gAppend 4 (gNam 7))) [6, 7])
  (gRet (gE (gTup (gsCons (gV (gCall fTuple (gaCons (gVar 4) gaNil))) (gsCons (gNam 5) gsNil)))))))))))
def m_walked : Nat → Mir
  | 0 => fun _ => .bad
  | n + 1 => runBody (List.length (α := Str) ["thing", "depth", "spot"]) (List.length (α := Str) ["thing", "depth", "spot", "head", "told", "at", "arm", "inner"]) (([] ++ []) ++ ([3] ++ (([] ++ []) ++ ([4] ++ ([5] ++ (([6] ++ (([7] ++ ([5] ++ [])) ++ [])) ++ [])))))) (g_walked (m_walked n))
theorem sc_walked : FnScope ["thing", "depth", "spot", "head", "told", "at", "arm", "inner"] ["thing", "depth", "spot"] (defScope (top 22)) := ⟨rfl, rfl, rfl, by decide +kernel, rfl, by decide +kernel, by decide +kernel⟩
theorem fdn_walked (T : Txt P w K mg base) : ∀ n : Nat, FD P w K mg base (37 + n) "walked" [] (m_walked n)
  | 0 => T.d_walked.bad _
  | n + 1 => by
    have IH := fdn_walked T n
    have h_head_of := fd_head_of (P := P) (w := w) (K := K) (mg := mg) (base := base) T
    exact T.d_walked.fd (k := 37 + n) (mods := (([] ++ []) ++ ([3] ++ (([] ++ []) ++ ([4] ++ ([5] ++ (([6] ++ (([7] ++ ([5] ++ [])) ++ [])) ++ []))))))) (g := g_walked (m_walked n)) sc_walked fun f cdv A outer s H E F W bc => (pss_cons (m := ([] ++ [])) (n := ([3] ++ (([] ++ []) ++ ([4] ++ ([5] ++ (([6] ++ (([7] ++ ([5] ++ [])) ++ [])) ++ [])))))) (ps_if (m := []) (n := []) (PBw.pb (pw_or (pb_cmp op_geA od_isS (po_var (pv 2)) (PV.o (pv_cn T.c_MOST_PARTS rfl)) (nomark _)) (pw_or1 (pb_cmp op_gtA od_isS (po_var (pv 1)) (PV.o (pv_cn T.c_DEEPEST_trees rfl)) (nomark _))))) (pss_one (ps_raiseD (m := []) bc (by omega) T.x_BadDeal (pv_nam (pv 2)) rfl)) (pss_nil (m := [])))
    (pss_cons (m := [3]) (n := (([] ++ []) ++ ([4] ++ ([5] ++ (([6] ++ (([7] ++ ([5] ++ [])) ++ [])) ++ []))))) (ps_set (i := 3) bc.nd rfl (by first | exact Or.inl rfl | exact Or.inr rfl) (pd_call h_head_of bc (by omega) rfl (pas_cons (po_var (pv 0)) pas_nil)))
    (pss_cons (m := ([] ++ [])) (n := ([4] ++ ([5] ++ (([6] ++ (([7] ++ ([5] ++ [])) ++ [])) ++ [])))) (ps_if (m := []) (n := []) (pb_cmp op_isC od_is (po_var (pv 3)) (PV.o pv_non) (nomark _)) (pss_one (ps_raiseD (m := []) bc (by omega) T.x_BadDeal (pv_nam (pv 2)) rfl)) (pss_nil (m := [])))
    (pss_cons (m := [4]) (n := ([5] ++ (([6] ++ (([7] ++ ([5] ++ [])) ++ [])) ++ []))) (ps_set (i := 4) bc.nd rfl (by first | exact Or.inl rfl | exact Or.inr rfl) (pd_callTy call_list_of cd_list rfl T.b_list (by first | rfl | decide +kernel) (pas_cons (po_var (pv 3)) pas_nil)))
    (pss_cons (m := [5]) (n := (([6] ++ (([7] ++ ([5] ++ [])) ++ [])) ++ [])) (ps_set (i := 5) bc.nd rfl (by first | exact Or.inl rfl | exact Or.inr rfl) (pd_bin op_addA od_add (po_var (pv 2)) (PV.o pv_int)))
    (pss_cons (m := ([6] ++ (([7] ++ ([5] ++ [])) ++ []))) (n := []) (ps_forD (ts := [6]) (m := (([7] ++ ([5] ++ [])) ++ [])) [6, 7] bc (pi_items (PD.v (pd_sl sl_all sd_all (po_var (pv 0)) (pp_some (PV.o (PD.v (pd_callB call_lenA cd_len rfl T.b_len (by first | rfl | decide +kernel) (pas_cons (po_var (pv 3)) pas_nil))))) pp_none))) (pg_nameD bc.nd (i := 6) rfl (by first | exact Or.inl rfl | exact Or.inr rfl)) (pss_cons (m := ([7] ++ ([5] ++ []))) (n := []) (ps_setTD (ts := ([7] ++ ([5] ++ []))) (PD.v (pd_call IH bc (by omega) rfl (pas_cons (po_var (pv 6)) (pas_cons (PV.o (PD.v (pd_bin op_addA od_add (po_var (pv 1)) (PV.o pv_int)))) (pas_cons (po_var (pv 5)) pas_nil))))) (pg_tupD bc.calm (pgs_consD (ts := [7]) (us := ([5] ++ [])) (pg_nameD bc.nd (i := 7) rfl (by first | exact Or.inl rfl | exact Or.inr rfl)) (pgs_consD (ts := [5]) (us := []) (pg_nameD bc.nd (i := 5) rfl (by first | exact Or.inl rfl | exact Or.inr rfl)) pgs_nilD))))
    (pss_one (ps_appendD (pv 4) (pv_nam (pv 7))))))
    (pss_one (ps_ret (m := []) (PV.d (pv_tup (pvs_cons (PD.v (pd_callTy call_tuple_of cd_tuple rfl T.b_tuple (by first | rfl | decide +kernel) (pas_cons (po_var (pv 4)) pas_nil))) (pvs_cons (pv_nam (pv 5)) pvs_nil))))))))))))
theorem fd_walked (T : Txt P w K mg base) : FD P w K mg base 69 "walked" [] (m_walked 32) := fdn_walked T 32
/-! checked_tree -/
def g_checked_tree : GS := (gRet (gBin fIxU (gO (gV (gCallF (m_walked 32) [] (gaCons (gVar 0) (gaCons (gO (gC (.int 0))) (gaCons (gO (gC (.int 0))) gaNil)))))) (gO (gC (.int 0)))))
def m_checked_tree : Mir := runBody (List.length (α := Str) ["thing"]) (List.length (α := Str) ["thing"]) [] g_checked_tree
theorem sc_checked_tree : FnScope ["thing"] ["thing"] (defScope (top 23)) := ⟨rfl, rfl, rfl, by decide +kernel, rfl, by decide +kernel, by decide +kernel⟩
theorem fd_checked_tree (T : Txt P w K mg base) : FD P w K mg base 70 "checked_tree" [] m_checked_tree := by
  have h_walked := fd_walked (P := P) (w := w) (K := K) (mg := mg) (base := base) T
  exact T.d_checked_tree.fd (k := 69) (mods := []) (g := g_checked_tree) sc_checked_tree fun f cdv A outer s H E F W bc => (pss_one (ps_ret (m := []) (pd_ixU bc (PV.o (PD.v (pd_call h_walked bc (by omega) rfl (pas_cons (po_var (pv 0)) (pas_cons (PV.o pv_int) (pas_cons (PV.o pv_int) pas_nil)))))) (PV.o pv_int) (fun _ _ => rfl))))
/-! arms_of -/
def g_arms_of : GS := (gRet (gSl fSl (gVar 0) (gpSome (gO (gV (gBin fSub (gO (gV (gCall fLen (gaCons (gVar 0) gaNil)))) (gO (gV (gMeth1 fCount (gO (gV (gBin (fIxK "ARMS_trees" (tabT tab_ARMS_trees)) (gO (gC (.fn "ARMS_trees"))) (gO (gV (gBin fIxU (gVar 0) (gO (gC (.int 0))))))))) (gO (gC (.str "p")))))))))) gpNone))
def m_arms_of : Mir := runBody (List.length (α := Str) ["part"]) (List.length (α := Str) ["part"]) [] g_arms_of
theorem sc_arms_of : FnScope ["part"] ["part"] (defScope (top 21)) := ⟨rfl, rfl, rfl, by decide +kernel, rfl, by decide +kernel, by decide +kernel⟩
theorem fd_arms_of (T : Txt P w K mg base) : FD P w K mg base 2 "arms_of" [] m_arms_of := by
  exact T.d_arms_of.fd (k := 1) (mods := []) (g := g_arms_of) sc_arms_of fun f cdv A outer s H E F W bc => (pss_one (ps_ret (m := []) (pd_sl sl_all sd_all (po_var (pv 0)) (pp_some (PV.o (PD.v (pd_bin op_sub od_sub (PV.o (PD.v (pd_callB call_lenA cd_len rfl T.b_len (by first | rfl | decide +kernel) (pas_cons (po_var (pv 0)) pas_nil)))) (PV.o (PD.v (pd_count (PV.o (PD.v (pd_ixK T.t_ARMS_trees (PV.o (pv_cn T.t_ARMS_trees.cn rfl)) (PV.o (PD.v (pd_ixU bc (po_var (pv 0)) (PV.o pv_int) (fun _ _ => rfl)))) (fun _ _ => rfl)))) (PV.o pv_str)))))))) pp_none)))
/-! all_parts -/
def g_all_parts (m : Mir) : GS := (gRet (gBin fAdd (gO (gV (gLst (gsCons (gNam 0) gsNil)))) (gO (gV (gComp2 (gItems (gV (gCallF m_arms_of [] (gaCons (gVar 0) gaNil)))) (gtName 1) gYes (gItems (gV (gCallF m [] (gaCons (gVar 1) gaNil)))) (gtName 2) gYes (gNam 2) [1, 2] [2])))))
def m_all_parts : Nat → Mir
  | 0 => fun _ => .bad
  | n + 1 => runBody (List.length (α := Str) ["tree"]) (List.length (α := Str) ["tree", "arm", "part"]) [] (g_all_parts (m_all_parts n))
theorem sc_all_parts : FnScope ["tree", "arm", "part"] ["tree"] (defScope (top 24)) := ⟨rfl, rfl, rfl, by decide +kernel, rfl, by decide +kernel, by decide +kernel⟩
theorem fdn_all_parts (T : Txt P w K mg base) : ∀ n : Nat, FD P w K mg base (2 + n) "all_parts" [] (m_all_parts n)
  | 0 => T.d_all_parts.bad _
  | n + 1 => by
    have IH := fdn_all_parts T n
    have h_arms_of := fd_arms_of (P := P) (w := w) (K := K) (mg := mg) (base := base) T
    exact T.d_all_parts.fd (k := 2 + n) (mods := []) (g := g_all_parts (m_all_parts n)) sc_all_parts fun f cdv A outer s H E F W bc => (pss_one (ps_ret (m := []) (pd_bin op_addA od_add (PV.o (PD.v (pd_lst (pvs_cons (pv_nam (pv 0)) pvs_nil)))) (PV.o (PD.v (pd_lc2 (own := [("arm", 1), ("part", 2)]) (ts := [1]) (ts1 := [2]) (vs1 := [2]) (by decide) (by decide) (by decide) bc (pi_items (PD.v (pd_call h_arms_of bc (by omega) rfl (pas_cons (po_var (pv 0)) pas_nil)))) (blkOk_by (N := ["tree", "arm", "part"]) (sc := defScope (top 24)) (by decide +kernel)) (fun s H C cl fp F => (pg_nameD bc.nd (i := 1) rfl (by first | exact Or.inl rfl | exact Or.inr rfl))) (fun s H C cl fp F bc => pbs_nil) (fun s H C cl fp F bc => (pi_items (PD.v (pd_call IH bc (by omega) rfl (pas_cons (po_var (pv 1)) pas_nil))))) (fun s H C cl fp F => (pg_nameD bc.nd (i := 2) rfl (by first | exact Or.inl rfl | exact Or.inr rfl))) (fun s H C cl fp F bc => pbs_nil) (fun s H C cl fp F bc => (pv_nam (pv 2)))))))))
theorem fd_all_parts (T : Txt P w K mg base) : FD P w K mg base 34 "all_parts" [] (m_all_parts 32) := fdn_all_parts T 32
/-! parts_of -/
def g_parts_of : GS := (gRet (gCall fTuple (gaCons (gO (gV (gCallF (m_all_parts 32) [] (gaCons (gO (gV (gCallF m_checked_tree [] (gaCons (gVar 0) gaNil)))) gaNil)))) gaNil)))
def m_parts_of : Mir := runBody (List.length (α := Str) ["tree"]) (List.length (α := Str) ["tree"]) [] g_parts_of
theorem sc_parts_of : FnScope ["tree"] ["tree"] (defScope (top 25)) := ⟨rfl, rfl, rfl, by decide +kernel, rfl, by decide +kernel, by decide +kernel⟩
theorem fd_parts_of (T : Txt P w K mg base) : FD P w K mg base 71 "parts_of" [] m_parts_of := by
  have h_checked_tree := fd_checked_tree (P := P) (w := w) (K := K) (mg := mg) (base := base) T
  have h_all_parts := fd_all_parts (P := P) (w := w) (K := K) (mg := mg) (base := base) T
  exact T.d_parts_of.fd (k := 70) (mods := []) (g := g_parts_of) sc_parts_of fun f cdv A outer s H E F W bc => (pss_one (ps_ret (m := []) (pd_callTy call_tuple_of cd_tuple rfl T.b_tuple (by first | rfl | decide +kernel) (pas_cons (PV.o (PD.v (pd_call h_all_parts bc (by omega) rfl (pas_cons (PV.o (PD.v (pd_call h_checked_tree bc (by omega) rfl (pas_cons (po_var (pv 0)) pas_nil)))) pas_nil)))) pas_nil))))
/-! inner_spots -/
def g_inner_spots (m : Mir) : GS := (gSeq (gSet 2 (gLst (gsCons (gTup gsNil) gsNil)))
  (gSeq (gSet 3 (gLst gsNil))
  (gSeq (gSet 4 (gBin fAdd (gVar 1) (gO (gC (.int 1)))))
  (gSeq (gFor (gItems (gV (gCallF m_arms_of [] (gaCons (gVar 0) gaNil)))) (gtName 5) (gSeq (gAppend 3 (gNam 4))
  (gSeq (gSet 6 (gCallF m [] (gaCons (gVar 5) (gaCons (gVar 4) gaNil))))
  (gSeq (gSet 2 (gBin fAdd (gVar 2) (gVar 6)))
  (gSet 4 (gBin fAdd (gVar 4) (gO (gV (gCall fLen (gaCons (gVar 6) gaNil))))))))) [5, 6])
  (gRet (gBin fAdd (gO (gV (gLst (gsCons (gV (gCall fTuple (gaCons (gVar 3) gaNil))) gsNil)))) (gO (gV (gSl fSl (gVar 2) (gpSome (gO (gC (.int 1)))) gpNone)))))))))
def m_inner_spots : Nat → Mir
  | 0 => fun _ => .bad
  | n + 1 => runBody (List.length (α := Str) ["tree", "spot"]) (List.length (α := Str) ["tree", "spot", "told", "own", "at", "arm", "found"]) ([2] ++ ([3] ++ ([4] ++ (([5] ++ ([] ++ ([6] ++ ([2] ++ [4])))) ++ [])))) (g_inner_spots (m_inner_spots n))
theorem sc_inner_spots : FnScope ["tree", "spot", "told", "own", "at", "arm", "found"] ["tree", "spot"] (defScope (top 26)) := ⟨rfl, rfl, rfl, by decide +kernel, rfl, by decide +kernel, by decide +kernel⟩
theorem fdn_inner_spots (T : Txt P w K mg base) : ∀ n : Nat, FD P w K mg base (2 + n) "inner_spots" [] (m_inner_spots n)
  | 0 => T.d_inner_spots.bad _
  | n + 1 => by
    have IH := fdn_inner_spots T n
    have h_arms_of := fd_arms_of (P := P) (w := w) (K := K) (mg := mg) (base := base) T
    exact T.d_inner_spots.fd (k := 2 + n) (mods := ([2] ++ ([3] ++ ([4] ++ (([5] ++ ([] ++ ([6] ++ ([2] ++ [4])))) ++ []))))) (g := g_inner_spots (m_inner_spots n)) sc_inner_spots fun f cdv A outer s H E F W bc => (pss_cons (m := [2]) (n := ([3] ++ ([4] ++ (([5] ++ ([] ++ ([6] ++ ([2] ++ [4])))) ++ [])))) (ps_set (i := 2) bc.nd rfl (by first | exact Or.inl rfl | exact Or.inr rfl) (pd_lst (pvs_cons (pv_tup pvs_nil) pvs_nil)))
    (pss_cons (m := [3]) (n := ([4] ++ (([5] ++ ([] ++ ([6] ++ ([2] ++ [4])))) ++ []))) (ps_set (i := 3) bc.nd rfl (by first | exact Or.inl rfl | exact Or.inr rfl) (pd_lst pvs_nil))
    (pss_cons (m := [4]) (n := (([5] ++ ([] ++ ([6] ++ ([2] ++ [4])))) ++ [])) (ps_set (i := 4) bc.nd rfl (by first | exact Or.inl rfl | exact Or.inr rfl) (pd_bin op_addA od_add (po_var (pv 1)) (PV.o pv_int)))
    (pss_cons (m := ([5] ++ ([] ++ ([6] ++ ([2] ++ [4]))))) (n := []) (ps_forD (ts := [5]) (m := ([] ++ ([6] ++ ([2] ++ [4])))) [5, 6] bc (pi_items (PD.v (pd_call h_arms_of bc (by omega) rfl (pas_cons (po_var (pv 0)) pas_nil)))) (pg_nameD bc.nd (i := 5) rfl (by first | exact Or.inl rfl | exact Or.inr rfl)) (pss_cons (m := []) (n := ([6] ++ ([2] ++ [4]))) (ps_appendD (pv 3) (pv_nam (pv 4)))
    (pss_cons (m := [6]) (n := ([2] ++ [4])) (ps_set (i := 6) bc.nd rfl (by first | exact Or.inl rfl | exact Or.inr rfl) (pd_call IH bc (by omega) rfl (pas_cons (po_var (pv 5)) (pas_cons (po_var (pv 4)) pas_nil))))
    (pss_cons (m := [2]) (n := [4]) (ps_set (i := 2) bc.nd rfl (by first | exact Or.inl rfl | exact Or.inr rfl) (pd_bin op_addA od_add (po_var (pv 2)) (po_var (pv 6))))
    (pss_one (ps_set (i := 4) bc.nd rfl (by first | exact Or.inl rfl | exact Or.inr rfl) (pd_bin op_addA od_add (po_var (pv 4)) (PV.o (PD.v (pd_callB call_lenA cd_len rfl T.b_len (by first | rfl | decide +kernel) (pas_cons (po_var (pv 6)) pas_nil)))))))))))
    (pss_one (ps_ret (m := []) (pd_bin op_addA od_add (PV.o (PD.v (pd_lst (pvs_cons (PD.v (pd_callTy call_tuple_of cd_tuple rfl T.b_tuple (by first | rfl | decide +kernel) (pas_cons (po_var (pv 3)) pas_nil))) pvs_nil)))) (PV.o (PD.v (pd_sl sl_all sd_all (po_var (pv 2)) (pp_some (PV.o pv_int)) pp_none))))))))))
theorem fd_inner_spots (T : Txt P w K mg base) : FD P w K mg base 34 "inner_spots" [] (m_inner_spots 32) := fdn_inner_spots T 32
/-! after_spots -/
def g_after_spots : GS := (gSeq (gSet 2 (gComp (gItems (gNam 0)) (gtName 3) gYes (gV (gCall fLen (gaCons (gVar 0) gaNil))) [3]))
  (gSeq (gFor (gEnum (gNam 0)) (gtTup 2 (gtsCons (gtName 4) (gtsCons (gtName 3) gtsNil))) (gSeq (gSet 5 (gBin fIxU (gVar 3) (gO (gC (.int 0)))))
  (gSeq (gSet 6 (gBin fIxU (gVar 1) (gVar 4)))
  (gFor (gEnum (gNam 6)) (gtTup 2 (gtsCons (gtName 7) (gtsCons (gtName 8) gtsNil))) (gIfS (gAnd (gB (gBin (fEq false) (gVar 5) (gO (gC (.str "then"))))) (gB (gBin (fEq false) (gVar 7) (gO (gC (.int 0)))))) (gSetIx 2 (gV (gBin fIxU (gVar 6) (gO (gC (.int 1))))) (gVar 8)) (gIfS (gB (gBin (fInU false) (gVar 5) (gO (gTup (gsCons (gC (.str "while")) (gsCons (gC (.str "more")) (gsCons (gC (.str "each")) gsNil))))))) (gSetIx 2 (gNam 4) (gVar 8)) (gSetIx 2 (gV (gBin fIxU (gVar 2) (gVar 4))) (gVar 8)))) [7, 8]))) [3, 4, 5, 6, 7, 8])
  (gRet (gCall fTuple (gaCons (gVar 2) gaNil)))))
def m_after_spots : Mir := runBody (List.length (α := Str) ["parts", "inner"]) (List.length (α := Str) ["parts", "inner", "told", "part", "spot", "kind", "arms", "number", "arm"]) ([2] ++ ((([4] ++ ([3] ++ [])) ++ ([5] ++ ([6] ++ (([7] ++ ([8] ++ [])) ++ ([] ++ ([] ++ [])))))) ++ [])) g_after_spots
theorem sc_after_spots : FnScope ["parts", "inner", "told", "part", "spot", "kind", "arms", "number", "arm"] ["parts", "inner"] (defScope (top 27)) := ⟨rfl, rfl, rfl, by decide +kernel, rfl, by decide +kernel, by decide +kernel⟩
theorem fd_after_spots (T : Txt P w K mg base) : FD P w K mg base 2 "after_spots" [] m_after_spots := by
  exact T.d_after_spots.fd (k := 1) (mods := ([2] ++ ((([4] ++ ([3] ++ [])) ++ ([5] ++ ([6] ++ (([7] ++ ([8] ++ [])) ++ ([] ++ ([] ++ [])))))) ++ []))) (g := g_after_spots) sc_after_spots fun f cdv A outer s H E F W bc => (pss_cons (m := [2]) (n := ((([4] ++ ([3] ++ [])) ++ ([5] ++ ([6] ++ (([7] ++ ([8] ++ [])) ++ ([] ++ ([] ++ [])))))) ++ [])) (ps_setLcD (i := 2) (own := [("part", 3)]) (ts := [3]) (by decide) bc rfl (by rfl) (by rfl) (pi_items (pv_nam (pv 0))) (blkOk_by (N := ["parts", "inner", "told", "part", "spot", "kind", "arms", "number", "arm"]) (sc := defScope (top 27)) (by decide +kernel)) (fun s H C cl fp F => (pg_nameD bc.nd (i := 3) rfl (by first | exact Or.inl rfl | exact Or.inr rfl))) (fun s H C cl fp F bc => pbs_nil) (fun s H C cl fp F bc => (PD.v (pd_callB call_lenA cd_len rfl T.b_len (by first | rfl | decide +kernel) (pas_cons (po_var (pv 0)) pas_nil)))))
    (pss_cons (m := (([4] ++ ([3] ++ [])) ++ ([5] ++ ([6] ++ (([7] ++ ([8] ++ [])) ++ ([] ++ ([] ++ []))))))) (n := []) (ps_forD (ts := ([4] ++ ([3] ++ []))) (m := ([5] ++ ([6] ++ (([7] ++ ([8] ++ [])) ++ ([] ++ ([] ++ [])))))) [3, 4, 5, 6, 7, 8] bc (pi_enumD rfl T.b_enumerate (pv_nam (pv 0))) (pg_tupD bc.calm (pgs_consD (ts := [4]) (us := ([3] ++ [])) (pg_nameD bc.nd (i := 4) rfl (by first | exact Or.inl rfl | exact Or.inr rfl)) (pgs_consD (ts := [3]) (us := []) (pg_nameD bc.nd (i := 3) rfl (by first | exact Or.inl rfl | exact Or.inr rfl)) pgs_nilD))) (pss_cons (m := [5]) (n := ([6] ++ (([7] ++ ([8] ++ [])) ++ ([] ++ ([] ++ []))))) (ps_set (i := 5) bc.nd rfl (by first | exact Or.inl rfl | exact Or.inr rfl) (pd_ixU bc (po_var (pv 3)) (PV.o pv_int) (fun _ _ => rfl)))
    (pss_cons (m := [6]) (n := (([7] ++ ([8] ++ [])) ++ ([] ++ ([] ++ [])))) (ps_set (i := 6) bc.nd rfl (by first | exact Or.inl rfl | exact Or.inr rfl) (pd_ixU bc (po_var (pv 1)) (po_var (pv 4)) (fun _ _ => rfl)))
    (pss_one (ps_forD (ts := ([7] ++ ([8] ++ []))) (m := ([] ++ ([] ++ []))) [7, 8] bc (pi_enumD rfl T.b_enumerate (pv_nam (pv 6))) (pg_tupD bc.calm (pgs_consD (ts := [7]) (us := ([8] ++ [])) (pg_nameD bc.nd (i := 7) rfl (by first | exact Or.inl rfl | exact Or.inr rfl)) (pgs_consD (ts := [8]) (us := []) (pg_nameD bc.nd (i := 8) rfl (by first | exact Or.inl rfl | exact Or.inr rfl)) pgs_nilD))) (pss_one (ps_if (m := []) (n := ([] ++ [])) (PBw.pb (pw_and (pb_cmp (op_eqD bc.hu) od_eq (po_var (pv 5)) (PV.o pv_str) (nomark _)) (pw_and1 (pb_cmp (op_eqD bc.hu) od_eq (po_var (pv 7)) (PV.o pv_int) (nomark _))))) (pss_one (ps_setIxD (pv 2) (PD.v (pd_ixU bc (po_var (pv 6)) (PV.o pv_int) (fun _ _ => rfl))) (po_var (pv 8)))) (pss_one (ps_if (m := []) (n := []) (pb_in bc (po_var (pv 5)) (PV.o (pv_tup (pvs_cons pv_str (pvs_cons pv_str (pvs_cons pv_str pvs_nil))))) (by rfl)) (pss_one (ps_setIxD (pv 2) (pv_nam (pv 4)) (po_var (pv 8)))) (pss_one (ps_setIxD (pv 2) (PD.v (pd_ixU bc (po_var (pv 2)) (po_var (pv 4)) (fun _ _ => rfl))) (po_var (pv 8)))))))))))))
    (pss_one (ps_ret (m := []) (pd_callTy call_tuple_of cd_tuple rfl T.b_tuple (by first | rfl | decide +kernel) (pas_cons (po_var (pv 2)) pas_nil))))))
/-! followers -/
def g_followers : GS := (gSeq (gSet 1 (gCallF m_checked_tree [] (gaCons (gVar 0) gaNil)))
  (gRet (gCallF m_after_spots [] (gaCons (gO (gV (gCallF (m_all_parts 32) [] (gaCons (gVar 1) gaNil)))) (gaCons (gO (gV (gCallF (m_inner_spots 32) [] (gaCons (gVar 1) (gaCons (gO (gC (.int 0))) gaNil))))) gaNil)))))
def m_followers : Mir := runBody (List.length (α := Str) ["tree"]) (List.length (α := Str) ["tree", "told"]) ([1] ++ []) g_followers
theorem sc_followers : FnScope ["tree", "told"] ["tree"] (defScope (top 28)) := ⟨rfl, rfl, rfl, by decide +kernel, rfl, by decide +kernel, by decide +kernel⟩
theorem fd_followers (T : Txt P w K mg base) : FD P w K mg base 71 "followers" [] m_followers := by
  have h_checked_tree := fd_checked_tree (P := P) (w := w) (K := K) (mg := mg) (base := base) T
  have h_all_parts := fd_all_parts (P := P) (w := w) (K := K) (mg := mg) (base := base) T
  have h_inner_spots := fd_inner_spots (P := P) (w := w) (K := K) (mg := mg) (base := base) T
  have h_after_spots := fd_after_spots (P := P) (w := w) (K := K) (mg := mg) (base := base) T
  exact T.d_followers.fd (k := 70) (mods := ([1] ++ [])) (g := g_followers) sc_followers fun f cdv A outer s H E F W bc => (pss_cons (m := [1]) (n := []) (ps_set (i := 1) bc.nd rfl (by first | exact Or.inl rfl | exact Or.inr rfl) (pd_call h_checked_tree bc (by omega) rfl (pas_cons (po_var (pv 0)) pas_nil)))
    (pss_one (ps_ret (m := []) (pd_call h_after_spots bc (by omega) rfl (pas_cons (PV.o (PD.v (pd_call h_all_parts bc (by omega) rfl (pas_cons (po_var (pv 1)) pas_nil)))) (pas_cons (PV.o (PD.v (pd_call h_inner_spots bc (by omega) rfl (pas_cons (po_var (pv 1)) (pas_cons (PV.o pv_int) pas_nil))))) pas_nil))))))
/-! _law_source -/
def g__law_source : GS := (gSeq (gSet 2 (gIf (gB (gBin fLt (gVar 1) (gO (gV (gCall fLen (gaCons (gVar 0) gaNil)))))) (gBin fIxU (gVar 0) (gVar 1)) (gBin fAdd (gO (gV (gBin fMul (gO (gC (.int 5))) (gVar 1)))) (gO (gC (.int 3))))))
  (gSeq (gSet 3 (gBin fAdd (gO (gV (gBin fMul (gO (gC (.int 1009))) (gVar 1)))) (gO (gC (.int 17)))))
  (gSeq (gFor (gItems (gV (gSl fSl (gVar 0) gpNone (gpSome (gO (gC (.int 3))))))) (gtName 4) (gSet 3 (gBin fMod (gO (gV (gCall fInt (gaCons (gO (gV (gBin fAdd (gO (gV (gBin fMul (gVar 3) (gO (gC (.int 31)))))) (gO (gV (gBin fMod (gO (gV (gCall fInt (gaCons (gVar 4) gaNil)))) (gO (gC (.int 2147483629))))))))) gaNil)))) (gO (gC (.int 2147483629))))) [4])
  (gSeq (gSet 3 (gBin fMod (gO (gV (gCall fInt (gaCons (gO (gV (gBin fAdd (gO (gV (gBin fMul (gVar 3) (gO (gC (.int 31)))))) (gO (gV (gBin fMod (gO (gV (gCall fInt (gaCons (gVar 2) gaNil)))) (gO (gC (.int 2147483587))))))))) gaNil)))) (gO (gC (.int 2147483629)))))
  (gSeq (gSet 5 (gCall fAbs (gaCons (gVar 2) gaNil)))
  (gRet (gLst (gsCons (gV (gIf (gB (gBin fGe (gVar 5) (gO (gV (gBin fPow (gO (gC (.int 10))) (gO (gC (.int 18)))))))) (gBin fSub (gVar 5) (gO (gV (gBin fShl (gO (gV (gBin fShr (gVar 5) (gO (gC (.int 3000)))))) (gO (gC (.int 3000))))))) (gE (gC (.int 0))))) (gsCons (gNam 3) (gsCons (gC (.int 0)) gsNil))))))))))
def m__law_source : Mir := runBody (List.length (α := Str) ["script", "place"]) (List.length (α := Str) ["script", "place", "cell", "seed", "one", "number"]) ([2] ++ ([3] ++ (([4] ++ [3]) ++ ([3] ++ ([5] ++ []))))) g__law_source
theorem sc__law_source : FnScope ["script", "place", "cell", "seed", "one", "number"] ["script", "place"] (defScope (top 30)) := ⟨rfl, rfl, rfl, by decide +kernel, rfl, by decide +kernel, by decide +kernel⟩
theorem fd__law_source (T : Txt P w K mg base) : FD P w K mg base 2 "_law_source" [] m__law_source := by
  exact T.d__law_source.fd (k := 1) (mods := ([2] ++ ([3] ++ (([4] ++ [3]) ++ ([3] ++ ([5] ++ [])))))) (g := g__law_source) sc__law_source fun f cdv A outer s H E F W bc => (pss_cons (m := [2]) (n := ([3] ++ (([4] ++ [3]) ++ ([3] ++ ([5] ++ []))))) (ps_set (i := 2) bc.nd rfl (by first | exact Or.inl rfl | exact Or.inr rfl) (pd_if (pb_cmp op_ltA od_isS (po_var (pv 1)) (PV.o (PD.v (pd_callB call_lenA cd_len rfl T.b_len (by first | rfl | decide +kernel) (pas_cons (po_var (pv 0)) pas_nil)))) (nomark _)) (pd_ixU bc (po_var (pv 0)) (po_var (pv 1)) (fun _ _ => rfl)) (pd_bin op_addA od_add (PV.o (PD.v (pd_bin op_mulX od_mul (PV.o pv_int) (po_var (pv 1))))) (PV.o pv_int))))
    (pss_cons (m := [3]) (n := (([4] ++ [3]) ++ ([3] ++ ([5] ++ [])))) (ps_set (i := 3) bc.nd rfl (by first | exact Or.inl rfl | exact Or.inr rfl) (pd_bin op_addA od_add (PV.o (PD.v (pd_bin op_mulX od_mul (PV.o pv_int) (po_var (pv 1))))) (PV.o pv_int)))
    (pss_cons (m := ([4] ++ [3])) (n := ([3] ++ ([5] ++ []))) (ps_forD (ts := [4]) (m := [3]) [4] bc (pi_items (PD.v (pd_sl sl_all sd_all (po_var (pv 0)) pp_none (pp_some (PV.o pv_int))))) (pg_nameD bc.nd (i := 4) rfl (by first | exact Or.inl rfl | exact Or.inr rfl)) (pss_one (ps_set (i := 3) bc.nd rfl (by first | exact Or.inl rfl | exact Or.inr rfl) (pd_bin op_mod od_mod (PV.o (PD.v (pd_callTy call_int1 cd_int rfl T.b_int (by first | rfl | decide +kernel) (pas_cons (PV.o (PD.v (pd_bin op_addA od_add (PV.o (PD.v (pd_bin op_mulX od_mul (po_var (pv 3)) (PV.o pv_int)))) (PV.o (PD.v (pd_bin op_mod od_mod (PV.o (PD.v (pd_callTy call_int1 cd_int rfl T.b_int (by first | rfl | decide +kernel) (pas_cons (po_var (pv 4)) pas_nil)))) (PV.o pv_int))))))) pas_nil)))) (PV.o pv_int)))))
    (pss_cons (m := [3]) (n := ([5] ++ [])) (ps_set (i := 3) bc.nd rfl (by first | exact Or.inl rfl | exact Or.inr rfl) (pd_bin op_mod od_mod (PV.o (PD.v (pd_callTy call_int1 cd_int rfl T.b_int (by first | rfl | decide +kernel) (pas_cons (PV.o (PD.v (pd_bin op_addA od_add (PV.o (PD.v (pd_bin op_mulX od_mul (po_var (pv 3)) (PV.o pv_int)))) (PV.o (PD.v (pd_bin op_mod od_mod (PV.o (PD.v (pd_callTy call_int1 cd_int rfl T.b_int (by first | rfl | decide +kernel) (pas_cons (po_var (pv 2)) pas_nil)))) (PV.o pv_int))))))) pas_nil)))) (PV.o pv_int)))
    (pss_cons (m := [5]) (n := []) (ps_set (i := 5) bc.nd rfl (by first | exact Or.inl rfl | exact Or.inr rfl) (pd_callB call_abs cd_abs rfl T.b_abs (by first | rfl | decide +kernel) (pas_cons (po_var (pv 2)) pas_nil)))
    (pss_one (ps_ret (m := []) (pd_lst (pvs_cons (PD.v (pd_if (pb_cmp op_geA od_isS (po_var (pv 5)) (PV.o (PD.v (pd_bin op_pow od_pow (PV.o pv_int) (PV.o pv_int)))) (nomark _)) (pd_bin op_sub od_sub (po_var (pv 5)) (PV.o (PD.v (pd_bin op_shlW od_shl (PV.o (PD.v (pd_bin op_shr od_shr (po_var (pv 5)) (PV.o pv_int)))) (PV.o pv_int))))) (PV.d pv_int))) (pvs_cons (pv_nam (pv 3)) (pvs_cons pv_int pvs_nil)))))))))))
/-! _law_pick -/
def g__law_pick : GS := (gSeq (gIfS (gB (gBin fGt (gO (gV (gBin fIxU (gVar 0) (gO (gC (.int 0)))))) (gO (gC (.int 0))))) (gSeq (gSet 2 (gBin fMod (gO (gV (gCall fInt (gaCons (gO (gV (gBin fIxU (gVar 0) (gO (gC (.int 0)))))) gaNil)))) (gVar 1)))
  (gSeq (gSetIx 0 (gV (gBin fDiv (gO (gV (gBin fIxU (gVar 0) (gO (gC (.int 0)))))) (gVar 1))) (gO (gC (.int 0))))
  (gRet (gMove 2)))) gNx)
  (gSeq (gSetIx 0 (gV (gBin fAdd (gO (gV (gBin fIxU (gVar 0) (gO (gC (.int 2)))))) (gO (gC (.int 1))))) (gO (gC (.int 2))))
  (gSeq (gSet 3 (gBin fMod (gO (gV (gCall fInt (gaCons (gO (gV (gBin fMul (gO (gV (gBin fAdd (gO (gV (gBin fIxU (gVar 0) (gO (gC (.int 1)))))) (gO (gV (gBin fMul (gO (gC (.int 7919))) (gO (gV (gBin fIxU (gVar 0) (gO (gC (.int 2)))))))))))) (gO (gC (.int 48271)))))) gaNil)))) (gO (gC (.int 2147483647)))))
  (gSeq (gSet 3 (gBin fMod (gO (gV (gCall fInt (gaCons (gO (gV (gBin fAdd (gO (gV (gBin fAdd (gO (gV (gBin fMul (gVar 3) (gVar 3)))) (gO (gV (gBin fMul (gO (gC (.int 69621))) (gO (gV (gBin fIxU (gVar 0) (gO (gC (.int 2)))))))))))) (gO (gV (gBin fIxU (gVar 0) (gO (gC (.int 1))))))))) gaNil)))) (gO (gC (.int 2147483629)))))
  (gSeq (gSet 3 (gBin fMod (gO (gV (gCall fInt (gaCons (gO (gV (gBin fAdd (gO (gV (gBin fMul (gVar 3) (gO (gC (.int 16807)))))) (gO (gC (.int 11)))))) gaNil)))) (gO (gC (.int 2147483647)))))
  (gRet (gBin fMod (gO (gV (gCall fInt (gaCons (gO (gV (gBin fDiv (gO (gV (gBin fMod (gO (gV (gCall fInt (gaCons (gO (gV (gBin fAdd (gO (gV (gBin fMul (gVar 3) (gVar 3)))) (gVar 3)))) gaNil)))) (gO (gC (.int 2147483587)))))) (gO (gC (.int 3)))))) gaNil)))) (gVar 1))))))))
def m__law_pick : Mir := runBody (List.length (α := Str) ["source", "many"]) (List.length (α := Str) ["source", "many", "digit", "mixed"]) ((([2] ++ ([] ++ [])) ++ []) ++ ([] ++ ([3] ++ ([3] ++ ([3] ++ []))))) g__law_pick
theorem sc__law_pick : FnScope ["source", "many", "digit", "mixed"] ["source", "many"] (defScope (top 31)) := ⟨rfl, rfl, rfl, by decide +kernel, rfl, by decide +kernel, by decide +kernel⟩
theorem fd__law_pick (T : Txt P w K mg base) : FD P w K mg base 2 "_law_pick" [] m__law_pick := by
  exact T.d__law_pick.fd (k := 1) (mods := ((([2] ++ ([] ++ [])) ++ []) ++ ([] ++ ([3] ++ ([3] ++ ([3] ++ [])))))) (g := g__law_pick) sc__law_pick fun f cdv A outer s H E F W bc => (pss_cons (m := (([2] ++ ([] ++ [])) ++ [])) (n := ([] ++ ([3] ++ ([3] ++ ([3] ++ []))))) (ps_if (m := ([2] ++ ([] ++ []))) (n := []) (pb_cmp op_gtA od_isS (PV.o (PD.v (pd_ixU bc (po_var (pv 0)) (PV.o pv_int) (fun _ _ => rfl)))) (PV.o pv_int) (nomark _)) (pss_cons (m := [2]) (n := ([] ++ [])) (ps_set (i := 2) bc.nd rfl (by first | exact Or.inl rfl | exact Or.inr rfl) (pd_bin op_mod od_mod (PV.o (PD.v (pd_callTy call_int1 cd_int rfl T.b_int (by first | rfl | decide +kernel) (pas_cons (PV.o (PD.v (pd_ixU bc (po_var (pv 0)) (PV.o pv_int) (fun _ _ => rfl)))) pas_nil)))) (po_var (pv 1))))
    (pss_cons (m := []) (n := []) (ps_setIxD (pv 0) (PD.v (pd_bin op_fdivW od_div (PV.o (PD.v (pd_ixU bc (po_var (pv 0)) (PV.o pv_int) (fun _ _ => rfl)))) (po_var (pv 1)))) (PV.o pv_int))
    (pss_one (ps_ret (m := []) (pd_move (pv 2)))))) (pss_nil (m := [])))
    (pss_cons (m := []) (n := ([3] ++ ([3] ++ ([3] ++ [])))) (ps_setIxD (pv 0) (PD.v (pd_bin op_addA od_add (PV.o (PD.v (pd_ixU bc (po_var (pv 0)) (PV.o pv_int) (fun _ _ => rfl)))) (PV.o pv_int))) (PV.o pv_int))
    (pss_cons (m := [3]) (n := ([3] ++ ([3] ++ []))) (ps_set (i := 3) bc.nd rfl (by first | exact Or.inl rfl | exact Or.inr rfl) (pd_bin op_mod od_mod (PV.o (PD.v (pd_callTy call_int1 cd_int rfl T.b_int (by first | rfl | decide +kernel) (pas_cons (PV.o (PD.v (pd_bin op_mulX od_mul (PV.o (PD.v (pd_bin op_addA od_add (PV.o (PD.v (pd_ixU bc (po_var (pv 0)) (PV.o pv_int) (fun _ _ => rfl)))) (PV.o (PD.v (pd_bin op_mulX od_mul (PV.o pv_int) (PV.o (PD.v (pd_ixU bc (po_var (pv 0)) (PV.o pv_int) (fun _ _ => rfl)))))))))) (PV.o pv_int)))) pas_nil)))) (PV.o pv_int)))
    (pss_cons (m := [3]) (n := ([3] ++ [])) (ps_set (i := 3) bc.nd rfl (by first | exact Or.inl rfl | exact Or.inr rfl) (pd_bin op_mod od_mod (PV.o (PD.v (pd_callTy call_int1 cd_int rfl T.b_int (by first | rfl | decide +kernel) (pas_cons (PV.o (PD.v (pd_bin op_addA od_add (PV.o (PD.v (pd_bin op_addA od_add (PV.o (PD.v (pd_bin op_mulX od_mul (po_var (pv 3)) (po_var (pv 3))))) (PV.o (PD.v (pd_bin op_mulX od_mul (PV.o pv_int) (PV.o (PD.v (pd_ixU bc (po_var (pv 0)) (PV.o pv_int) (fun _ _ => rfl)))))))))) (PV.o (PD.v (pd_ixU bc (po_var (pv 0)) (PV.o pv_int) (fun _ _ => rfl))))))) pas_nil)))) (PV.o pv_int)))
    (pss_cons (m := [3]) (n := []) (ps_set (i := 3) bc.nd rfl (by first | exact Or.inl rfl | exact Or.inr rfl) (pd_bin op_mod od_mod (PV.o (PD.v (pd_callTy call_int1 cd_int rfl T.b_int (by first | rfl | decide +kernel) (pas_cons (PV.o (PD.v (pd_bin op_addA od_add (PV.o (PD.v (pd_bin op_mulX od_mul (po_var (pv 3)) (PV.o pv_int)))) (PV.o pv_int)))) pas_nil)))) (PV.o pv_int)))
    (pss_one (ps_ret (m := []) (pd_bin op_mod od_mod (PV.o (PD.v (pd_callTy call_int1 cd_int rfl T.b_int (by first | rfl | decide +kernel) (pas_cons (PV.o (PD.v (pd_bin op_fdivW od_div (PV.o (PD.v (pd_bin op_mod od_mod (PV.o (PD.v (pd_callTy call_int1 cd_int rfl T.b_int (by first | rfl | decide +kernel) (pas_cons (PV.o (PD.v (pd_bin op_addA od_add (PV.o (PD.v (pd_bin op_mulX od_mul (po_var (pv 3)) (po_var (pv 3))))) (po_var (pv 3))))) pas_nil)))) (PV.o pv_int)))) (PV.o pv_int)))) pas_nil)))) (po_var (pv 1))))))))))
/-! _law_say -/
def g__law_say (m : Mir) : GS := (gSeq (gSet 3 (gCallF m__law_pick [] (gaCons (gVar 0) (gaCons (gO (gV (gIf (gB (gBin fGt (gVar 2) (gO (gC (.int 0))))) (gE (gC (.int 7))) (gE (gC (.int 4)))))) gaNil))))
  (gSeq (gIfS (gOr (gB (gBin (fEq false) (gO (gV (gCall fLen (gaCons (gVar 1) gaNil)))) (gO (gC (.int 0))))) (gAnd (gB (gBin (fEq false) (gVar 3) (gO (gC (.int 3))))) (gB (gBin (fEq false) (gO (gV (gCallF m__law_pick [] (gaCons (gVar 0) (gaCons (gO (gC (.int 4))) gaNil))))) (gO (gC (.int 2))))))) (gRet (gIf (gTru (gO (gV (gCallF m__law_pick [] (gaCons (gVar 0) (gaCons (gO (gC (.int 2))) gaNil)))))) (gE (gTup (gsCons (gC (.str "yes")) gsNil))) (gE (gTup (gsCons (gC (.str "no")) gsNil))))) gNx)
  (gSeq (gIfS (gB (gBin fLt (gVar 3) (gO (gC (.int 4))))) (gRet (gE (gTup (gsCons (gC (.str "fact")) (gsCons (gV (gBin fIxU (gVar 1) (gO (gV (gCallF m__law_pick [] (gaCons (gVar 0) (gaCons (gO (gV (gCall fLen (gaCons (gVar 1) gaNil)))) gaNil))))))) gsNil))))) gNx)
  (gSeq (gSet 4 (gCallF m [] (gaCons (gVar 0) (gaCons (gVar 1) (gaCons (gO (gV (gBin fSub (gVar 2) (gO (gC (.int 1)))))) gaNil)))))
  (gRet (gIf (gB (gBin (fEq false) (gVar 3) (gO (gC (.int 4))))) (gE (gTup (gsCons (gC (.str "not")) (gsCons (gNam 4) gsNil)))) (gE (gTup (gsCons (gV (gIf (gB (gBin (fEq false) (gVar 3) (gO (gC (.int 5))))) (gE (gC (.str "and"))) (gE (gC (.str "or"))))) (gsCons (gNam 4) (gsCons (gV (gCallF m [] (gaCons (gVar 0) (gaCons (gVar 1) (gaCons (gO (gV (gBin fSub (gVar 2) (gO (gC (.int 1)))))) gaNil))))) gsNil)))))))))))
def m__law_say : Nat → Mir
  | 0 => fun _ => .bad
  | n + 1 => runBody (List.length (α := Str) ["source", "facts", "depth"]) (List.length (α := Str) ["source", "facts", "depth", "kind", "one"]) ([3] ++ (([] ++ []) ++ (([] ++ []) ++ ([4] ++ [])))) (g__law_say (m__law_say n))
theorem sc__law_say : FnScope ["source", "facts", "depth", "kind", "one"] ["source", "facts", "depth"] (defScope (top 32)) := ⟨rfl, rfl, rfl, by decide +kernel, rfl, by decide +kernel, by decide +kernel⟩
theorem fdn__law_say (T : Txt P w K mg base) : ∀ n : Nat, FD P w K mg base (2 + n) "_law_say" [] (m__law_say n)
  | 0 => T.d__law_say.bad _
  | n + 1 => by
    have IH := fdn__law_say T n
    have h__law_pick := fd__law_pick (P := P) (w := w) (K := K) (mg := mg) (base := base) T
    exact T.d__law_say.fd (k := 2 + n) (mods := ([3] ++ (([] ++ []) ++ (([] ++ []) ++ ([4] ++ []))))) (g := g__law_say (m__law_say n)) sc__law_say fun f cdv A outer s H E F W bc => (pss_cons (m := [3]) (n := (([] ++ []) ++ (([] ++ []) ++ ([4] ++ [])))) (ps_set (i := 3) bc.nd rfl (by first | exact Or.inl rfl | exact Or.inr rfl) (pd_call h__law_pick bc (by omega) rfl (pas_cons (po_var (pv 0)) (pas_cons (PV.o (PD.v (pd_if (pb_cmp op_gtA od_isS (po_var (pv 2)) (PV.o pv_int) (nomark _)) (PV.d pv_int) (PV.d pv_int)))) pas_nil))))
    (pss_cons (m := ([] ++ [])) (n := (([] ++ []) ++ ([4] ++ []))) (ps_if (m := []) (n := []) (PBw.pb (pw_or (pb_cmp (op_eqD bc.hu) od_eq (PV.o (PD.v (pd_callB call_lenA cd_len rfl T.b_len (by first | rfl | decide +kernel) (pas_cons (po_var (pv 1)) pas_nil)))) (PV.o pv_int) (nomark _)) (pw_or1 (PBw.pb (pw_and (pb_cmp (op_eqD bc.hu) od_eq (po_var (pv 3)) (PV.o pv_int) (nomark _)) (pw_and1 (pb_cmp (op_eqD bc.hu) od_eq (PV.o (PD.v (pd_call h__law_pick bc (by omega) rfl (pas_cons (po_var (pv 0)) (pas_cons (PV.o pv_int) pas_nil))))) (PV.o pv_int) (nomark _)))))))) (pss_one (ps_ret (m := []) (pd_if (pb_tru (PV.o (PD.v (pd_call h__law_pick bc (by omega) rfl (pas_cons (po_var (pv 0)) (pas_cons (PV.o pv_int) pas_nil)))))) (PV.d (pv_tup (pvs_cons pv_str pvs_nil))) (PV.d (pv_tup (pvs_cons pv_str pvs_nil)))))) (pss_nil (m := [])))
    (pss_cons (m := ([] ++ [])) (n := ([4] ++ [])) (ps_if (m := []) (n := []) (pb_cmp op_ltA od_isS (po_var (pv 3)) (PV.o pv_int) (nomark _)) (pss_one (ps_ret (m := []) (PV.d (pv_tup (pvs_cons pv_str (pvs_cons (PD.v (pd_ixU bc (po_var (pv 1)) (PV.o (PD.v (pd_call h__law_pick bc (by omega) rfl (pas_cons (po_var (pv 0)) (pas_cons (PV.o (PD.v (pd_callB call_lenA cd_len rfl T.b_len (by first | rfl | decide +kernel) (pas_cons (po_var (pv 1)) pas_nil)))) pas_nil))))) (fun _ _ => rfl))) pvs_nil)))))) (pss_nil (m := [])))
    (pss_cons (m := [4]) (n := []) (ps_set (i := 4) bc.nd rfl (by first | exact Or.inl rfl | exact Or.inr rfl) (pd_call IH bc (by omega) rfl (pas_cons (po_var (pv 0)) (pas_cons (po_var (pv 1)) (pas_cons (PV.o (PD.v (pd_bin op_sub od_sub (po_var (pv 2)) (PV.o pv_int)))) pas_nil)))))
    (pss_one (ps_ret (m := []) (pd_if (pb_cmp (op_eqD bc.hu) od_eq (po_var (pv 3)) (PV.o pv_int) (nomark _)) (PV.d (pv_tup (pvs_cons pv_str (pvs_cons (pv_nam (pv 4)) pvs_nil)))) (PV.d (pv_tup (pvs_cons (PD.v (pd_if (pb_cmp (op_eqD bc.hu) od_eq (po_var (pv 3)) (PV.o pv_int) (nomark _)) (PV.d pv_str) (PV.d pv_str))) (pvs_cons (pv_nam (pv 4)) (pvs_cons (PD.v (pd_call IH bc (by omega) rfl (pas_cons (po_var (pv 0)) (pas_cons (po_var (pv 1)) (pas_cons (PV.o (PD.v (pd_bin op_sub od_sub (po_var (pv 2)) (PV.o pv_int)))) pas_nil))))) pvs_nil))))))))))))
theorem fd__law_say (T : Txt P w K mg base) : FD P w K mg base 34 "_law_say" [] (m__law_say 32) := fdn__law_say T 32
/-! _law_leaf -/
def g__law_leaf : GS := (gSeq (gSet 3 (gCallF m__law_pick [] (gaCons (gVar 0) (gaCons (gO (gC (.int 12))) gaNil))))
  (gSeq (gIfS (gAnd (gB (gBin (fInU false) (gVar 3) (gO (gTup (gsCons (gC (.int 5)) (gsCons (gC (.int 8)) gsNil)))))) (gB (gBin fGt (gO (gV (gCall fLen (gaCons (gVar 1) gaNil)))) (gO (gC (.int 0)))))) (gRet (gE (gTup (gsCons (gV (gIf (gB (gBin (fEq false) (gVar 3) (gO (gC (.int 5))))) (gE (gC (.str "need"))) (gE (gC (.str "grant"))))) (gsCons (gV (gCallF (m__law_say 32) [] (gaCons (gVar 0) (gaCons (gVar 1) (gaCons (gO (gC (.int 1))) gaNil))))) gsNil))))) gNx)
  (gSeq (gIfS (gAnd (gB (gBin (fEq false) (gVar 3) (gO (gC (.int 9))))) (gB (gBin (fEq false) (gO (gV (gCallF m__law_pick [] (gaCons (gVar 0) (gaCons (gO (gC (.int 3))) gaNil))))) (gO (gC (.int 1)))))) (gRet (gIf (gTru (gO (gV (gCallF m__law_pick [] (gaCons (gVar 0) (gaCons (gO (gC (.int 2))) gaNil)))))) (gE (gTup (gsCons (gC (.str "lose")) gsNil))) (gE (gTup (gsCons (gC (.str "win")) gsNil))))) gNx)
  (gRet (gIf (gOr (gB (gBin (fEq false) (gVar 3) (gO (gC (.int 7))))) (gB (gBin (fEq false) (gO (gV (gCall fLen (gaCons (gVar 2) gaNil)))) (gO (gC (.int 0)))))) (gE (gTup (gsCons (gC (.str "pass")) gsNil))) (gE (gTup (gsCons (gC (.str "deed")) (gsCons (gV (gBin fIxU (gVar 2) (gO (gV (gCallF m__law_pick [] (gaCons (gVar 0) (gaCons (gO (gV (gCall fLen (gaCons (gVar 2) gaNil)))) gaNil))))))) gsNil)))))))))
def m__law_leaf : Mir := runBody (List.length (α := Str) ["source", "facts", "names"]) (List.length (α := Str) ["source", "facts", "names", "kind"]) ([3] ++ (([] ++ []) ++ (([] ++ []) ++ []))) g__law_leaf
theorem sc__law_leaf : FnScope ["source", "facts", "names", "kind"] ["source", "facts", "names"] (defScope (top 33)) := ⟨rfl, rfl, rfl, by decide +kernel, rfl, by decide +kernel, by decide +kernel⟩
theorem fd__law_leaf (T : Txt P w K mg base) : FD P w K mg base 35 "_law_leaf" [] m__law_leaf := by
  have h__law_pick := fd__law_pick (P := P) (w := w) (K := K) (mg := mg) (base := base) T
  have h__law_say := fd__law_say (P := P) (w := w) (K := K) (mg := mg) (base := base) T
  exact T.d__law_leaf.fd (k := 34) (mods := ([3] ++ (([] ++ []) ++ (([] ++ []) ++ [])))) (g := g__law_leaf) sc__law_leaf fun f cdv A outer s H E F W bc => (pss_cons (m := [3]) (n := (([] ++ []) ++ (([] ++ []) ++ []))) (ps_set (i := 3) bc.nd rfl (by first | exact Or.inl rfl | exact Or.inr rfl) (pd_call h__law_pick bc (by omega) rfl (pas_cons (po_var (pv 0)) (pas_cons (PV.o pv_int) pas_nil))))
    (pss_cons (m := ([] ++ [])) (n := (([] ++ []) ++ [])) (ps_if (m := []) (n := []) (PBw.pb (pw_and (pb_in bc (po_var (pv 3)) (PV.o (pv_tup (pvs_cons pv_int (pvs_cons pv_int pvs_nil)))) (by rfl)) (pw_and1 (pb_cmp op_gtA od_isS (PV.o (PD.v (pd_callB call_lenA cd_len rfl T.b_len (by first | rfl | decide +kernel) (pas_cons (po_var (pv 1)) pas_nil)))) (PV.o pv_int) (nomark _))))) (pss_one (ps_ret (m := []) (PV.d (pv_tup (pvs_cons (PD.v (pd_if (pb_cmp (op_eqD bc.hu) od_eq (po_var (pv 3)) (PV.o pv_int) (nomark _)) (PV.d pv_str) (PV.d pv_str))) (pvs_cons (PD.v (pd_call h__law_say bc (by omega) rfl (pas_cons (po_var (pv 0)) (pas_cons (po_var (pv 1)) (pas_cons (PV.o pv_int) pas_nil))))) pvs_nil)))))) (pss_nil (m := [])))
    (pss_cons (m := ([] ++ [])) (n := []) (ps_if (m := []) (n := []) (PBw.pb (pw_and (pb_cmp (op_eqD bc.hu) od_eq (po_var (pv 3)) (PV.o pv_int) (nomark _)) (pw_and1 (pb_cmp (op_eqD bc.hu) od_eq (PV.o (PD.v (pd_call h__law_pick bc (by omega) rfl (pas_cons (po_var (pv 0)) (pas_cons (PV.o pv_int) pas_nil))))) (PV.o pv_int) (nomark _))))) (pss_one (ps_ret (m := []) (pd_if (pb_tru (PV.o (PD.v (pd_call h__law_pick bc (by omega) rfl (pas_cons (po_var (pv 0)) (pas_cons (PV.o pv_int) pas_nil)))))) (PV.d (pv_tup (pvs_cons pv_str pvs_nil))) (PV.d (pv_tup (pvs_cons pv_str pvs_nil)))))) (pss_nil (m := [])))
    (pss_one (ps_ret (m := []) (pd_if (PBw.pb (pw_or (pb_cmp (op_eqD bc.hu) od_eq (po_var (pv 3)) (PV.o pv_int) (nomark _)) (pw_or1 (pb_cmp (op_eqD bc.hu) od_eq (PV.o (PD.v (pd_callB call_lenA cd_len rfl T.b_len (by first | rfl | decide +kernel) (pas_cons (po_var (pv 2)) pas_nil)))) (PV.o pv_int) (nomark _))))) (PV.d (pv_tup (pvs_cons pv_str pvs_nil))) (PV.d (pv_tup (pvs_cons pv_str (pvs_cons (PD.v (pd_ixU bc (po_var (pv 2)) (PV.o (PD.v (pd_call h__law_pick bc (by omega) rfl (pas_cons (po_var (pv 0)) (pas_cons (PV.o (PD.v (pd_callB call_lenA cd_len rfl T.b_len (by first | rfl | decide +kernel) (pas_cons (po_var (pv 2)) pas_nil)))) pas_nil))))) (fun _ _ => rfl))) pvs_nil))))))))))
/-! _law_tree -/
def g__law_tree (m : Mir) : GS := (gSeq (gIfS (gB (gBin fLt (gVar 3) (gO (gC (.int 2))))) (gRet (gCallF m__law_leaf [] (gaCons (gVar 0) (gaCons (gVar 1) (gaCons (gVar 2) gaNil))))) gNx)
  (gSeq (gSet 4 (gCallF m__law_pick [] (gaCons (gVar 0) (gaCons (gO (gC (.int 12))) gaNil))))
  (gSeq (gIfS (gB (gBin (fInU false) (gVar 4) (gO (gTup (gsCons (gC (.int 7)) (gsCons (gC (.int 10)) gsNil)))))) (gSeq (gSet 5 (gIf (gAnd (gB (gBin (fEq false) (gVar 4) (gO (gC (.int 7))))) (gB (gBin fGt (gO (gV (gCall fLen (gaCons (gVar 1) gaNil)))) (gO (gC (.int 0)))))) (gE (gC (.str "while"))) (gIf (gTru (gO (gV (gCallF m__law_pick [] (gaCons (gVar 0) (gaCons (gO (gC (.int 2))) gaNil)))))) (gE (gC (.str "more"))) (gE (gC (.str "each"))))))
  (gSeq (gSet 6 (gIf (gB (gBin (fEq false) (gVar 5) (gO (gC (.str "while"))))) (gE (gTup (gsCons (gNam 5) (gsCons (gV (gCallF (m__law_say 32) [] (gaCons (gVar 0) (gaCons (gVar 1) (gaCons (gO (gC (.int 1))) gaNil))))) gsNil)))) (gE (gTup (gsCons (gNam 5) gsNil)))))
  (gRet (gBin fAdd (gVar 6) (gO (gTup (gsCons (gV (gCallF m [] (gaCons (gVar 0) (gaCons (gVar 1) (gaCons (gVar 2) (gaCons (gO (gV (gBin fSub (gVar 3) (gO (gC (.int 1)))))) gaNil)))))) gsNil))))))) gNx)
  (gSeq (gSet 7 (gBin fAdd (gO (gC (.int 1))) (gO (gV (gCallF m__law_pick [] (gaCons (gVar 0) (gaCons (gO (gV (gCall fMax2 (gaCons (gO (gC (.int 1))) (gaCons (gO (gV (gBin fSub (gVar 3) (gO (gC (.int 2)))))) gaNil))))) gaNil)))))))
  (gSeq (gSet 8 (gCallF m [] (gaCons (gVar 0) (gaCons (gVar 1) (gaCons (gVar 2) (gaCons (gVar 7) gaNil))))))
  (gSeq (gSet 9 (gCallF m [] (gaCons (gVar 0) (gaCons (gVar 1) (gaCons (gVar 2) (gaCons (gO (gV (gBin fSub (gO (gV (gBin fSub (gVar 3) (gO (gC (.int 1)))))) (gVar 7)))) gaNil))))))
  (gSeq (gIfS (gAnd (gB (gBin (fEq false) (gVar 4) (gO (gC (.int 5))))) (gB (gBin fGt (gO (gV (gCall fLen (gaCons (gVar 1) gaNil)))) (gO (gC (.int 0)))))) (gRet (gE (gTup (gsCons (gC (.str "if")) (gsCons (gV (gCallF (m__law_say 32) [] (gaCons (gVar 0) (gaCons (gVar 1) (gaCons (gO (gC (.int 1))) gaNil))))) (gsCons (gNam 8) (gsCons (gNam 9) gsNil))))))) gNx)
  (gRet (gE (gTup (gsCons (gV (gIf (gB (gBin (fInU false) (gVar 4) (gO (gTup (gsCons (gC (.int 0)) (gsCons (gC (.int 3)) (gsCons (gC (.int 5)) (gsCons (gC (.int 6)) (gsCons (gC (.int 9)) (gsCons (gC (.int 11)) gsNil)))))))))) (gE (gC (.str "then"))) (gIf (gB (gBin (fInU false) (gVar 4) (gO (gTup (gsCons (gC (.int 1)) (gsCons (gC (.int 4)) gsNil)))))) (gE (gC (.str "own"))) (gE (gC (.str "other")))))) (gsCons (gNam 8) (gsCons (gNam 9) gsNil)))))))))))))
def m__law_tree : Nat → Mir
  | 0 => fun _ => .bad
  | n + 1 => runBody (List.length (α := Str) ["source", "facts", "names", "size"]) (List.length (α := Str) ["source", "facts", "names", "size", "kind", "word", "head", "many", "one", "two"]) (([] ++ []) ++ ([4] ++ ((([5] ++ ([6] ++ [])) ++ []) ++ ([7] ++ ([8] ++ ([9] ++ (([] ++ []) ++ []))))))) (g__law_tree (m__law_tree n))
theorem sc__law_tree : FnScope ["source", "facts", "names", "size", "kind", "word", "head", "many", "one", "two"] ["source", "facts", "names", "size"] (defScope (top 34)) := ⟨rfl, rfl, rfl, by decide +kernel, rfl, by decide +kernel, by decide +kernel⟩
theorem fdn__law_tree (T : Txt P w K mg base) : ∀ n : Nat, FD P w K mg base (35 + n) "_law_tree" [] (m__law_tree n)
  | 0 => T.d__law_tree.bad _
  | n + 1 => by
    have IH := fdn__law_tree T n
    have h__law_pick := fd__law_pick (P := P) (w := w) (K := K) (mg := mg) (base := base) T
    have h__law_say := fd__law_say (P := P) (w := w) (K := K) (mg := mg) (base := base) T
    have h__law_leaf := fd__law_leaf (P := P) (w := w) (K := K) (mg := mg) (base := base) T
    exact T.d__law_tree.fd (k := 35 + n) (mods := (([] ++ []) ++ ([4] ++ ((([5] ++ ([6] ++ [])) ++ []) ++ ([7] ++ ([8] ++ ([9] ++ (([] ++ []) ++ [])))))))) (g := g__law_tree (m__law_tree n)) sc__law_tree fun f cdv A outer s H E F W bc => (pss_cons (m := ([] ++ [])) (n := ([4] ++ ((([5] ++ ([6] ++ [])) ++ []) ++ ([7] ++ ([8] ++ ([9] ++ (([] ++ []) ++ []))))))) (ps_if (m := []) (n := []) (pb_cmp op_ltA od_isS (po_var (pv 3)) (PV.o pv_int) (nomark _)) (pss_one (ps_ret (m := []) (pd_call h__law_leaf bc (by omega) rfl (pas_cons (po_var (pv 0)) (pas_cons (po_var (pv 1)) (pas_cons (po_var (pv 2)) pas_nil)))))) (pss_nil (m := [])))
    (pss_cons (m := [4]) (n := ((([5] ++ ([6] ++ [])) ++ []) ++ ([7] ++ ([8] ++ ([9] ++ (([] ++ []) ++ [])))))) (ps_set (i := 4) bc.nd rfl (by first | exact Or.inl rfl | exact Or.inr rfl) (pd_call h__law_pick bc (by omega) rfl (pas_cons (po_var (pv 0)) (pas_cons (PV.o pv_int) pas_nil))))
    (pss_cons (m := (([5] ++ ([6] ++ [])) ++ [])) (n := ([7] ++ ([8] ++ ([9] ++ (([] ++ []) ++ []))))) (ps_if (m := ([5] ++ ([6] ++ []))) (n := []) (pb_in bc (po_var (pv 4)) (PV.o (pv_tup (pvs_cons pv_int (pvs_cons pv_int pvs_nil)))) (by rfl)) (pss_cons (m := [5]) (n := ([6] ++ [])) (ps_set (i := 5) bc.nd rfl (by first | exact Or.inl rfl | exact Or.inr rfl) (pd_if (PBw.pb (pw_and (pb_cmp (op_eqD bc.hu) od_eq (po_var (pv 4)) (PV.o pv_int) (nomark _)) (pw_and1 (pb_cmp op_gtA od_isS (PV.o (PD.v (pd_callB call_lenA cd_len rfl T.b_len (by first | rfl | decide +kernel) (pas_cons (po_var (pv 1)) pas_nil)))) (PV.o pv_int) (nomark _))))) (PV.d pv_str) (pd_if (pb_tru (PV.o (PD.v (pd_call h__law_pick bc (by omega) rfl (pas_cons (po_var (pv 0)) (pas_cons (PV.o pv_int) pas_nil)))))) (PV.d pv_str) (PV.d pv_str))))
    (pss_cons (m := [6]) (n := []) (ps_set (i := 6) bc.nd rfl (by first | exact Or.inl rfl | exact Or.inr rfl) (pd_if (pb_cmp (op_eqD bc.hu) od_eq (po_var (pv 5)) (PV.o pv_str) (nomark _)) (PV.d (pv_tup (pvs_cons (pv_nam (pv 5)) (pvs_cons (PD.v (pd_call h__law_say bc (by omega) rfl (pas_cons (po_var (pv 0)) (pas_cons (po_var (pv 1)) (pas_cons (PV.o pv_int) pas_nil))))) pvs_nil)))) (PV.d (pv_tup (pvs_cons (pv_nam (pv 5)) pvs_nil)))))
    (pss_one (ps_ret (m := []) (pd_bin op_addA od_add (po_var (pv 6)) (PV.o (pv_tup (pvs_cons (PD.v (pd_call IH bc (by omega) rfl (pas_cons (po_var (pv 0)) (pas_cons (po_var (pv 1)) (pas_cons (po_var (pv 2)) (pas_cons (PV.o (PD.v (pd_bin op_sub od_sub (po_var (pv 3)) (PV.o pv_int)))) pas_nil)))))) pvs_nil)))))))) (pss_nil (m := [])))
    (pss_cons (m := [7]) (n := ([8] ++ ([9] ++ (([] ++ []) ++ [])))) (ps_set (i := 7) bc.nd rfl (by first | exact Or.inl rfl | exact Or.inr rfl) (pd_bin op_addA od_add (PV.o pv_int) (PV.o (PD.v (pd_call h__law_pick bc (by omega) rfl (pas_cons (po_var (pv 0)) (pas_cons (PV.o (PD.v (pd_callB (call_max2 bc.calm) cd_max2 rfl T.b_max (by first | rfl | decide +kernel) (pas_cons (PV.o pv_int) (pas_cons (PV.o (PD.v (pd_bin op_sub od_sub (po_var (pv 3)) (PV.o pv_int)))) pas_nil))))) pas_nil)))))))
    (pss_cons (m := [8]) (n := ([9] ++ (([] ++ []) ++ []))) (ps_set (i := 8) bc.nd rfl (by first | exact Or.inl rfl | exact Or.inr rfl) (pd_call IH bc (by omega) rfl (pas_cons (po_var (pv 0)) (pas_cons (po_var (pv 1)) (pas_cons (po_var (pv 2)) (pas_cons (po_var (pv 7)) pas_nil))))))
    (pss_cons (m := [9]) (n := (([] ++ []) ++ [])) (ps_set (i := 9) bc.nd rfl (by first | exact Or.inl rfl | exact Or.inr rfl) (pd_call IH bc (by omega) rfl (pas_cons (po_var (pv 0)) (pas_cons (po_var (pv 1)) (pas_cons (po_var (pv 2)) (pas_cons (PV.o (PD.v (pd_bin op_sub od_sub (PV.o (PD.v (pd_bin op_sub od_sub (po_var (pv 3)) (PV.o pv_int)))) (po_var (pv 7))))) pas_nil))))))
    (pss_cons (m := ([] ++ [])) (n := []) (ps_if (m := []) (n := []) (PBw.pb (pw_and (pb_cmp (op_eqD bc.hu) od_eq (po_var (pv 4)) (PV.o pv_int) (nomark _)) (pw_and1 (pb_cmp op_gtA od_isS (PV.o (PD.v (pd_callB call_lenA cd_len rfl T.b_len (by first | rfl | decide +kernel) (pas_cons (po_var (pv 1)) pas_nil)))) (PV.o pv_int) (nomark _))))) (pss_one (ps_ret (m := []) (PV.d (pv_tup (pvs_cons pv_str (pvs_cons (PD.v (pd_call h__law_say bc (by omega) rfl (pas_cons (po_var (pv 0)) (pas_cons (po_var (pv 1)) (pas_cons (PV.o pv_int) pas_nil))))) (pvs_cons (pv_nam (pv 8)) (pvs_cons (pv_nam (pv 9)) pvs_nil)))))))) (pss_nil (m := [])))
    (pss_one (ps_ret (m := []) (PV.d (pv_tup (pvs_cons (PD.v (pd_if (pb_in bc (po_var (pv 4)) (PV.o (pv_tup (pvs_cons pv_int (pvs_cons pv_int (pvs_cons pv_int (pvs_cons pv_int (pvs_cons pv_int (pvs_cons pv_int pvs_nil)))))))) (by rfl)) (PV.d pv_str) (pd_if (pb_in bc (po_var (pv 4)) (PV.o (pv_tup (pvs_cons pv_int (pvs_cons pv_int pvs_nil)))) (by rfl)) (PV.d pv_str) (PV.d pv_str)))) (pvs_cons (pv_nam (pv 8)) (pvs_cons (pv_nam (pv 9)) pvs_nil))))))))))))))
theorem fd__law_tree (T : Txt P w K mg base) : FD P w K mg base 67 "_law_tree" [] (m__law_tree 32) := fdn__law_tree T 32
/-! _law_arms -/
def g__law_arms : GS := (gSeq (gSet 1 (gDisp [(.inr "then"), (.inr "own"), (.inr "other"), (.inr "if"), (.inr "while"), (.inr "more"), (.inr "each")] [(.int 2), (.int 2), (.int 2), (.int 2), (.int 1), (.int 1), (.int 1)]))
  (gRet (gIf (gB (gBin (fInU false) (gO (gV (gBin fIxU (gVar 0) (gO (gC (.int 0)))))) (gVar 1))) (gCall fList (gaCons (gO (gV (gSl fSl (gVar 0) (gpSome (gO (gV (gBin fSub (gO (gV (gCall fLen (gaCons (gVar 0) gaNil)))) (gO (gV (gBin fIxU (gVar 1) (gO (gV (gBin fIxU (gVar 0) (gO (gC (.int 0))))))))))))) gpNone))) gaNil)) (gLst gsNil))))
def m__law_arms : Mir := runBody (List.length (α := Str) ["part"]) (List.length (α := Str) ["part", "many"]) ([1] ++ []) g__law_arms
theorem sc__law_arms : FnScope ["part", "many"] ["part"] (defScope (top 35)) := ⟨rfl, rfl, rfl, by decide +kernel, rfl, by decide +kernel, by decide +kernel⟩
theorem fd__law_arms (T : Txt P w K mg base) : FD P w K mg base 2 "_law_arms" [] m__law_arms := by
  exact T.d__law_arms.fd (k := 1) (mods := ([1] ++ [])) (g := g__law_arms) sc__law_arms fun f cdv A outer s H E F W bc => (pss_cons (m := [1]) (n := []) (ps_set (i := 1) bc.nd rfl (by first | exact Or.inl rfl | exact Or.inr rfl) (pd_disp (ks := [(.inr "then"), (.inr "own"), (.inr "other"), (.inr "if"), (.inr "while"), (.inr "more"), (.inr "each")]) (ds := [(.int 2), (.int 2), (.int 2), (.int 2), (.int 1), (.int 1), (.int 1)]) (vs := [(.int 2), (.int 2), (.int 2), (.int 2), (.int 1), (.int 1), (.int 1)]) (pps_cons pe_str pe_int (pps_cons pe_str pe_int (pps_cons pe_str pe_int (pps_cons pe_str pe_int (pps_cons pe_str pe_int (pps_cons pe_str pe_int (pps_cons pe_str pe_int pps_nil))))))) (fun _ => by repeat first | exact rfl | refine ⟨_, _, rfl, rfl, ?_⟩) rfl (by decide +kernel) rfl rfl (by simp) (by decide) (by decide)))
    (pss_one (ps_ret (m := []) (pd_if (pb_in bc (PV.o (PD.v (pd_ixU bc (po_var (pv 0)) (PV.o pv_int) (fun _ _ => rfl)))) (po_var (pv 1)) (by rfl)) (pd_callTy call_list_of cd_list rfl T.b_list (by first | rfl | decide +kernel) (pas_cons (PV.o (PD.v (pd_sl sl_all sd_all (po_var (pv 0)) (pp_some (PV.o (PD.v (pd_bin op_sub od_sub (PV.o (PD.v (pd_callB call_lenA cd_len rfl T.b_len (by first | rfl | decide +kernel) (pas_cons (po_var (pv 0)) pas_nil)))) (PV.o (PD.v (pd_ixU bc (po_var (pv 1)) (PV.o (PD.v (pd_ixU bc (po_var (pv 0)) (PV.o pv_int) (fun _ _ => rfl)))) (fun _ _ => rfl)))))))) pp_none))) pas_nil)) (pd_lst pvs_nil)))))
/-! _law_parts -/
def g__law_parts (m : Mir) : GS := (gSeq (gSet 1 (gLst (gsCons (gNam 0) gsNil)))
  (gSeq (gFor (gItems (gV (gCallF m__law_arms [] (gaCons (gVar 0) gaNil)))) (gtName 2) (gSet 1 (gBin fAdd (gVar 1) (gO (gV (gCallF m [] (gaCons (gVar 2) gaNil)))))) [2])
  (gRet (gMove 1))))
def m__law_parts : Nat → Mir
  | 0 => fun _ => .bad
  | n + 1 => runBody (List.length (α := Str) ["tree"]) (List.length (α := Str) ["tree", "told", "arm"]) ([1] ++ (([2] ++ [1]) ++ [])) (g__law_parts (m__law_parts n))
theorem sc__law_parts : FnScope ["tree", "told", "arm"] ["tree"] (defScope (top 36)) := ⟨rfl, rfl, rfl, by decide +kernel, rfl, by decide +kernel, by decide +kernel⟩
theorem fdn__law_parts (T : Txt P w K mg base) : ∀ n : Nat, FD P w K mg base (2 + n) "_law_parts" [] (m__law_parts n)
  | 0 => T.d__law_parts.bad _
  | n + 1 => by
    have IH := fdn__law_parts T n
    have h__law_arms := fd__law_arms (P := P) (w := w) (K := K) (mg := mg) (base := base) T
    exact T.d__law_parts.fd (k := 2 + n) (mods := ([1] ++ (([2] ++ [1]) ++ []))) (g := g__law_parts (m__law_parts n)) sc__law_parts fun f cdv A outer s H E F W bc => (pss_cons (m := [1]) (n := (([2] ++ [1]) ++ [])) (ps_set (i := 1) bc.nd rfl (by first | exact Or.inl rfl | exact Or.inr rfl) (pd_lst (pvs_cons (pv_nam (pv 0)) pvs_nil)))
    (pss_cons (m := ([2] ++ [1])) (n := []) (ps_forD (ts := [2]) (m := [1]) [2] bc (pi_items (PD.v (pd_call h__law_arms bc (by omega) rfl (pas_cons (po_var (pv 0)) pas_nil)))) (pg_nameD bc.nd (i := 2) rfl (by first | exact Or.inl rfl | exact Or.inr rfl)) (pss_one (ps_set (i := 1) bc.nd rfl (by first | exact Or.inl rfl | exact Or.inr rfl) (pd_bin op_addA od_add (po_var (pv 1)) (PV.o (PD.v (pd_call IH bc (by omega) rfl (pas_cons (po_var (pv 2)) pas_nil))))))))
    (pss_one (ps_ret (m := []) (pd_move (pv 1))))))
theorem fd__law_parts (T : Txt P w K mg base) : FD P w K mg base 34 "_law_parts" [] (m__law_parts 32) := fdn__law_parts T 32
/-! _law_put_at -/
def g__law_put_at (m : Mir) : GS := (gSeq (gIfS (gB (gBin (fEq false) (gVar 1) (gO (gC (.int 0))))) (gRet (gMove 2)) gNx)
  (gSeq (gSet 3 (gCallF m__law_arms [] (gaCons (gVar 0) gaNil)))
  (gSeq (gSet 4 (gCall fList (gaCons (gO (gV (gSl fSl (gVar 0) gpNone (gpSome (gO (gV (gBin fSub (gO (gV (gCall fLen (gaCons (gVar 0) gaNil)))) (gO (gV (gCall fLen (gaCons (gVar 3) gaNil))))))))))) gaNil)))
  (gSeq (gSet 5 (gE (gC (.int 1))))
  (gSeq (gFor (gItems (gNam 3)) (gtName 6) (gSeq (gSet 7 (gCall fLen (gaCons (gO (gV (gCallF (m__law_parts 32) [] (gaCons (gVar 6) gaNil)))) gaNil)))
  (gSeq (gAppend 4 (gV (gIf (gAnd (gB (gBin fLe (gVar 5) (gVar 1))) (gB (gBin fLt (gVar 1) (gO (gV (gBin fAdd (gVar 5) (gVar 7))))))) (gCallF m [] (gaCons (gVar 6) (gaCons (gO (gV (gBin fSub (gVar 1) (gVar 5)))) (gaCons (gVar 2) gaNil)))) (gMove 6))))
  (gSet 5 (gBin fAdd (gVar 5) (gVar 7))))) [6, 7])
  (gRet (gCall fTuple (gaCons (gVar 4) gaNil))))))))
def m__law_put_at : Nat → Mir
  | 0 => fun _ => .bad
  | n + 1 => runBody (List.length (α := Str) ["tree", "spot", "put"]) (List.length (α := Str) ["tree", "spot", "put", "arms", "told", "at", "arm", "many"]) (([] ++ []) ++ ([3] ++ ([4] ++ ([5] ++ (([6] ++ ([7] ++ ([] ++ [5]))) ++ []))))) (g__law_put_at (m__law_put_at n))
theorem sc__law_put_at : FnScope ["tree", "spot", "put", "arms", "told", "at", "arm", "many"] ["tree", "spot", "put"] (defScope (top 37)) := ⟨rfl, rfl, rfl, by decide +kernel, rfl, by decide +kernel, by decide +kernel⟩
theorem fdn__law_put_at (T : Txt P w K mg base) : ∀ n : Nat, FD P w K mg base (34 + n) "_law_put_at" [] (m__law_put_at n)
  | 0 => T.d__law_put_at.bad _
  | n + 1 => by
    have IH := fdn__law_put_at T n
    have h__law_arms := fd__law_arms (P := P) (w := w) (K := K) (mg := mg) (base := base) T
    have h__law_parts := fd__law_parts (P := P) (w := w) (K := K) (mg := mg) (base := base) T
    exact T.d__law_put_at.fd (k := 34 + n) (mods := (([] ++ []) ++ ([3] ++ ([4] ++ ([5] ++ (([6] ++ ([7] ++ ([] ++ [5]))) ++ [])))))) (g := g__law_put_at (m__law_put_at n)) sc__law_put_at fun f cdv A outer s H E F W bc => (pss_cons (m := ([] ++ [])) (n := ([3] ++ ([4] ++ ([5] ++ (([6] ++ ([7] ++ ([] ++ [5]))) ++ []))))) (ps_if (m := []) (n := []) (pb_cmp (op_eqD bc.hu) od_eq (po_var (pv 1)) (PV.o pv_int) (nomark _)) (pss_one (ps_ret (m := []) (pd_move (pv 2)))) (pss_nil (m := [])))
    (pss_cons (m := [3]) (n := ([4] ++ ([5] ++ (([6] ++ ([7] ++ ([] ++ [5]))) ++ [])))) (ps_set (i := 3) bc.nd rfl (by first | exact Or.inl rfl | exact Or.inr rfl) (pd_call h__law_arms bc (by omega) rfl (pas_cons (po_var (pv 0)) pas_nil)))
    (pss_cons (m := [4]) (n := ([5] ++ (([6] ++ ([7] ++ ([] ++ [5]))) ++ []))) (ps_set (i := 4) bc.nd rfl (by first | exact Or.inl rfl | exact Or.inr rfl) (pd_callTy call_list_of cd_list rfl T.b_list (by first | rfl | decide +kernel) (pas_cons (PV.o (PD.v (pd_sl sl_all sd_all (po_var (pv 0)) pp_none (pp_some (PV.o (PD.v (pd_bin op_sub od_sub (PV.o (PD.v (pd_callB call_lenA cd_len rfl T.b_len (by first | rfl | decide +kernel) (pas_cons (po_var (pv 0)) pas_nil)))) (PV.o (PD.v (pd_callB call_lenA cd_len rfl T.b_len (by first | rfl | decide +kernel) (pas_cons (po_var (pv 3)) pas_nil))))))))))) pas_nil)))
    (pss_cons (m := [5]) (n := (([6] ++ ([7] ++ ([] ++ [5]))) ++ [])) (ps_set (i := 5) bc.nd rfl (by first | exact Or.inl rfl | exact Or.inr rfl) (PV.d pv_int))
    (pss_cons (m := ([6] ++ ([7] ++ ([] ++ [5])))) (n := []) (ps_forD (ts := [6]) (m := ([7] ++ ([] ++ [5]))) [6, 7] bc (pi_items (pv_nam (pv 3))) (pg_nameD bc.nd (i := 6) rfl (by first | exact Or.inl rfl | exact Or.inr rfl)) (pss_cons (m := [7]) (n := ([] ++ [5])) (ps_set (i := 7) bc.nd rfl (by first | exact Or.inl rfl | exact Or.inr rfl) (pd_callB call_lenA cd_len rfl T.b_len (by first | rfl | decide +kernel) (pas_cons (PV.o (PD.v (pd_call h__law_parts bc (by omega) rfl (pas_cons (po_var (pv 6)) pas_nil)))) pas_nil)))
    (pss_cons (m := []) (n := [5]) (ps_appendD (pv 4) (PD.v (pd_if (PBw.pb (pw_and (pb_cmp op_leA od_isS (po_var (pv 5)) (po_var (pv 1)) (nomark _)) (pw_and1 (pb_cmp op_ltA od_isS (po_var (pv 1)) (PV.o (PD.v (pd_bin op_addA od_add (po_var (pv 5)) (po_var (pv 7))))) (nomark _))))) (pd_call IH bc (by omega) rfl (pas_cons (po_var (pv 6)) (pas_cons (PV.o (PD.v (pd_bin op_sub od_sub (po_var (pv 1)) (po_var (pv 5))))) (pas_cons (po_var (pv 2)) pas_nil)))) (pd_move (pv 6)))))
    (pss_one (ps_set (i := 5) bc.nd rfl (by first | exact Or.inl rfl | exact Or.inr rfl) (pd_bin op_addA od_add (po_var (pv 5)) (po_var (pv 7))))))))
    (pss_one (ps_ret (m := []) (pd_callTy call_tuple_of cd_tuple rfl T.b_tuple (by first | rfl | decide +kernel) (pas_cons (po_var (pv 4)) pas_nil)))))))))
theorem fd__law_put_at (T : Txt P w K mg base) : FD P w K mg base 66 "_law_put_at" [] (m__law_put_at 32) := fdn__law_put_at T 32
/-! _law_fact_names -/
def g__law_fact_names : GS := (gSeq (gSet 2 (gLst (gsCons (gTup (gsCons (gC (.str "p")) (gsCons (gC (.str "q")) (gsCons (gC (.str "r")) gsNil)))) (gsCons (gTup (gsCons (gC (.str "wet")) (gsCons (gC (.str "p")) (gsCons (gC (.str "dusk")) gsNil)))) (gsCons (gTup (gsCons (gC (.str "q")) (gsCons (gC (.str "p")) (gsCons (gC (.str "z")) gsNil)))) (gsCons (gTup (gsCons (gC (.str "paid")) (gsCons (gC (.str "kept")) (gsCons (gC (.str "x")) gsNil)))) (gsCons (gTup (gsCons (gC (.str "r")) (gsCons (gC (.str "p")) (gsCons (gC (.str "q")) gsNil)))) gsNil)))))))
  (gRet (gSl fSl (gO (gV (gBin fIxU (gVar 2) (gO (gV (gCallF m__law_pick [] (gaCons (gVar 0) (gaCons (gO (gV (gCall fLen (gaCons (gVar 2) gaNil)))) gaNil)))))))) gpNone (gpSome (gVar 1)))))
def m__law_fact_names : Mir := runBody (List.length (α := Str) ["source", "many"]) (List.length (α := Str) ["source", "many", "menu"]) ([2] ++ []) g__law_fact_names
theorem sc__law_fact_names : FnScope ["source", "many", "menu"] ["source", "many"] (defScope (top 38)) := ⟨rfl, rfl, rfl, by decide +kernel, rfl, by decide +kernel, by decide +kernel⟩
theorem fd__law_fact_names (T : Txt P w K mg base) : FD P w K mg base 3 "_law_fact_names" [] m__law_fact_names := by
  have h__law_pick := fd__law_pick (P := P) (w := w) (K := K) (mg := mg) (base := base) T
  exact T.d__law_fact_names.fd (k := 2) (mods := ([2] ++ [])) (g := g__law_fact_names) sc__law_fact_names fun f cdv A outer s H E F W bc => (pss_cons (m := [2]) (n := []) (ps_set (i := 2) bc.nd rfl (by first | exact Or.inl rfl | exact Or.inr rfl) (pd_lst (pvs_cons (pv_tup (pvs_cons pv_str (pvs_cons pv_str (pvs_cons pv_str pvs_nil)))) (pvs_cons (pv_tup (pvs_cons pv_str (pvs_cons pv_str (pvs_cons pv_str pvs_nil)))) (pvs_cons (pv_tup (pvs_cons pv_str (pvs_cons pv_str (pvs_cons pv_str pvs_nil)))) (pvs_cons (pv_tup (pvs_cons pv_str (pvs_cons pv_str (pvs_cons pv_str pvs_nil)))) (pvs_cons (pv_tup (pvs_cons pv_str (pvs_cons pv_str (pvs_cons pv_str pvs_nil)))) pvs_nil)))))))
    (pss_one (ps_ret (m := []) (pd_sl sl_all sd_all (PV.o (PD.v (pd_ixU bc (po_var (pv 2)) (PV.o (PD.v (pd_call h__law_pick bc (by omega) rfl (pas_cons (po_var (pv 0)) (pas_cons (PV.o (PD.v (pd_callB call_lenA cd_len rfl T.b_len (by first | rfl | decide +kernel) (pas_cons (po_var (pv 2)) pas_nil)))) pas_nil))))) (fun _ _ => rfl)))) pp_none (pp_some (po_var (pv 1)))))))
/-! _law_deed_names -/
def g__law_deed_names : GS := (gSeq (gSet 2 (gLst (gsCons (gTup (gsCons (gC (.str "a")) (gsCons (gC (.str "b")) (gsCons (gC (.str "c")) gsNil)))) (gsCons (gTup (gsCons (gC (.str "a")) (gsCons (gC (.str "carry")) (gsCons (gC (.str "d")) gsNil)))) (gsCons (gTup (gsCons (gC (.str "aa")) (gsCons (gC (.str "b")) (gsCons (gC (.str "send")) gsNil)))) (gsCons (gTup (gsCons (gC (.str "b")) (gsCons (gC (.str "bb")) (gsCons (gC (.str "c")) gsNil)))) (gsCons (gTup (gsCons (gC (.str "a")) (gsCons (gC (.str "b")) (gsCons (gC (.str "c")) gsNil)))) gsNil)))))))
  (gRet (gSl fSl (gO (gV (gBin fIxU (gVar 2) (gO (gV (gCallF m__law_pick [] (gaCons (gVar 0) (gaCons (gO (gV (gCall fLen (gaCons (gVar 2) gaNil)))) gaNil)))))))) gpNone (gpSome (gVar 1)))))
def m__law_deed_names : Mir := runBody (List.length (α := Str) ["source", "many"]) (List.length (α := Str) ["source", "many", "menu"]) ([2] ++ []) g__law_deed_names
theorem sc__law_deed_names : FnScope ["source", "many", "menu"] ["source", "many"] (defScope (top 39)) := ⟨rfl, rfl, rfl, by decide +kernel, rfl, by decide +kernel, by decide +kernel⟩
theorem fd__law_deed_names (T : Txt P w K mg base) : FD P w K mg base 3 "_law_deed_names" [] m__law_deed_names := by
  have h__law_pick := fd__law_pick (P := P) (w := w) (K := K) (mg := mg) (base := base) T
  exact T.d__law_deed_names.fd (k := 2) (mods := ([2] ++ [])) (g := g__law_deed_names) sc__law_deed_names fun f cdv A outer s H E F W bc => (pss_cons (m := [2]) (n := []) (ps_set (i := 2) bc.nd rfl (by first | exact Or.inl rfl | exact Or.inr rfl) (pd_lst (pvs_cons (pv_tup (pvs_cons pv_str (pvs_cons pv_str (pvs_cons pv_str pvs_nil)))) (pvs_cons (pv_tup (pvs_cons pv_str (pvs_cons pv_str (pvs_cons pv_str pvs_nil)))) (pvs_cons (pv_tup (pvs_cons pv_str (pvs_cons pv_str (pvs_cons pv_str pvs_nil)))) (pvs_cons (pv_tup (pvs_cons pv_str (pvs_cons pv_str (pvs_cons pv_str pvs_nil)))) (pvs_cons (pv_tup (pvs_cons pv_str (pvs_cons pv_str (pvs_cons pv_str pvs_nil)))) pvs_nil)))))))
    (pss_one (ps_ret (m := []) (pd_sl sl_all sd_all (PV.o (PD.v (pd_ixU bc (po_var (pv 2)) (PV.o (PD.v (pd_call h__law_pick bc (by omega) rfl (pas_cons (po_var (pv 0)) (pas_cons (PV.o (PD.v (pd_callB call_lenA cd_len rfl T.b_len (by first | rfl | decide +kernel) (pas_cons (po_var (pv 2)) pas_nil)))) pas_nil))))) (fun _ _ => rfl)))) pp_none (pp_some (po_var (pv 1)))))))
/-! _law_lists -/
def g__law_lists (m : Mir) : GS := (gRet (gIf (gTru (gO (gV (gUn (fIsi [("NoneType", false), ("bool", false), ("int", false), ("str", false), ("tuple", true), ("list", false), ("dict", false)]) (gVar 0))))) (gComp (gItems (gNam 0)) (gtName 1) gYes (gV (gCallF m [] (gaCons (gVar 1) gaNil))) [1]) (gMove 0)))
def m__law_lists : Nat → Mir
  | 0 => fun _ => .bad
  | n + 1 => runBody (List.length (α := Str) ["thing"]) (List.length (α := Str) ["thing", "one"]) [] (g__law_lists (m__law_lists n))
theorem sc__law_lists : FnScope ["thing", "one"] ["thing"] (defScope (top 40)) := ⟨rfl, rfl, rfl, by decide +kernel, rfl, by decide +kernel, by decide +kernel⟩
theorem fdn__law_lists (T : Txt P w K mg base) : ∀ n : Nat, FD P w K mg base (1 + n) "_law_lists" [] (m__law_lists n)
  | 0 => T.d__law_lists.bad _
  | n + 1 => by
    have IH := fdn__law_lists T n
    exact T.d__law_lists.fd (k := 1 + n) (mods := []) (g := g__law_lists (m__law_lists n)) sc__law_lists fun f cdv A outer s H E F W bc => (pss_one (ps_ret (m := []) (pd_if (pb_tru (PV.o (PD.v (pd_isi (T := "tuple") (tab := [("NoneType", false), ("bool", false), ("int", false), ("str", false), ("tuple", true), ("list", false), ("dict", false)]) rfl T.b_isinstance (by decide +kernel) (po_var (pv 0)) (pe_bltn (v := .ty "tuple") (u := .type "tuple") rfl T.b_tuple (by first | rfl | decide +kernel) rfl))))) (pd_lc (own := [("one", 1)]) (ts := [1]) (by decide) bc (pi_items (pv_nam (pv 0))) (blkOk_by (N := ["thing", "one"]) (sc := defScope (top 40)) (by decide +kernel)) (fun s H C cl fp F => (pg_nameD bc.nd (i := 1) rfl (by first | exact Or.inl rfl | exact Or.inr rfl))) (fun s H C cl fp F bc => pbs_nil) (fun s H C cl fp F bc => (PD.v (pd_call IH bc (by omega) rfl (pas_cons (po_var (pv 1)) pas_nil))))) (pd_move (pv 0)))))
theorem fd__law_lists (T : Txt P w K mg base) : FD P w K mg base 33 "_law_lists" [] (m__law_lists 32) := fdn__law_lists T 32
/-! _law_follow -/
def g__law_follow (m : Mir) : GS := (gSeq (gSet 3 (gBin fIxU (gVar 0) (gO (gC (.int 0)))))
  (gSeq (gSet 4 (gLst (gsCons (gNam 1) gsNil)))
  (gSeq (gSet 5 (gBin fAdd (gVar 2) (gO (gC (.int 1)))))
  (gSeq (gSet 6 (gCallF m__law_arms [] (gaCons (gVar 0) gaNil)))
  (gSeq (gFor (gRng1 (gaCons (gO (gV (gCall fLen (gaCons (gVar 6) gaNil)))) gaNil)) (gtName 7) (gSeq (gSet 8 (gCall fLen (gaCons (gO (gV (gCallF (m__law_parts 32) [] (gaCons (gO (gV (gBin fIxU (gVar 6) (gVar 7)))) gaNil)))) gaNil)))
  (gSeq (gSet 9 (gIf (gB (gBin (fInU false) (gVar 3) (gO (gTup (gsCons (gC (.str "while")) (gsCons (gC (.str "more")) (gsCons (gC (.str "each")) gsNil))))))) (gMove 2) (gMove 1)))
  (gSeq (gIfS (gAnd (gB (gBin (fEq false) (gVar 3) (gO (gC (.str "then"))))) (gB (gBin (fEq false) (gVar 7) (gO (gC (.int 0)))))) (gSet 9 (gBin fAdd (gVar 5) (gVar 8))) gNx)
  (gSeq (gSet 4 (gBin fAdd (gVar 4) (gO (gV (gCallF m [] (gaCons (gO (gV (gBin fIxU (gVar 6) (gVar 7)))) (gaCons (gVar 9) (gaCons (gVar 5) gaNil))))))))
  (gSet 5 (gBin fAdd (gVar 5) (gVar 8))))))) [7, 8, 9])
  (gRet (gMove 4)))))))
def m__law_follow : Nat → Mir
  | 0 => fun _ => .bad
  | n + 1 => runBody (List.length (α := Str) ["tree", "behind", "at"]) (List.length (α := Str) ["tree", "behind", "at", "kind", "told", "place", "arms", "k", "many", "after"]) ([3] ++ ([4] ++ ([5] ++ ([6] ++ (([7] ++ ([8] ++ ([9] ++ (([9] ++ []) ++ ([4] ++ [5]))))) ++ []))))) (g__law_follow (m__law_follow n))
theorem sc__law_follow : FnScope ["tree", "behind", "at", "kind", "told", "place", "arms", "k", "many", "after"] ["tree", "behind", "at"] (defScope (top 41)) := ⟨rfl, rfl, rfl, by decide +kernel, rfl, by decide +kernel, by decide +kernel⟩
theorem fdn__law_follow (T : Txt P w K mg base) : ∀ n : Nat, FD P w K mg base (34 + n) "_law_follow" [] (m__law_follow n)
  | 0 => T.d__law_follow.bad _
  | n + 1 => by
    have IH := fdn__law_follow T n
    have h__law_arms := fd__law_arms (P := P) (w := w) (K := K) (mg := mg) (base := base) T
    have h__law_parts := fd__law_parts (P := P) (w := w) (K := K) (mg := mg) (base := base) T
    exact T.d__law_follow.fd (k := 34 + n) (mods := ([3] ++ ([4] ++ ([5] ++ ([6] ++ (([7] ++ ([8] ++ ([9] ++ (([9] ++ []) ++ ([4] ++ [5]))))) ++ [])))))) (g := g__law_follow (m__law_follow n)) sc__law_follow fun f cdv A outer s H E F W bc => (pss_cons (m := [3]) (n := ([4] ++ ([5] ++ ([6] ++ (([7] ++ ([8] ++ ([9] ++ (([9] ++ []) ++ ([4] ++ [5]))))) ++ []))))) (ps_set (i := 3) bc.nd rfl (by first | exact Or.inl rfl | exact Or.inr rfl) (pd_ixU bc (po_var (pv 0)) (PV.o pv_int) (fun _ _ => rfl)))
    (pss_cons (m := [4]) (n := ([5] ++ ([6] ++ (([7] ++ ([8] ++ ([9] ++ (([9] ++ []) ++ ([4] ++ [5]))))) ++ [])))) (ps_set (i := 4) bc.nd rfl (by first | exact Or.inl rfl | exact Or.inr rfl) (pd_lst (pvs_cons (pv_nam (pv 1)) pvs_nil)))
    (pss_cons (m := [5]) (n := ([6] ++ (([7] ++ ([8] ++ ([9] ++ (([9] ++ []) ++ ([4] ++ [5]))))) ++ []))) (ps_set (i := 5) bc.nd rfl (by first | exact Or.inl rfl | exact Or.inr rfl) (pd_bin op_addA od_add (po_var (pv 2)) (PV.o pv_int)))
    (pss_cons (m := [6]) (n := (([7] ++ ([8] ++ ([9] ++ (([9] ++ []) ++ ([4] ++ [5]))))) ++ [])) (ps_set (i := 6) bc.nd rfl (by first | exact Or.inl rfl | exact Or.inr rfl) (pd_call h__law_arms bc (by omega) rfl (pas_cons (po_var (pv 0)) pas_nil)))
    (pss_cons (m := ([7] ++ ([8] ++ ([9] ++ (([9] ++ []) ++ ([4] ++ [5])))))) (n := []) (ps_forD (ts := [7]) (m := ([8] ++ ([9] ++ (([9] ++ []) ++ ([4] ++ [5]))))) [7, 8, 9] bc (pi_rng1 rfl T.b_range (pas_cons (PV.o (PD.v (pd_callB call_lenA cd_len rfl T.b_len (by first | rfl | decide +kernel) (pas_cons (po_var (pv 6)) pas_nil)))) pas_nil)) (pg_nameD bc.nd (i := 7) rfl (by first | exact Or.inl rfl | exact Or.inr rfl)) (pss_cons (m := [8]) (n := ([9] ++ (([9] ++ []) ++ ([4] ++ [5])))) (ps_set (i := 8) bc.nd rfl (by first | exact Or.inl rfl | exact Or.inr rfl) (pd_callB call_lenA cd_len rfl T.b_len (by first | rfl | decide +kernel) (pas_cons (PV.o (PD.v (pd_call h__law_parts bc (by omega) rfl (pas_cons (PV.o (PD.v (pd_ixU bc (po_var (pv 6)) (po_var (pv 7)) (fun _ _ => rfl)))) pas_nil)))) pas_nil)))
    (pss_cons (m := [9]) (n := (([9] ++ []) ++ ([4] ++ [5]))) (ps_set (i := 9) bc.nd rfl (by first | exact Or.inl rfl | exact Or.inr rfl) (pd_if (pb_in bc (po_var (pv 3)) (PV.o (pv_tup (pvs_cons pv_str (pvs_cons pv_str (pvs_cons pv_str pvs_nil))))) (by rfl)) (pd_move (pv 2)) (pd_move (pv 1))))
    (pss_cons (m := ([9] ++ [])) (n := ([4] ++ [5])) (ps_if (m := [9]) (n := []) (PBw.pb (pw_and (pb_cmp (op_eqD bc.hu) od_eq (po_var (pv 3)) (PV.o pv_str) (nomark _)) (pw_and1 (pb_cmp (op_eqD bc.hu) od_eq (po_var (pv 7)) (PV.o pv_int) (nomark _))))) (pss_one (ps_set (i := 9) bc.nd rfl (by first | exact Or.inl rfl | exact Or.inr rfl) (pd_bin op_addA od_add (po_var (pv 5)) (po_var (pv 8))))) (pss_nil (m := [])))
    (pss_cons (m := [4]) (n := [5]) (ps_set (i := 4) bc.nd rfl (by first | exact Or.inl rfl | exact Or.inr rfl) (pd_bin op_addA od_add (po_var (pv 4)) (PV.o (PD.v (pd_call IH bc (by omega) rfl (pas_cons (PV.o (PD.v (pd_ixU bc (po_var (pv 6)) (po_var (pv 7)) (fun _ _ => rfl)))) (pas_cons (po_var (pv 9)) (pas_cons (po_var (pv 5)) pas_nil))))))))
    (pss_one (ps_set (i := 5) bc.nd rfl (by first | exact Or.inl rfl | exact Or.inr rfl) (pd_bin op_addA od_add (po_var (pv 5)) (po_var (pv 8))))))))))
    (pss_one (ps_ret (m := []) (pd_move (pv 4)))))))))
theorem fd__law_follow (T : Txt P w K mg base) : FD P w K mg base 66 "_law_follow" [] (m__law_follow 32) := fdn__law_follow T 32
/-! _law_refusal -/
def g__law_refusal : GS := (gSeq (gTry (gIfS (gB (gBin (fEq false) (gVar 0) (gO (gC (.int 0))))) (gDrop (gCallF m_parts_of [] (gaCons (gVar 1) gaNil))) (gIfS (gB (gBin (fEq false) (gVar 0) (gO (gC (.int 1))))) (gDrop (gCallF m_followers [] (gaCons (gVar 1) gaNil))) (gDrop (gCallF m_checked_tree [] (gaCons (gVar 1) gaNil))))) [⟨subT sub_BadDeal, some 2, (gRet (gIf (gTru (gO (gXi 2 (subT isi_WrongNumber)))) (gE (gXf 2 "number" fl_number)) (gE (gC (.str "class")))))⟩, ⟨subT sub_DealsError, none, (gRet (gE (gC (.str "other"))))⟩])
  (gRet (gE (gC .non))))
def m__law_refusal : Mir := runBody (List.length (α := Str) ["which", "tree"]) (List.length (α := Str) ["which", "tree", "error"]) ([2] ++ []) g__law_refusal
theorem sc__law_refusal : FnScope ["which", "tree", "error"] ["which", "tree"] (defScope (top 42)) := ⟨rfl, rfl, rfl, by decide +kernel, rfl, by decide +kernel, by decide +kernel⟩
theorem fd__law_refusal (T : Txt P w K mg base) : FD P w K mg base 72 "_law_refusal" [] m__law_refusal := by
  have h_checked_tree := fd_checked_tree (P := P) (w := w) (K := K) (mg := mg) (base := base) T
  have h_parts_of := fd_parts_of (P := P) (w := w) (K := K) (mg := mg) (base := base) T
  have h_followers := fd_followers (P := P) (w := w) (K := K) (mg := mg) (base := base) T
  obtain ⟨C_BadDeal, hC_BadDeal, hS_BadDeal, hI_BadDeal⟩ := T.h_BadDeal.ex
  obtain ⟨C_DealsError, hC_DealsError, hS_DealsError, hI_DealsError⟩ := T.h_DealsError.ex
  obtain ⟨C_WrongNumber, hC_WrongNumber, hS_WrongNumber, hI_WrongNumber⟩ := T.h_WrongNumber.ex
  exact T.d__law_refusal.fd (k := 71) (mods := ([2] ++ [])) (g := g__law_refusal) sc__law_refusal fun f cdv A outer s H E F W bc => (pss_cons (m := [2]) (n := []) (ps_tryD (m := [2]) bc rfl rfl (fun W pn xe bc => pss_sub (m := ([] ++ ([] ++ []))) (pss_one (ps_if (m := []) (n := ([] ++ [])) (pb_cmp (op_eqD bc.hu) od_eq (po_var (pv 0)) (PV.o pv_int) (nomark _)) (pss_one (ps_expr (m := []) (pd_call h_parts_of bc (by omega) rfl (pas_cons (po_var (pv 1)) pas_nil)))) (pss_one (ps_if (m := []) (n := []) (pb_cmp (op_eqD bc.hu) od_eq (po_var (pv 0)) (PV.o pv_int) (nomark _)) (pss_one (ps_expr (m := []) (pd_call h_followers bc (by omega) rfl (pas_cons (po_var (pv 1)) pas_nil)))) (pss_one (ps_expr (m := []) (pd_call h_checked_tree bc (by omega) rfl (pas_cons (po_var (pv 1)) pas_nil)))))))) (by decide)) (.named ⟨rfl, by decide, .inl hC_BadDeal⟩ hS_BadDeal (i := 2) rfl rfl (by decide) (fun a oe cls d pn hz hf => pss_sub (m := []) (pss_one (ps_ret (m := []) (pd_if (pb_tru (PV.o (pv_xi (vc := .ref C_WrongNumber) hz hf hI_WrongNumber (fun _ z => z) rfl T.b_isinstance (pv 2) (pe_glob (v := .ref C_WrongNumber) rfl hC_WrongNumber rfl)))) (PV.d (pv_xf hz hf T.f_number (pv 2))) (PV.d pv_str)))) (by decide)) (.bare ⟨rfl, by decide, .inl hC_DealsError⟩ hS_DealsError (fun a oe cls d pn hz hf => pss_sub (m := []) (pss_one (ps_ret (m := []) (PV.d pv_str))) (by decide)) .nil)))
    (pss_one (ps_ret (m := []) (PV.d pv_non))))
/-! _law_wrong -/
def g__law_wrong : GS := (gSeq (gSet 2 (gLst (gsCons (gC .non) (gsCons (gTup gsNil) (gsCons (gC (.str "pass")) (gsCons (gTup (gsCons (gC (.str "deed")) gsNil)) (gsCons (gTup (gsCons (gC (.str "deed")) (gsCons (gC (.str "pass")) gsNil))) (gsCons (gTup (gsCons (gC (.str "deed")) (gsCons (gC (.str "a")) (gsCons (gC (.str "b")) gsNil)))) (gsCons (gTup (gsCons (gC (.str "need")) (gsCons (gTup (gsCons (gC (.str "fact")) (gsCons (gC (.int 3)) gsNil))) gsNil))) (gsCons (gTup (gsCons (gC (.str "both")) (gsCons (gNam 1) gsNil))) gsNil))))))))))
  (gSeq (gSet 2 (gBin fAdd (gVar 2) (gO (gV (gLst (gsCons (gTup (gsCons (gC (.str "then")) (gsCons (gNam 1) gsNil))) (gsCons (gTup (gsCons (gC (.str "own")) (gsCons (gNam 1) (gsCons (gNam 1) (gsCons (gNam 1) gsNil))))) (gsCons (gTup (gsCons (gC (.str "while")) (gsCons (gNam 1) (gsCons (gNam 1) gsNil)))) (gsCons (gTup (gsCons (gC (.str "more")) gsNil)) (gsCons (gTup (gsCons (gC (.str "if")) (gsCons (gTup (gsCons (gC (.str "yes")) gsNil)) (gsCons (gNam 1) gsNil)))) gsNil))))))))))
  (gSeq (gSet 2 (gBin fAdd (gVar 2) (gO (gV (gLst (gsCons (gTup (gsCons (gC (.str "pass")) (gsCons (gNam 1) gsNil))) (gsCons (gTup (gsCons (gC (.str "win")) (gsCons (gC (.int 1)) gsNil))) (gsCons (gTup (gsCons (gC (.str "deed")) (gsCons (gC (.str "Ab")) gsNil))) (gsCons (gTup (gsCons (gC (.str "need")) gsNil)) (gsCons (gTup (gsCons (gC (.str "grant")) (gsCons (gTup (gsCons (gC (.str "and")) (gsCons (gTup (gsCons (gC (.str "yes")) gsNil)) gsNil))) gsNil))) gsNil))))))))))
  (gSeq (gSet 2 (gBin fAdd (gVar 2) (gO (gV (gLst (gsCons (gTup (gsCons (gNam 1) gsNil)) (gsCons (gTup (gsCons (gC (.str "each")) (gsCons (gNam 1) (gsCons (gNam 1) gsNil)))) gsNil)))))))
  (gRet (gBin fIxU (gVar 2) (gO (gV (gCallF m__law_pick [] (gaCons (gVar 0) (gaCons (gO (gV (gCall fLen (gaCons (gVar 2) gaNil)))) gaNil)))))))))))
def m__law_wrong : Mir := runBody (List.length (α := Str) ["source", "old"]) (List.length (α := Str) ["source", "old", "menu"]) ([2] ++ ([2] ++ ([2] ++ ([2] ++ [])))) g__law_wrong
theorem sc__law_wrong : FnScope ["source", "old", "menu"] ["source", "old"] (defScope (top 43)) := ⟨rfl, rfl, rfl, by decide +kernel, rfl, by decide +kernel, by decide +kernel⟩
theorem fd__law_wrong (T : Txt P w K mg base) : FD P w K mg base 3 "_law_wrong" [] m__law_wrong := by
  have h__law_pick := fd__law_pick (P := P) (w := w) (K := K) (mg := mg) (base := base) T
  exact T.d__law_wrong.fd (k := 2) (mods := ([2] ++ ([2] ++ ([2] ++ ([2] ++ []))))) (g := g__law_wrong) sc__law_wrong fun f cdv A outer s H E F W bc => (pss_cons (m := [2]) (n := ([2] ++ ([2] ++ ([2] ++ [])))) (ps_set (i := 2) bc.nd rfl (by first | exact Or.inl rfl | exact Or.inr rfl) (pd_lst (pvs_cons pv_non (pvs_cons (pv_tup pvs_nil) (pvs_cons pv_str (pvs_cons (pv_tup (pvs_cons pv_str pvs_nil)) (pvs_cons (pv_tup (pvs_cons pv_str (pvs_cons pv_str pvs_nil))) (pvs_cons (pv_tup (pvs_cons pv_str (pvs_cons pv_str (pvs_cons pv_str pvs_nil)))) (pvs_cons (pv_tup (pvs_cons pv_str (pvs_cons (pv_tup (pvs_cons pv_str (pvs_cons pv_int pvs_nil))) pvs_nil))) (pvs_cons (pv_tup (pvs_cons pv_str (pvs_cons (pv_nam (pv 1)) pvs_nil))) pvs_nil))))))))))
    (pss_cons (m := [2]) (n := ([2] ++ ([2] ++ []))) (ps_set (i := 2) bc.nd rfl (by first | exact Or.inl rfl | exact Or.inr rfl) (pd_bin op_addA od_add (po_var (pv 2)) (PV.o (PD.v (pd_lst (pvs_cons (pv_tup (pvs_cons pv_str (pvs_cons (pv_nam (pv 1)) pvs_nil))) (pvs_cons (pv_tup (pvs_cons pv_str (pvs_cons (pv_nam (pv 1)) (pvs_cons (pv_nam (pv 1)) (pvs_cons (pv_nam (pv 1)) pvs_nil))))) (pvs_cons (pv_tup (pvs_cons pv_str (pvs_cons (pv_nam (pv 1)) (pvs_cons (pv_nam (pv 1)) pvs_nil)))) (pvs_cons (pv_tup (pvs_cons pv_str pvs_nil)) (pvs_cons (pv_tup (pvs_cons pv_str (pvs_cons (pv_tup (pvs_cons pv_str pvs_nil)) (pvs_cons (pv_nam (pv 1)) pvs_nil)))) pvs_nil))))))))))
    (pss_cons (m := [2]) (n := ([2] ++ [])) (ps_set (i := 2) bc.nd rfl (by first | exact Or.inl rfl | exact Or.inr rfl) (pd_bin op_addA od_add (po_var (pv 2)) (PV.o (PD.v (pd_lst (pvs_cons (pv_tup (pvs_cons pv_str (pvs_cons (pv_nam (pv 1)) pvs_nil))) (pvs_cons (pv_tup (pvs_cons pv_str (pvs_cons pv_int pvs_nil))) (pvs_cons (pv_tup (pvs_cons pv_str (pvs_cons pv_str pvs_nil))) (pvs_cons (pv_tup (pvs_cons pv_str pvs_nil)) (pvs_cons (pv_tup (pvs_cons pv_str (pvs_cons (pv_tup (pvs_cons pv_str (pvs_cons (pv_tup (pvs_cons pv_str pvs_nil)) pvs_nil))) pvs_nil))) pvs_nil))))))))))
    (pss_cons (m := [2]) (n := []) (ps_set (i := 2) bc.nd rfl (by first | exact Or.inl rfl | exact Or.inr rfl) (pd_bin op_addA od_add (po_var (pv 2)) (PV.o (PD.v (pd_lst (pvs_cons (pv_tup (pvs_cons (pv_nam (pv 1)) pvs_nil)) (pvs_cons (pv_tup (pvs_cons pv_str (pvs_cons (pv_nam (pv 1)) (pvs_cons (pv_nam (pv 1)) pvs_nil)))) pvs_nil)))))))
    (pss_one (ps_ret (m := []) (pd_ixU bc (po_var (pv 2)) (PV.o (PD.v (pd_call h__law_pick bc (by omega) rfl (pas_cons (po_var (pv 0)) (pas_cons (PV.o (PD.v (pd_callB call_lenA cd_len rfl T.b_len (by first | rfl | decide +kernel) (pas_cons (po_var (pv 2)) pas_nil)))) pas_nil))))) (fun _ _ => rfl))))))))
/-! _law_tower -/
def g__law_tower : GS := (gSeq (gSet 2 (gE (gTup (gsCons (gC (.str "deed")) (gsCons (gC (.str "a")) gsNil)))))
  (gSeq (gFor (gRng1 (gaCons (gVar 0) gaNil)) (gtName 3) (gSet 2 (gIf (gB (gBin (fEq false) (gVar 1) (gO (gC (.str "while"))))) (gE (gTup (gsCons (gNam 1) (gsCons (gTup (gsCons (gC (.str "yes")) gsNil)) (gsCons (gNam 2) gsNil))))) (gE (gTup (gsCons (gNam 1) (gsCons (gNam 2) gsNil)))))) [3])
  (gRet (gMove 2))))
def m__law_tower : Mir := runBody (List.length (α := Str) ["many", "kind"]) (List.length (α := Str) ["many", "kind", "told", "k"]) ([2] ++ (([3] ++ [2]) ++ [])) g__law_tower
theorem sc__law_tower : FnScope ["many", "kind", "told", "k"] ["many", "kind"] (defScope (top 44)) := ⟨rfl, rfl, rfl, by decide +kernel, rfl, by decide +kernel, by decide +kernel⟩
theorem fd__law_tower (T : Txt P w K mg base) : FD P w K mg base 2 "_law_tower" [] m__law_tower := by
  exact T.d__law_tower.fd (k := 1) (mods := ([2] ++ (([3] ++ [2]) ++ []))) (g := g__law_tower) sc__law_tower fun f cdv A outer s H E F W bc => (pss_cons (m := [2]) (n := (([3] ++ [2]) ++ [])) (ps_set (i := 2) bc.nd rfl (by first | exact Or.inl rfl | exact Or.inr rfl) (PV.d (pv_tup (pvs_cons pv_str (pvs_cons pv_str pvs_nil)))))
    (pss_cons (m := ([3] ++ [2])) (n := []) (ps_forD (ts := [3]) (m := [2]) [3] bc (pi_rng1 rfl T.b_range (pas_cons (po_var (pv 0)) pas_nil)) (pg_nameD bc.nd (i := 3) rfl (by first | exact Or.inl rfl | exact Or.inr rfl)) (pss_one (ps_set (i := 2) bc.nd rfl (by first | exact Or.inl rfl | exact Or.inr rfl) (pd_if (pb_cmp (op_eqD bc.hu) od_eq (po_var (pv 1)) (PV.o pv_str) (nomark _)) (PV.d (pv_tup (pvs_cons (pv_nam (pv 1)) (pvs_cons (pv_tup (pvs_cons pv_str pvs_nil)) (pvs_cons (pv_nam (pv 2)) pvs_nil))))) (PV.d (pv_tup (pvs_cons (pv_nam (pv 1)) (pvs_cons (pv_nam (pv 2)) pvs_nil))))))))
    (pss_one (ps_ret (m := []) (pd_move (pv 2))))))
/-! _law_broad -/
def g__law_broad (m : Mir) : GS := (gSeq (gIfS (gB (gBin (fEq false) (gVar 0) (gO (gC (.int 1))))) (gRet (gE (gTup (gsCons (gC (.str "deed")) (gsCons (gC (.str "a")) gsNil))))) gNx)
  (gSeq (gSet 1 (gBin fAdd (gO (gV (gBin fMul (gO (gV (gBin fDiv (gO (gV (gBin fSub (gVar 0) (gO (gC (.int 1)))))) (gO (gC (.int 4)))))) (gO (gC (.int 2)))))) (gO (gC (.int 1)))))
  (gRet (gE (gTup (gsCons (gC (.str "then")) (gsCons (gV (gCallF m [] (gaCons (gVar 1) gaNil))) (gsCons (gV (gCallF m [] (gaCons (gO (gV (gBin fSub (gO (gV (gBin fSub (gVar 0) (gO (gC (.int 1)))))) (gVar 1)))) gaNil))) gsNil))))))))
def m__law_broad : Nat → Mir
  | 0 => fun _ => .bad
  | n + 1 => runBody (List.length (α := Str) ["many"]) (List.length (α := Str) ["many", "half"]) (([] ++ []) ++ ([1] ++ [])) (g__law_broad (m__law_broad n))
theorem sc__law_broad : FnScope ["many", "half"] ["many"] (defScope (top 45)) := ⟨rfl, rfl, rfl, by decide +kernel, rfl, by decide +kernel, by decide +kernel⟩
theorem fdn__law_broad (T : Txt P w K mg base) : ∀ n : Nat, FD P w K mg base (1 + n) "_law_broad" [] (m__law_broad n)
  | 0 => T.d__law_broad.bad _
  | n + 1 => by
    have IH := fdn__law_broad T n
    exact T.d__law_broad.fd (k := 1 + n) (mods := (([] ++ []) ++ ([1] ++ []))) (g := g__law_broad (m__law_broad n)) sc__law_broad fun f cdv A outer s H E F W bc => (pss_cons (m := ([] ++ [])) (n := ([1] ++ [])) (ps_if (m := []) (n := []) (pb_cmp (op_eqD bc.hu) od_eq (po_var (pv 0)) (PV.o pv_int) (nomark _)) (pss_one (ps_ret (m := []) (PV.d (pv_tup (pvs_cons pv_str (pvs_cons pv_str pvs_nil)))))) (pss_nil (m := [])))
    (pss_cons (m := [1]) (n := []) (ps_set (i := 1) bc.nd rfl (by first | exact Or.inl rfl | exact Or.inr rfl) (pd_bin op_addA od_add (PV.o (PD.v (pd_bin op_mulX od_mul (PV.o (PD.v (pd_bin op_fdivW od_div (PV.o (PD.v (pd_bin op_sub od_sub (po_var (pv 0)) (PV.o pv_int)))) (PV.o pv_int)))) (PV.o pv_int)))) (PV.o pv_int)))
    (pss_one (ps_ret (m := []) (PV.d (pv_tup (pvs_cons pv_str (pvs_cons (PD.v (pd_call IH bc (by omega) rfl (pas_cons (po_var (pv 1)) pas_nil))) (pvs_cons (PD.v (pd_call IH bc (by omega) rfl (pas_cons (PV.o (PD.v (pd_bin op_sub od_sub (PV.o (PD.v (pd_bin op_sub od_sub (po_var (pv 0)) (PV.o pv_int)))) (po_var (pv 1))))) pas_nil))) pvs_nil)))))))))
theorem fd__law_broad (T : Txt P w K mg base) : FD P w K mg base 33 "_law_broad" [] (m__law_broad 32) := fdn__law_broad T 32
/-! law -/
def g_law : GS := (gSeq (gSet 1 (gCallF m__law_source [] (gaCons (gVar 0) (gaCons (gO (gC (.int 0))) gaNil))))
  (gSeq (gSet 2 (gCallF m__law_fact_names [] (gaCons (gVar 1) (gaCons (gO (gV (gCallF m__law_pick [] (gaCons (gVar 1) (gaCons (gO (gC (.int 3))) gaNil))))) gaNil))))
  (gSeq (gSet 3 (gCallF m__law_deed_names [] (gaCons (gVar 1) (gaCons (gO (gV (gBin fAdd (gO (gC (.int 1))) (gO (gV (gCallF m__law_pick [] (gaCons (gVar 1) (gaCons (gO (gC (.int 3))) gaNil)))))))) gaNil))))
  (gSeq (gSet 4 (gCallF (m__law_tree 32) [] (gaCons (gVar 1) (gaCons (gVar 2) (gaCons (gVar 3) (gaCons (gO (gV (gBin fAdd (gO (gC (.int 1))) (gO (gV (gCallF m__law_pick [] (gaCons (gVar 1) (gaCons (gO (gC (.int 14))) gaNil)))))))) gaNil))))))
  (gSeq (gSet 5 (gCallF m__law_pick [] (gaCons (gVar 1) (gaCons (gO (gC (.int 9))) gaNil))))
  (gSeq (gIfS (gB (gBin (fEq false) (gVar 5) (gO (gC (.int 4))))) (gSeq (gSet 6 (gLst (gsCons (gV (gCallF (m__law_broad 32) [] (gaCons (gO (gC (.int 59))) gaNil))) (gsCons (gTup (gsCons (gC (.str "more")) (gsCons (gV (gCallF (m__law_broad 32) [] (gaCons (gO (gC (.int 59))) gaNil))) gsNil))) (gsCons (gV (gCallF m__law_tower [] (gaCons (gO (gC (.int 20))) (gaCons (gO (gC (.str "each"))) gaNil)))) (gsCons (gV (gCallF m__law_tower [] (gaCons (gO (gC (.int 20))) (gaCons (gO (gC (.str "while"))) gaNil)))) gsNil))))))
  (gSet 4 (gBin fIxU (gVar 6) (gO (gV (gCallF m__law_pick [] (gaCons (gVar 1) (gaCons (gO (gC (.int 4))) gaNil)))))))) gNx)
  (gSeq (gSet 7 (gCallF (m__law_parts 32) [] (gaCons (gVar 4) gaNil)))
  (gSeq (gIfS (gOr (gB (gBin (fEq true) (gO (gV (gCallF m_parts_of [] (gaCons (gVar 4) gaNil)))) (gO (gV (gCall fTuple (gaCons (gVar 7) gaNil)))))) (gB (gBin (fEq true) (gO (gV (gCallF m_parts_of [] (gaCons (gO (gV (gCallF (m__law_lists 32) [] (gaCons (gVar 4) gaNil)))) gaNil)))) (gO (gV (gCall fTuple (gaCons (gVar 7) gaNil))))))) (gRet (gE (gC (.bl false)))) gNx)
  (gSeq (gIfS (gOr (gB (gBin (fEq true) (gO (gV (gCallF m_followers [] (gaCons (gVar 4) gaNil)))) (gO (gV (gCall fTuple (gaCons (gO (gV (gCallF (m__law_follow 32) [] (gaCons (gVar 4) (gaCons (gO (gV (gCall fLen (gaCons (gVar 7) gaNil)))) (gaCons (gO (gC (.int 0))) gaNil)))))) gaNil)))))) (gB (gBin (fEq true) (gO (gV (gCallF m_checked_tree [] (gaCons (gO (gV (gCallF (m__law_lists 32) [] (gaCons (gVar 4) gaNil)))) gaNil)))) (gVar 4)))) (gRet (gE (gC (.bl false)))) gNx)
  (gSeq (gSet 8 (gCallF m__law_source [] (gaCons (gVar 0) (gaCons (gO (gC (.int 1))) gaNil))))
  (gSeq (gSet 9 (gCallF m__law_pick [] (gaCons (gVar 8) (gaCons (gO (gV (gCall fLen (gaCons (gVar 7) gaNil)))) gaNil))))
  (gSeq (gSet 10 (gCallF (m__law_put_at 32) [] (gaCons (gVar 4) (gaCons (gVar 9) (gaCons (gO (gV (gCallF m__law_wrong [] (gaCons (gVar 8) (gaCons (gO (gV (gBin fIxU (gVar 7) (gVar 9)))) gaNil))))) gaNil)))))
  (gSeq (gSet 11 (gCallF m__law_pick [] (gaCons (gVar 8) (gaCons (gO (gC (.int 3))) gaNil))))
  (gSeq (gIfS (gOr (gB (gBin (fEq true) (gO (gV (gCallF m__law_refusal [] (gaCons (gVar 11) (gaCons (gVar 10) gaNil))))) (gVar 9))) (gB (gBin (fEq true) (gO (gV (gCallF m__law_refusal [] (gaCons (gVar 11) (gaCons (gO (gV (gCallF (m__law_lists 32) [] (gaCons (gVar 10) gaNil)))) gaNil))))) (gVar 9)))) (gRet (gE (gC (.bl false)))) gNx)
  (gSeq (gSet 12 (gComp (gRng1 (gaCons (gO (gV (gCall fLen (gaCons (gVar 7) gaNil)))) gaNil)) (gtName 13) (gB (gBin fGt (gVar 13) (gO (gV (gBin fSub (gO (gV (gBin fAdd (gVar 9) (gO (gV (gCall fLen (gaCons (gO (gV (gCallF (m__law_parts 32) [] (gaCons (gO (gV (gBin fIxU (gVar 7) (gVar 9)))) gaNil)))) gaNil))))))) (gO (gC (.int 1)))))))) (gNam 13) [13]))
  (gSeq (gIfS (gB (gBin fGt (gO (gV (gCall fLen (gaCons (gVar 12) gaNil)))) (gO (gC (.int 0))))) (gSeq (gSet 14 (gBin fIxU (gVar 12) (gO (gV (gCallF m__law_pick [] (gaCons (gVar 8) (gaCons (gO (gV (gCall fLen (gaCons (gVar 12) gaNil)))) gaNil)))))))
  (gSeq (gSet 15 (gCallF (m__law_put_at 32) [] (gaCons (gO (gV (gCallF (m__law_put_at 32) [] (gaCons (gVar 4) (gaCons (gVar 14) (gaCons (gO (gTup (gsCons (gC (.str "both")) gsNil))) gaNil)))))) (gaCons (gVar 9) (gaCons (gO (gV (gCallF m__law_wrong [] (gaCons (gVar 8) (gaCons (gO (gV (gBin fIxU (gVar 7) (gVar 9)))) gaNil))))) gaNil)))))
  (gIfS (gB (gBin (fEq true) (gO (gV (gCallF m__law_refusal [] (gaCons (gVar 11) (gaCons (gVar 15) gaNil))))) (gVar 9))) (gRet (gE (gC (.bl false)))) gNx))) gNx)
  (gSeq (gIfS (gB (gBin (fEq false) (gO (gV (gCallF m__law_pick [] (gaCons (gVar 8) (gaCons (gO (gC (.int 4))) gaNil))))) (gO (gC (.int 2))))) (gSeq (gIfS (gB (gBin (fEq true) (gO (gV (gCallF m__law_refusal [] (gaCons (gVar 11) (gaCons (gO (gTup (gsCons (gC (.str "more")) (gsCons (gTup (gsCons (gC (.str "each")) (gsCons (gV (gCallF (m__law_broad 32) [] (gaCons (gO (gC (.int 59))) gaNil))) gsNil))) gsNil)))) gaNil))))) (gO (gC (.int 60))))) (gRet (gE (gC (.bl false)))) gNx)
  (gIfS (gOr (gB (gBin (fEq true) (gO (gV (gCallF m__law_refusal [] (gaCons (gVar 11) (gaCons (gO (gV (gCallF m__law_tower [] (gaCons (gO (gC (.int 21))) (gaCons (gO (gC (.str "more"))) gaNil))))) gaNil))))) (gO (gC (.int 21))))) (gB (gBin (fEq true) (gO (gV (gCallF m__law_refusal [] (gaCons (gVar 11) (gaCons (gO (gV (gCallF (m__law_broad 32) [] (gaCons (gO (gC (.int 61))) gaNil)))) gaNil))))) (gO (gC (.int 60)))))) (gRet (gE (gC (.bl false)))) gNx)) gNx)
  (gRet (gBin (fIs false) (gO (gV (gCallF m__law_refusal [] (gaCons (gVar 11) (gaCons (gVar 4) gaNil))))) (gO (gC .non)))))))))))))))))))))
def m_law : Mir := runBody (List.length (α := Str) ["script"]) (List.length (α := Str) ["script", "source", "facts", "names", "tree", "odd", "menu", "parts", "drawer", "spot", "bent", "which", "later", "k", "other", "twice"]) ([1] ++ ([2] ++ ([3] ++ ([4] ++ ([5] ++ ((([6] ++ [4]) ++ []) ++ ([7] ++ (([] ++ []) ++ (([] ++ []) ++ ([8] ++ ([9] ++ ([10] ++ ([11] ++ (([] ++ []) ++ ([12] ++ ((([14] ++ ([15] ++ ([] ++ []))) ++ []) ++ (((([] ++ []) ++ ([] ++ [])) ++ []) ++ []))))))))))))))))) g_law
theorem sc_law : FnScope ["script", "source", "facts", "names", "tree", "odd", "menu", "parts", "drawer", "spot", "bent", "which", "later", "k", "other", "twice"] ["script"] (defScope (top 46)) := ⟨rfl, rfl, rfl, by decide +kernel, rfl, by decide +kernel, by decide +kernel⟩
theorem fd_law (T : Txt P w K mg base) {f : Addr} {fd : FuncData} (F0 : L2.FunD K "law" "law" (defArgs (top 46)) (defBody (top 46)) (defScope (top 46)) [] [] f fd) : L2.FnOk P w K mg base (L2.CX P w) 73 f fd ["script"] (spD K mg m_law) := by
  have h_checked_tree := fd_checked_tree (P := P) (w := w) (K := K) (mg := mg) (base := base) T
  have h_parts_of := fd_parts_of (P := P) (w := w) (K := K) (mg := mg) (base := base) T
  have h_followers := fd_followers (P := P) (w := w) (K := K) (mg := mg) (base := base) T
  have h__law_source := fd__law_source (P := P) (w := w) (K := K) (mg := mg) (base := base) T
  have h__law_pick := fd__law_pick (P := P) (w := w) (K := K) (mg := mg) (base := base) T
  have h__law_tree := fd__law_tree (P := P) (w := w) (K := K) (mg := mg) (base := base) T
  have h__law_parts := fd__law_parts (P := P) (w := w) (K := K) (mg := mg) (base := base) T
  have h__law_put_at := fd__law_put_at (P := P) (w := w) (K := K) (mg := mg) (base := base) T
  have h__law_fact_names := fd__law_fact_names (P := P) (w := w) (K := K) (mg := mg) (base := base) T
  have h__law_deed_names := fd__law_deed_names (P := P) (w := w) (K := K) (mg := mg) (base := base) T
  have h__law_lists := fd__law_lists (P := P) (w := w) (K := K) (mg := mg) (base := base) T
  have h__law_follow := fd__law_follow (P := P) (w := w) (K := K) (mg := mg) (base := base) T
  have h__law_refusal := fd__law_refusal (P := P) (w := w) (K := K) (mg := mg) (base := base) T
  have h__law_wrong := fd__law_wrong (P := P) (w := w) (K := K) (mg := mg) (base := base) T
  have h__law_tower := fd__law_tower (P := P) (w := w) (K := K) (mg := mg) (base := base) T
  have h__law_broad := fd__law_broad (P := P) (w := w) (K := K) (mg := mg) (base := base) T
  exact fn_body (k := 72) (mods := ([1] ++ ([2] ++ ([3] ++ ([4] ++ ([5] ++ ((([6] ++ [4]) ++ []) ++ ([7] ++ (([] ++ []) ++ (([] ++ []) ++ ([8] ++ ([9] ++ ([10] ++ ([11] ++ (([] ++ []) ++ ([12] ++ ((([14] ++ ([15] ++ ([] ++ []))) ++ []) ++ (((([] ++ []) ++ ([] ++ [])) ++ []) ++ [])))))))))))))))))) (g := g_law) F0 sc_law fun cdv A outer s H E F W bc => (pss_cons (m := [1]) (n := ([2] ++ ([3] ++ ([4] ++ ([5] ++ ((([6] ++ [4]) ++ []) ++ ([7] ++ (([] ++ []) ++ (([] ++ []) ++ ([8] ++ ([9] ++ ([10] ++ ([11] ++ (([] ++ []) ++ ([12] ++ ((([14] ++ ([15] ++ ([] ++ []))) ++ []) ++ (((([] ++ []) ++ ([] ++ [])) ++ []) ++ []))))))))))))))))) (ps_set (i := 1) bc.nd rfl (by first | exact Or.inl rfl | exact Or.inr rfl) (pd_call h__law_source bc (by omega) rfl (pas_cons (po_var (pv 0)) (pas_cons (PV.o pv_int) pas_nil))))
    (pss_cons (m := [2]) (n := ([3] ++ ([4] ++ ([5] ++ ((([6] ++ [4]) ++ []) ++ ([7] ++ (([] ++ []) ++ (([] ++ []) ++ ([8] ++ ([9] ++ ([10] ++ ([11] ++ (([] ++ []) ++ ([12] ++ ((([14] ++ ([15] ++ ([] ++ []))) ++ []) ++ (((([] ++ []) ++ ([] ++ [])) ++ []) ++ [])))))))))))))))) (ps_set (i := 2) bc.nd rfl (by first | exact Or.inl rfl | exact Or.inr rfl) (pd_call h__law_fact_names bc (by omega) rfl (pas_cons (po_var (pv 1)) (pas_cons (PV.o (PD.v (pd_call h__law_pick bc (by omega) rfl (pas_cons (po_var (pv 1)) (pas_cons (PV.o pv_int) pas_nil))))) pas_nil))))
    (pss_cons (m := [3]) (n := ([4] ++ ([5] ++ ((([6] ++ [4]) ++ []) ++ ([7] ++ (([] ++ []) ++ (([] ++ []) ++ ([8] ++ ([9] ++ ([10] ++ ([11] ++ (([] ++ []) ++ ([12] ++ ((([14] ++ ([15] ++ ([] ++ []))) ++ []) ++ (((([] ++ []) ++ ([] ++ [])) ++ []) ++ []))))))))))))))) (ps_set (i := 3) bc.nd rfl (by first | exact Or.inl rfl | exact Or.inr rfl) (pd_call h__law_deed_names bc (by omega) rfl (pas_cons (po_var (pv 1)) (pas_cons (PV.o (PD.v (pd_bin op_addA od_add (PV.o pv_int) (PV.o (PD.v (pd_call h__law_pick bc (by omega) rfl (pas_cons (po_var (pv 1)) (pas_cons (PV.o pv_int) pas_nil)))))))) pas_nil))))
    (pss_cons (m := [4]) (n := ([5] ++ ((([6] ++ [4]) ++ []) ++ ([7] ++ (([] ++ []) ++ (([] ++ []) ++ ([8] ++ ([9] ++ ([10] ++ ([11] ++ (([] ++ []) ++ ([12] ++ ((([14] ++ ([15] ++ ([] ++ []))) ++ []) ++ (((([] ++ []) ++ ([] ++ [])) ++ []) ++ [])))))))))))))) (ps_set (i := 4) bc.nd rfl (by first | exact Or.inl rfl | exact Or.inr rfl) (pd_call h__law_tree bc (by omega) rfl (pas_cons (po_var (pv 1)) (pas_cons (po_var (pv 2)) (pas_cons (po_var (pv 3)) (pas_cons (PV.o (PD.v (pd_bin op_addA od_add (PV.o pv_int) (PV.o (PD.v (pd_call h__law_pick bc (by omega) rfl (pas_cons (po_var (pv 1)) (pas_cons (PV.o pv_int) pas_nil)))))))) pas_nil))))))
    (pss_cons (m := [5]) (n := ((([6] ++ [4]) ++ []) ++ ([7] ++ (([] ++ []) ++ (([] ++ []) ++ ([8] ++ ([9] ++ ([10] ++ ([11] ++ (([] ++ []) ++ ([12] ++ ((([14] ++ ([15] ++ ([] ++ []))) ++ []) ++ (((([] ++ []) ++ ([] ++ [])) ++ []) ++ []))))))))))))) (ps_set (i := 5) bc.nd rfl (by first | exact Or.inl rfl | exact Or.inr rfl) (pd_call h__law_pick bc (by omega) rfl (pas_cons (po_var (pv 1)) (pas_cons (PV.o pv_int) pas_nil))))
    (pss_cons (m := (([6] ++ [4]) ++ [])) (n := ([7] ++ (([] ++ []) ++ (([] ++ []) ++ ([8] ++ ([9] ++ ([10] ++ ([11] ++ (([] ++ []) ++ ([12] ++ ((([14] ++ ([15] ++ ([] ++ []))) ++ []) ++ (((([] ++ []) ++ ([] ++ [])) ++ []) ++ [])))))))))))) (ps_if (m := ([6] ++ [4])) (n := []) (pb_cmp (op_eqD bc.hu) od_eq (po_var (pv 5)) (PV.o pv_int) (nomark _)) (pss_cons (m := [6]) (n := [4]) (ps_set (i := 6) bc.nd rfl (by first | exact Or.inl rfl | exact Or.inr rfl) (pd_lst (pvs_cons (PD.v (pd_call h__law_broad bc (by omega) rfl (pas_cons (PV.o pv_int) pas_nil))) (pvs_cons (pv_tup (pvs_cons pv_str (pvs_cons (PD.v (pd_call h__law_broad bc (by omega) rfl (pas_cons (PV.o pv_int) pas_nil))) pvs_nil))) (pvs_cons (PD.v (pd_call h__law_tower bc (by omega) rfl (pas_cons (PV.o pv_int) (pas_cons (PV.o pv_str) pas_nil)))) (pvs_cons (PD.v (pd_call h__law_tower bc (by omega) rfl (pas_cons (PV.o pv_int) (pas_cons (PV.o pv_str) pas_nil)))) pvs_nil))))))
    (pss_one (ps_set (i := 4) bc.nd rfl (by first | exact Or.inl rfl | exact Or.inr rfl) (pd_ixU bc (po_var (pv 6)) (PV.o (PD.v (pd_call h__law_pick bc (by omega) rfl (pas_cons (po_var (pv 1)) (pas_cons (PV.o pv_int) pas_nil))))) (fun _ _ => rfl))))) (pss_nil (m := [])))
    (pss_cons (m := [7]) (n := (([] ++ []) ++ (([] ++ []) ++ ([8] ++ ([9] ++ ([10] ++ ([11] ++ (([] ++ []) ++ ([12] ++ ((([14] ++ ([15] ++ ([] ++ []))) ++ []) ++ (((([] ++ []) ++ ([] ++ [])) ++ []) ++ []))))))))))) (ps_set (i := 7) bc.nd rfl (by first | exact Or.inl rfl | exact Or.inr rfl) (pd_call h__law_parts bc (by omega) rfl (pas_cons (po_var (pv 4)) pas_nil)))
    (pss_cons (m := ([] ++ [])) (n := (([] ++ []) ++ ([8] ++ ([9] ++ ([10] ++ ([11] ++ (([] ++ []) ++ ([12] ++ ((([14] ++ ([15] ++ ([] ++ []))) ++ []) ++ (((([] ++ []) ++ ([] ++ [])) ++ []) ++ [])))))))))) (ps_if (m := []) (n := []) (PBw.pb (pw_or (pb_cmp (op_neD bc.hu) od_ne (PV.o (PD.v (pd_call h_parts_of bc (by omega) rfl (pas_cons (po_var (pv 4)) pas_nil)))) (PV.o (PD.v (pd_callTy call_tuple_of cd_tuple rfl T.b_tuple (by first | rfl | decide +kernel) (pas_cons (po_var (pv 7)) pas_nil)))) (nomark _)) (pw_or1 (pb_cmp (op_neD bc.hu) od_ne (PV.o (PD.v (pd_call h_parts_of bc (by omega) rfl (pas_cons (PV.o (PD.v (pd_call h__law_lists bc (by omega) rfl (pas_cons (po_var (pv 4)) pas_nil)))) pas_nil)))) (PV.o (PD.v (pd_callTy call_tuple_of cd_tuple rfl T.b_tuple (by first | rfl | decide +kernel) (pas_cons (po_var (pv 7)) pas_nil)))) (nomark _))))) (pss_one (ps_ret (m := []) (PV.d pv_bl))) (pss_nil (m := [])))
    (pss_cons (m := ([] ++ [])) (n := ([8] ++ ([9] ++ ([10] ++ ([11] ++ (([] ++ []) ++ ([12] ++ ((([14] ++ ([15] ++ ([] ++ []))) ++ []) ++ (((([] ++ []) ++ ([] ++ [])) ++ []) ++ []))))))))) (ps_if (m := []) (n := []) (PBw.pb (pw_or (pb_cmp (op_neD bc.hu) od_ne (PV.o (PD.v (pd_call h_followers bc (by omega) rfl (pas_cons (po_var (pv 4)) pas_nil)))) (PV.o (PD.v (pd_callTy call_tuple_of cd_tuple rfl T.b_tuple (by first | rfl | decide +kernel) (pas_cons (PV.o (PD.v (pd_call h__law_follow bc (by omega) rfl (pas_cons (po_var (pv 4)) (pas_cons (PV.o (PD.v (pd_callB call_lenA cd_len rfl T.b_len (by first | rfl | decide +kernel) (pas_cons (po_var (pv 7)) pas_nil)))) (pas_cons (PV.o pv_int) pas_nil)))))) pas_nil)))) (nomark _)) (pw_or1 (pb_cmp (op_neD bc.hu) od_ne (PV.o (PD.v (pd_call h_checked_tree bc (by omega) rfl (pas_cons (PV.o (PD.v (pd_call h__law_lists bc (by omega) rfl (pas_cons (po_var (pv 4)) pas_nil)))) pas_nil)))) (po_var (pv 4)) (nomark _))))) (pss_one (ps_ret (m := []) (PV.d pv_bl))) (pss_nil (m := [])))
    (pss_cons (m := [8]) (n := ([9] ++ ([10] ++ ([11] ++ (([] ++ []) ++ ([12] ++ ((([14] ++ ([15] ++ ([] ++ []))) ++ []) ++ (((([] ++ []) ++ ([] ++ [])) ++ []) ++ [])))))))) (ps_set (i := 8) bc.nd rfl (by first | exact Or.inl rfl | exact Or.inr rfl) (pd_call h__law_source bc (by omega) rfl (pas_cons (po_var (pv 0)) (pas_cons (PV.o pv_int) pas_nil))))
    (pss_cons (m := [9]) (n := ([10] ++ ([11] ++ (([] ++ []) ++ ([12] ++ ((([14] ++ ([15] ++ ([] ++ []))) ++ []) ++ (((([] ++ []) ++ ([] ++ [])) ++ []) ++ []))))))) (ps_set (i := 9) bc.nd rfl (by first | exact Or.inl rfl | exact Or.inr rfl) (pd_call h__law_pick bc (by omega) rfl (pas_cons (po_var (pv 8)) (pas_cons (PV.o (PD.v (pd_callB call_lenA cd_len rfl T.b_len (by first | rfl | decide +kernel) (pas_cons (po_var (pv 7)) pas_nil)))) pas_nil))))
    (pss_cons (m := [10]) (n := ([11] ++ (([] ++ []) ++ ([12] ++ ((([14] ++ ([15] ++ ([] ++ []))) ++ []) ++ (((([] ++ []) ++ ([] ++ [])) ++ []) ++ [])))))) (ps_set (i := 10) bc.nd rfl (by first | exact Or.inl rfl | exact Or.inr rfl) (pd_call h__law_put_at bc (by omega) rfl (pas_cons (po_var (pv 4)) (pas_cons (po_var (pv 9)) (pas_cons (PV.o (PD.v (pd_call h__law_wrong bc (by omega) rfl (pas_cons (po_var (pv 8)) (pas_cons (PV.o (PD.v (pd_ixU bc (po_var (pv 7)) (po_var (pv 9)) (fun _ _ => rfl)))) pas_nil))))) pas_nil)))))
    (pss_cons (m := [11]) (n := (([] ++ []) ++ ([12] ++ ((([14] ++ ([15] ++ ([] ++ []))) ++ []) ++ (((([] ++ []) ++ ([] ++ [])) ++ []) ++ []))))) (ps_set (i := 11) bc.nd rfl (by first | exact Or.inl rfl | exact Or.inr rfl) (pd_call h__law_pick bc (by omega) rfl (pas_cons (po_var (pv 8)) (pas_cons (PV.o pv_int) pas_nil))))
    (pss_cons (m := ([] ++ [])) (n := ([12] ++ ((([14] ++ ([15] ++ ([] ++ []))) ++ []) ++ (((([] ++ []) ++ ([] ++ [])) ++ []) ++ [])))) (ps_if (m := []) (n := []) (PBw.pb (pw_or (pb_cmp (op_neD bc.hu) od_ne (PV.o (PD.v (pd_call h__law_refusal bc (by omega) rfl (pas_cons (po_var (pv 11)) (pas_cons (po_var (pv 10)) pas_nil))))) (po_var (pv 9)) (nomark _)) (pw_or1 (pb_cmp (op_neD bc.hu) od_ne (PV.o (PD.v (pd_call h__law_refusal bc (by omega) rfl (pas_cons (po_var (pv 11)) (pas_cons (PV.o (PD.v (pd_call h__law_lists bc (by omega) rfl (pas_cons (po_var (pv 10)) pas_nil)))) pas_nil))))) (po_var (pv 9)) (nomark _))))) (pss_one (ps_ret (m := []) (PV.d pv_bl))) (pss_nil (m := [])))
    (pss_cons (m := [12]) (n := ((([14] ++ ([15] ++ ([] ++ []))) ++ []) ++ (((([] ++ []) ++ ([] ++ [])) ++ []) ++ []))) (ps_setLcD (i := 12) (own := [("k", 13)]) (ts := [13]) (by decide) bc rfl (by rfl) (by rfl) (pi_rng1 rfl T.b_range (pas_cons (PV.o (PD.v (pd_callB call_lenA cd_len rfl T.b_len (by first | rfl | decide +kernel) (pas_cons (po_var (pv 7)) pas_nil)))) pas_nil)) (blkOk_by (N := ["script", "source", "facts", "names", "tree", "odd", "menu", "parts", "drawer", "spot", "bent", "which", "later", "k", "other", "twice"]) (sc := defScope (top 46)) (by decide +kernel)) (fun s H C cl fp F => (pg_nameD bc.nd (i := 13) rfl (by first | exact Or.inl rfl | exact Or.inr rfl))) (fun s H C cl fp F bc => (pbs_one (pb_cmp op_gtA od_isS (po_var (pv 13)) (PV.o (PD.v (pd_bin op_sub od_sub (PV.o (PD.v (pd_bin op_addA od_add (po_var (pv 9)) (PV.o (PD.v (pd_callB call_lenA cd_len rfl T.b_len (by first | rfl | decide +kernel) (pas_cons (PV.o (PD.v (pd_call h__law_parts bc (by omega) rfl (pas_cons (PV.o (PD.v (pd_ixU bc (po_var (pv 7)) (po_var (pv 9)) (fun _ _ => rfl)))) pas_nil)))) pas_nil))))))) (PV.o pv_int)))) (nomark _)))) (fun s H C cl fp F bc => (pv_nam (pv 13))))
    (pss_cons (m := (([14] ++ ([15] ++ ([] ++ []))) ++ [])) (n := (((([] ++ []) ++ ([] ++ [])) ++ []) ++ [])) (ps_if (m := ([14] ++ ([15] ++ ([] ++ [])))) (n := []) (pb_cmp op_gtA od_isS (PV.o (PD.v (pd_callB call_lenA cd_len rfl T.b_len (by first | rfl | decide +kernel) (pas_cons (po_var (pv 12)) pas_nil)))) (PV.o pv_int) (nomark _)) (pss_cons (m := [14]) (n := ([15] ++ ([] ++ []))) (ps_set (i := 14) bc.nd rfl (by first | exact Or.inl rfl | exact Or.inr rfl) (pd_ixU bc (po_var (pv 12)) (PV.o (PD.v (pd_call h__law_pick bc (by omega) rfl (pas_cons (po_var (pv 8)) (pas_cons (PV.o (PD.v (pd_callB call_lenA cd_len rfl T.b_len (by first | rfl | decide +kernel) (pas_cons (po_var (pv 12)) pas_nil)))) pas_nil))))) (fun _ _ => rfl)))
    (pss_cons (m := [15]) (n := ([] ++ [])) (ps_set (i := 15) bc.nd rfl (by first | exact Or.inl rfl | exact Or.inr rfl) (pd_call h__law_put_at bc (by omega) rfl (pas_cons (PV.o (PD.v (pd_call h__law_put_at bc (by omega) rfl (pas_cons (po_var (pv 4)) (pas_cons (po_var (pv 14)) (pas_cons (PV.o (pv_tup (pvs_cons pv_str pvs_nil))) pas_nil)))))) (pas_cons (po_var (pv 9)) (pas_cons (PV.o (PD.v (pd_call h__law_wrong bc (by omega) rfl (pas_cons (po_var (pv 8)) (pas_cons (PV.o (PD.v (pd_ixU bc (po_var (pv 7)) (po_var (pv 9)) (fun _ _ => rfl)))) pas_nil))))) pas_nil)))))
    (pss_one (ps_if (m := []) (n := []) (pb_cmp (op_neD bc.hu) od_ne (PV.o (PD.v (pd_call h__law_refusal bc (by omega) rfl (pas_cons (po_var (pv 11)) (pas_cons (po_var (pv 15)) pas_nil))))) (po_var (pv 9)) (nomark _)) (pss_one (ps_ret (m := []) (PV.d pv_bl))) (pss_nil (m := [])))))) (pss_nil (m := [])))
    (pss_cons (m := ((([] ++ []) ++ ([] ++ [])) ++ [])) (n := []) (ps_if (m := (([] ++ []) ++ ([] ++ []))) (n := []) (pb_cmp (op_eqD bc.hu) od_eq (PV.o (PD.v (pd_call h__law_pick bc (by omega) rfl (pas_cons (po_var (pv 8)) (pas_cons (PV.o pv_int) pas_nil))))) (PV.o pv_int) (nomark _)) (pss_cons (m := ([] ++ [])) (n := ([] ++ [])) (ps_if (m := []) (n := []) (pb_cmp (op_neD bc.hu) od_ne (PV.o (PD.v (pd_call h__law_refusal bc (by omega) rfl (pas_cons (po_var (pv 11)) (pas_cons (PV.o (pv_tup (pvs_cons pv_str (pvs_cons (pv_tup (pvs_cons pv_str (pvs_cons (PD.v (pd_call h__law_broad bc (by omega) rfl (pas_cons (PV.o pv_int) pas_nil))) pvs_nil))) pvs_nil)))) pas_nil))))) (PV.o pv_int) (nomark _)) (pss_one (ps_ret (m := []) (PV.d pv_bl))) (pss_nil (m := [])))
    (pss_one (ps_if (m := []) (n := []) (PBw.pb (pw_or (pb_cmp (op_neD bc.hu) od_ne (PV.o (PD.v (pd_call h__law_refusal bc (by omega) rfl (pas_cons (po_var (pv 11)) (pas_cons (PV.o (PD.v (pd_call h__law_tower bc (by omega) rfl (pas_cons (PV.o pv_int) (pas_cons (PV.o pv_str) pas_nil))))) pas_nil))))) (PV.o pv_int) (nomark _)) (pw_or1 (pb_cmp (op_neD bc.hu) od_ne (PV.o (PD.v (pd_call h__law_refusal bc (by omega) rfl (pas_cons (po_var (pv 11)) (pas_cons (PV.o (PD.v (pd_call h__law_broad bc (by omega) rfl (pas_cons (PV.o pv_int) pas_nil)))) pas_nil))))) (PV.o pv_int) (nomark _))))) (pss_one (ps_ret (m := []) (PV.d pv_bl))) (pss_nil (m := []))))) (pss_nil (m := [])))
    (pss_one (ps_ret (m := []) (pd_cmp op_isC od_is (PV.o (PD.v (pd_call h__law_refusal bc (by omega) rfl (pas_cons (po_var (pv 11)) (pas_cons (po_var (pv 4)) pas_nil))))) (PV.o pv_non) (nomark _)))))))))))))))))))))
end G07
end G07_text

section M07a_text
set_option maxHeartbeats 4000000
namespace G07
open PySem Pd
theorem pick_pos (a b c n : Int) (ha : 0 < a) (hn : 0 < n) (hn2 : n.natAbs.log2 < 4000) :
    m__law_pick [.own false (.lst [.int a, .int b, .int c]), .dat (.int n)] = .ret (.dat (.int (a % n))) [.own false (.lst [.int (a / n), .int b, .int c]), .dat (.int n)] := by
  simp [m__law_pick, g__law_pick, runBody, fIxU, fIx, fIxDk, L2.atI, L2.ixN, ha, fMod_ok hn, fDiv_ok hn hn2, isOwn, isOwnL, Option.or]
theorem emod_rng (x p : Int) (hp : 0 < p) : ∃ m, x % p = m ∧ 0 ≤ m ∧ m < p := ⟨_, rfl, Int.emod_nonneg _ (by omega), Int.emod_lt_of_pos _ hp⟩
theorem pick_zero (b c n : Int) (hb : 0 ≤ b) (hb2 : b < 2 ^ 31) (hc : 0 ≤ c) (hc2 : c < 2 ^ 60) (hn : 0 < n) (hn2 : n.natAbs.log2 < 4000) :
    ∃ d, m__law_pick [.own false (.lst [.int 0, .int b, .int c]), .dat (.int n)] = .ret (.dat (.int d)) [.own false (.lst [.int 0, .int b, .int (c + 1)]), .dat (.int n)] ∧ 0 ≤ d ∧ d < n := by
  have e1 : fMul (.int 7919) (.int (c + 1)) = some (.dat (.int (7919 * (c + 1)))) := fMul_sm (by omega) (by omega)
  have e2 : fMul (.int (b + 7919 * (c + 1))) (.int 48271) = some (.dat (.int ((b + 7919 * (c + 1)) * 48271))) := fMul_sm (by omega) (by omega)
  obtain ⟨m1, h1, l1, u1⟩ := emod_rng ((b + 7919 * (c + 1)) * 48271) 2147483647 (by omega)
  have e3 : fMul (.int m1) (.int m1) = some (.dat (.int (m1 * m1))) := fMul_sm (by omega) (by omega)
  have e4 : fMul (.int 69621) (.int (c + 1)) = some (.dat (.int (69621 * (c + 1)))) := fMul_sm (by omega) (by omega)
  obtain ⟨m2, h2, l2, u2⟩ := emod_rng (m1 * m1 + 69621 * (c + 1) + b) 2147483629 (by omega)
  have e5 : fMul (.int m2) (.int 16807) = some (.dat (.int (m2 * 16807))) := fMul_sm (by omega) (by omega)
  obtain ⟨m3, h3, l3, u3⟩ := emod_rng (m2 * 16807 + 11) 2147483647 (by omega)
  have e6 : fMul (.int m3) (.int m3) = some (.dat (.int (m3 * m3))) := fMul_sm (by omega) (by omega)
  obtain ⟨m4, h4, l4, u4⟩ := emod_rng (m3 * m3 + m3) 2147483587 (by omega)
  have q1 : fMod (.int ((b + 7919 * (c + 1)) * 48271)) (.int 2147483647) = some (.dat (.int m1)) := by rw [fMod_ok (by omega), h1]
  have q2 : fMod (.int (m1 * m1 + 69621 * (c + 1) + b)) (.int 2147483629) = some (.dat (.int m2)) := by rw [fMod_ok (by omega), h2]
  have q3 : fMod (.int (m2 * 16807 + 11)) (.int 2147483647) = some (.dat (.int m3)) := by rw [fMod_ok (by omega), h3]
  have q4 : fMod (.int (m3 * m3 + m3)) (.int 2147483587) = some (.dat (.int m4)) := by rw [fMod_ok (by omega), h4]
  have q5 : fDiv (.int m4) (.int 3) = some (.dat (.int (m4 / 3))) := fDiv_ok (by omega) (by decide)
  have q6 : fMod (.int (m4 / 3)) (.int n) = some (.dat (.int (m4 / 3 % n))) := fMod_ok hn
  refine ⟨m4 / 3 % n, ?_, Int.emod_nonneg _ (by omega), Int.emod_lt_of_pos _ hn⟩
  simp [m__law_pick, g__law_pick, runBody, fIxU, fIx, fIxDk, L2.atI, L2.ixN, isOwn, isOwnL, Option.or, e1, e2, e3, e4, e5, e6, q1, q2, q3, q4, q5, q6]
/-- where the law's numbers come from: the three whole numbers of a source -/
structure Src (k : Nat) (a b c : Int) : Prop where
  a0 : 0 ≤ a
  b0 : 0 ≤ b
  b1 : b < 2 ^ 31
  c0 : 0 ≤ c
  c1 : c ≤ k
abbrev srcC (a b c : Int) : Cn := .lst [.int a, .int b, .int c]
theorem pick_ok {k : Nat} {a b c n : Int} (S : Src k a b c) (hk : k < 2 ^ 60) (hn : 0 < n) (hn2 : n.natAbs.log2 < 4000) :
    ∃ d a' c', m__law_pick [.own false (srcC a b c), .dat (.int n)] = .ret (.dat (.int d)) [.own false (srcC a' b c'), .dat (.int n)] ∧ 0 ≤ d ∧ d < n ∧ Src (k + 1) a' b c' := by
  by_cases ha : 0 < a
  · exact ⟨_, _, _, pick_pos a b c n ha hn hn2, Int.emod_nonneg _ (by omega), Int.emod_lt_of_pos _ hn, ⟨Int.ediv_nonneg S.a0 (by omega), S.b0, S.b1, S.c0, by have := S.c1; omega⟩⟩
  · have ea : a = 0 := by have := S.a0; omega
    subst ea
    obtain ⟨d, e, h1, h2⟩ := pick_zero b c n S.b0 S.b1 S.c0 (by have := S.c1; omega) hn hn2
    exact ⟨d, _, _, e, h1, h2, ⟨S.a0, S.b0, S.b1, by have := S.c0; omega, by have := S.c1; omega⟩⟩
end G07
end M07a_text

section M07b_text
set_option maxHeartbeats 1000000
namespace G07
open PySem Pd
/-- a tuple, or the list in its place -/
def mk (l : Bool) (xs : List D) : D := match l with
  | true => .lst xs
  | false => .tup xs
@[simp] theorem listed_mk (l : Bool) (xs : List D) : m_is_listed [.dat (mk l xs)] = .ret (.dat (.bl true)) [.dat (mk l xs)] := by cases l <;> rfl
@[simp] theorem len_mk (l : Bool) (xs : List D) : fLen [mk l xs] = some (.dat (.int xs.length)) := by cases l <;> rfl
@[simp] theorem ix_mk (l : Bool) (xs : List D) (i : Int) : fIxU (mk l xs) (.int i) = match L2.atI xs i with
    | some d => some (.dat d)
    | none => none := by
  cases l <;> (simp only [mk, fIxU, fIx, fIxDk]; cases L2.atI xs i <;> rfl)
@[simp] theorem eq_int (neg : Bool) (i j : Int) : fEq neg (.int i) (.int j) = some (.dat (.bl (if neg then !(i == j) else i == j))) := by
  have h : ∀ k : Int, SeqAt.shaped (.int k) = true := fun k => by kernel_rfl
  show (if SeqAt.shaped (.int i) && SeqAt.shaped (.int j) then some (SV.dat (D.bl (if neg then !PyData.eqv (.int i) (.int j) else PyData.eqv (.int i) (.int j)))) else none) = _
  rw [h, h]
  rfl
abbrev tabStr : List (String × Bool) := [("NoneType", false), ("bool", false), ("int", false), ("str", true), ("tuple", false), ("list", false), ("dict", false)]
@[simp] theorem isi_str (x : Str) : fIsi [("NoneType", false), ("bool", false), ("int", false), ("str", true), ("tuple", false), ("list", false), ("dict", false)] (.str x) = some (.dat (.bl true)) := rfl
@[simp] theorem at_zero (x : D) (xs : List D) : L2.atI (x :: xs) 0 = some x := by
  unfold L2.atI L2.ixN
  simp
@[simp] theorem listed_tup (xs : List D) : m_is_listed [.dat (.tup xs)] = .ret (.dat (.bl true)) [.dat (.tup xs)] := rfl
@[simp] theorem listed_lst (xs : List D) : m_is_listed [.dat (.lst xs)] = .ret (.dat (.bl true)) [.dat (.lst xs)] := rfl
@[simp] theorem len_tup (xs : List D) : fLen [.tup xs] = some (.dat (.int xs.length)) := rfl
@[simp] theorem len_lst (xs : List D) : fLen [.lst xs] = some (.dat (.int xs.length)) := rfl
@[simp] theorem ix_tup (xs : List D) (i : Int) : fIxU (.tup xs) (.int i) = match L2.atI xs i with
    | some d => some (.dat d)
    | none => none := ix_mk false xs i
@[simp] theorem ix_lst (xs : List D) (i : Int) : fIxU (.lst xs) (.int i) = match L2.atI xs i with
    | some d => some (.dat d)
    | none => none := ix_mk true xs i
@[simp] theorem at_one (x y : D) (xs : List D) : L2.atI (x :: y :: xs) 1 = some y := by
  have h : (1 : Int) < (xs.length : Int) + 1 + 1 := by omega
  unfold L2.atI L2.ixN
  simp [h]
@[simp] theorem at_two (x y z : D) (xs : List D) : L2.atI (x :: y :: z :: xs) 2 = some z := by
  have h : (2 : Int) < (xs.length : Int) + 1 + 1 + 1 := by omega
  unfold L2.atI L2.ixN
  simp [h]
@[simp] theorem is_non_tup (neg : Bool) (xs : List D) : fIs neg (.tup xs) .non = some (.dat (.bl neg)) := by cases neg <;> rfl
@[simp] theorem is_non_lst (neg : Bool) (xs : List D) : fIs neg (.lst xs) .non = some (.dat (.bl neg)) := by cases neg <;> rfl
@[simp] theorem is_non_int (neg : Bool) (i : Int) : fIs neg (.int i) .non = some (.dat (.bl neg)) := by cases neg <;> rfl
@[simp] theorem is_non_non (neg : Bool) : fIs neg .non .non = some (.dat (.bl (!neg))) := by cases neg <;> rfl
@[simp] theorem tuple_lst (xs : List D) : fTuple [.lst xs] = some (.dat (.tup xs)) := rfl
inductive Say where
  | yes | no | fact (x : Str) | neg (s : Say) | and (a b : Say) | or (a b : Say)
def Say.toD (l : Bool) : Say → D
  | .yes => mk l [.str "yes"]
  | .no => mk l [.str "no"]
  | .fact x => mk l [.str "fact", .str x]
  | .neg s => mk l [.str "not", s.toD l]
  | .and a b => mk l [.str "and", a.toD l, b.toD l]
  | .or a b => mk l [.str "or", a.toD l, b.toD l]
def Say.size : Say → Nat
  | .neg s => s.size + 1
  | .and a b => a.size + b.size + 1
  | .or a b => a.size + b.size + 1
  | _ => 1
def Say.height : Say → Nat
  | .neg s => s.height + 1
  | .and a b => max a.height b.height + 1
  | .or a b => max a.height b.height + 1
  | _ => 0
def NameOk (x : Str) : Prop := m_is_name [.dat (.str x)] = .ret (.dat (.bl true)) [.dat (.str x)] ∧ PyData.strOk x = true
def Say.ok : Say → Prop
  | .fact x => NameOk x
  | .neg s => s.ok
  | .and a b => a.ok ∧ b.ok
  | .or a b => a.ok ∧ b.ok
  | _ => True
@[simp] theorem fits0 : Fits 0 := by decide +kernel
@[simp] theorem fits1 : Fits 1 := by decide +kernel
@[simp] theorem fits2 : Fits 2 := by decide +kernel
@[simp] theorem fits3 : Fits 3 := by decide +kernel
@[simp] theorem fits4 : Fits 4 := by decide +kernel
@[simp] theorem fits5 : Fits 5 := by decide +kernel
@[simp] theorem fits6 : Fits 6 := by decide +kernel
@[simp] theorem fits7 : Fits 7 := by decide +kernel
@[simp] theorem fits8 : Fits 8 := by decide +kernel
@[simp] theorem fits9 : Fits 9 := by decide +kernel
@[simp] theorem fits10 : Fits 10 := by decide +kernel
@[simp] theorem fits11 : Fits 11 := by decide +kernel
@[simp] theorem fits12 : Fits 12 := by decide +kernel
@[simp] theorem fits13 : Fits 13 := by decide +kernel
@[simp] theorem fits14 : Fits 14 := by decide +kernel
@[simp] theorem fits15 : Fits 15 := by decide +kernel
@[simp] theorem fits16 : Fits 16 := by decide +kernel
@[simp] theorem fits17 : Fits 17 := by decide +kernel
@[simp] theorem fits18 : Fits 18 := by decide +kernel
@[simp] theorem fits19 : Fits 19 := by decide +kernel
@[simp] theorem fits20 : Fits 20 := by decide +kernel
@[simp] theorem fits21 : Fits 21 := by decide +kernel
@[simp] theorem fits22 : Fits 22 := by decide +kernel
@[simp] theorem fits23 : Fits 23 := by decide +kernel
@[simp] theorem fits24 : Fits 24 := by decide +kernel
@[simp] theorem fits25 : Fits 25 := by decide +kernel
@[simp] theorem fits26 : Fits 26 := by decide +kernel
@[simp] theorem fits27 : Fits 27 := by decide +kernel
@[simp] theorem fits28 : Fits 28 := by decide +kernel
@[simp] theorem fits29 : Fits 29 := by decide +kernel
@[simp] theorem fits30 : Fits 30 := by decide +kernel
@[simp] theorem fits31 : Fits 31 := by decide +kernel
@[simp] theorem fits32 : Fits 32 := by decide +kernel
abbrev ToldOk (l : Bool) (s : Say) : Prop := ∀ (n : Nat) (d r : Int), s.ok → s.height < n → d + s.height ≤ 20 → (s.size : Int) ≤ r →
  m_told_saying n [.dat (s.toD l), .dat (.int d), .dat (.int r)] = .ret (.dat (.tup [s.toD false, .int (r - s.size)])) [.dat (s.toD l), .dat (.int d), .dat (.int r)]
theorem told_yes (l : Bool) : ToldOk l .yes := by
  intro n d r ok hn hd hr
  obtain _ | n := n
  · exact absurd hn (by simp)
  have h1 : fInK "ARMS_sayings" (tabT tab_ARMS_sayings) true (.str "yes") (.fn "ARMS_sayings") = some (.dat (.bl false)) := by kernel_rfl
  have h2 : fIxK "ARMS_sayings" (tabT tab_ARMS_sayings) (.fn "ARMS_sayings") (.str "yes") = some (.dat (.int 0)) := by kernel_rfl
  have h3 : fEq false (.str "yes") (.str "fact") = some (.dat (.bl false)) := by kernel_rfl
  simp only [Say.height, Say.size] at hd hr
  have h4 : ¬ (20 < d) := by omega
  have h5 : (r == 0) = false := by simp; omega
  have h6 : fSl (.lst [.str "yes"]) (some 1) none = some (.own true (.lst [])) := by kernel_rfl
  have h7 : fSl (.tup [.str "yes"]) (some 1) none = some (.dat (.tup [])) := by kernel_rfl
  cases l <;>
  simp [m_told_saying, g_told_saying, runBody, isOwn, isOwnL, Say.toD, h1, h2, h3, h4, h5, h6, h7, ev_for_cons, c_DEEPEST_sayings, mk, D.items, Say.size]
theorem told_no (l : Bool) : ToldOk l .no := by
  intro n d r ok hn hd hr
  obtain _ | n := n
  · exact absurd hn (by simp)
  have h1 : fInK "ARMS_sayings" (tabT tab_ARMS_sayings) true (.str "no") (.fn "ARMS_sayings") = some (.dat (.bl false)) := by kernel_rfl
  have h2 : fIxK "ARMS_sayings" (tabT tab_ARMS_sayings) (.fn "ARMS_sayings") (.str "no") = some (.dat (.int 0)) := by kernel_rfl
  have h3 : fEq false (.str "no") (.str "fact") = some (.dat (.bl false)) := by kernel_rfl
  simp only [Say.height, Say.size] at hd hr
  have h4 : ¬ (20 < d) := by omega
  have h5 : (r == 0) = false := by simp; omega
  have h6 : fSl (.lst [.str "no"]) (some 1) none = some (.own true (.lst [])) := by kernel_rfl
  have h7 : fSl (.tup [.str "no"]) (some 1) none = some (.dat (.tup [])) := by kernel_rfl
  cases l <;>
  simp [m_told_saying, g_told_saying, runBody, isOwn, isOwnL, Say.toD, h1, h2, h3, h4, h5, h6, h7, ev_for_cons, c_DEEPEST_sayings, mk, D.items, Say.size]
theorem told_not (l : Bool) (a : Say) (IH : ToldOk l a) : ToldOk l (.neg a) := by
  intro n d r ok hn hd hr
  obtain _ | n := n
  · exact absurd hn (by simp)
  have h1 : fInK "ARMS_sayings" (tabT tab_ARMS_sayings) true (.str "not") (.fn "ARMS_sayings") = some (.dat (.bl false)) := by kernel_rfl
  have h2 : fIxK "ARMS_sayings" (tabT tab_ARMS_sayings) (.fn "ARMS_sayings") (.str "not") = some (.dat (.int 1)) := by kernel_rfl
  have h3 : fEq false (.str "not") (.str "fact") = some (.dat (.bl false)) := by kernel_rfl
  simp only [Say.height, Say.size] at hd hr hn
  have h4 : ¬ (20 < d) := by omega
  have h5 : (r == 0) = false := by simp; omega
  have h6 : fSl (.lst [.str "not", a.toD l]) (some 1) none = some (.own true (.lst [a.toD l])) := by rfl
  have h7 : fSl (.tup [.str "not", a.toD l]) (some 1) none = some (.dat (.tup [a.toD l])) := by rfl
  have I := IH n (d + 1) (r - 1) ok (by omega) (by omega) (by omega)
  have e : r - 1 - (a.size : Int) = r - (a.size + 1) := by omega
  cases l <;>
  simp [m_told_saying, g_told_saying, runBody, isOwn, isOwnL, Say.toD, h1, h2, h3, h4, h5, h6, h7, ev_for_cons, c_DEEPEST_sayings, mk, D.items, Say.size, I, e]
theorem told_and (l : Bool) (a b : Say) (IH : ToldOk l a) (IH2 : ToldOk l b) : ToldOk l (.and a b) := by
  intro n d r ok hn hd hr
  obtain _ | n := n
  · exact absurd hn (by simp)
  have h1 : fInK "ARMS_sayings" (tabT tab_ARMS_sayings) true (.str "and") (.fn "ARMS_sayings") = some (.dat (.bl false)) := by kernel_rfl
  have h2 : fIxK "ARMS_sayings" (tabT tab_ARMS_sayings) (.fn "ARMS_sayings") (.str "and") = some (.dat (.int 2)) := by kernel_rfl
  have h3 : fEq false (.str "and") (.str "fact") = some (.dat (.bl false)) := by kernel_rfl
  simp only [Say.height, Say.size] at hd hr hn
  have h4 : ¬ (20 < d) := by omega
  have h5 : (r == 0) = false := by simp; omega
  have h6 : fSl (.lst [.str "and", a.toD l, b.toD l]) (some 1) none = some (.own true (.lst [a.toD l, b.toD l])) := by rfl
  have h7 : fSl (.tup [.str "and", a.toD l, b.toD l]) (some 1) none = some (.dat (.tup [a.toD l, b.toD l])) := by rfl
  have I := IH n (d + 1) (r - 1) ok.1 (by omega) (by omega) (by omega)
  have I2 := IH2 n (d + 1) (r - 1 - a.size) ok.2 (by omega) (by omega) (by omega)
  have e : r - 1 - (a.size : Int) - (b.size : Int) = r - (a.size + b.size + 1) := by omega
  cases l <;>
  simp [m_told_saying, g_told_saying, runBody, isOwn, isOwnL, Say.toD, h1, h2, h3, h4, h5, h6, h7, ev_for_cons, c_DEEPEST_sayings, mk, D.items, Say.size, I, I2, e]
theorem told_or (l : Bool) (a b : Say) (IH : ToldOk l a) (IH2 : ToldOk l b) : ToldOk l (.or a b) := by
  intro n d r ok hn hd hr
  obtain _ | n := n
  · exact absurd hn (by simp)
  have h1 : fInK "ARMS_sayings" (tabT tab_ARMS_sayings) true (.str "or") (.fn "ARMS_sayings") = some (.dat (.bl false)) := by kernel_rfl
  have h2 : fIxK "ARMS_sayings" (tabT tab_ARMS_sayings) (.fn "ARMS_sayings") (.str "or") = some (.dat (.int 2)) := by kernel_rfl
  have h3 : fEq false (.str "or") (.str "fact") = some (.dat (.bl false)) := by kernel_rfl
  simp only [Say.height, Say.size] at hd hr hn
  have h4 : ¬ (20 < d) := by omega
  have h5 : (r == 0) = false := by simp; omega
  have h6 : fSl (.lst [.str "or", a.toD l, b.toD l]) (some 1) none = some (.own true (.lst [a.toD l, b.toD l])) := by rfl
  have h7 : fSl (.tup [.str "or", a.toD l, b.toD l]) (some 1) none = some (.dat (.tup [a.toD l, b.toD l])) := by rfl
  have I := IH n (d + 1) (r - 1) ok.1 (by omega) (by omega) (by omega)
  have I2 := IH2 n (d + 1) (r - 1 - a.size) ok.2 (by omega) (by omega) (by omega)
  have e : r - 1 - (a.size : Int) - (b.size : Int) = r - (a.size + b.size + 1) := by omega
  cases l <;>
  simp [m_told_saying, g_told_saying, runBody, isOwn, isOwnL, Say.toD, h1, h2, h3, h4, h5, h6, h7, ev_for_cons, c_DEEPEST_sayings, mk, D.items, Say.size, I, I2, e]
theorem told_fact (l : Bool) (x : Str) : ToldOk l (.fact x) := by
  intro n d r ok hn hd hr
  obtain _ | n := n
  · exact absurd hn (by simp)
  have h1 : fInK "ARMS_sayings" (tabT tab_ARMS_sayings) true (.str "fact") (.fn "ARMS_sayings") = some (.dat (.bl false)) := by kernel_rfl
  have h2 : fIxK "ARMS_sayings" (tabT tab_ARMS_sayings) (.fn "ARMS_sayings") (.str "fact") = some (.dat (.int 1)) := by kernel_rfl
  have h3 : fEq false (.str "fact") (.str "fact") = some (.dat (.bl true)) := by kernel_rfl
  simp only [Say.height, Say.size] at hd hr hn
  have h4 : ¬ (20 < d) := by omega
  have h5 : (r == 0) = false := by simp; omega
  have k : m_is_name [.dat (.str x)] = .ret (.dat (.bl true)) [.dat (.str x)] := ok.1
  cases l <;>
  simp [m_told_saying, g_told_saying, runBody, isOwn, isOwnL, Say.toD, h1, h2, h3, h4, h5, ev_for_cons, c_DEEPEST_sayings, mk, D.items, Say.size, k, D.truth]
theorem told_ok (l : Bool) : ∀ s : Say, ToldOk l s
  | .yes => told_yes l
  | .no => told_no l
  | .fact x => told_fact l x
  | .neg a => told_not l a (told_ok l a)
  | .and a b => told_and l a b (told_ok l a) (told_ok l b)
  | .or a b => told_or l a b (told_ok l a) (told_ok l b)
/-- a good saying is told as it is -/
theorem say_or_none (l : Bool) (s : Say) (ok : s.ok) (hh : s.height ≤ 20) (hs : s.size ≤ 60) :
    m_saying_or_none [.dat (s.toD l)] = .ret (.dat (s.toD false)) [.dat (s.toD l)] := by
  have h := told_ok l s 32 0 60 ok (by omega) (by omega) (by omega)
  simp [m_saying_or_none, g_saying_or_none, runBody, isOwn, isOwnL, c_MOST_TUPLES, h]
end G07
end M07b_text

section M07c_text
set_option maxHeartbeats 1000000
namespace G07
open PySem Pd
inductive H0 where
  | pass | lose | win | deed (x : Str) | need (s : Say) | grant (s : Say)
inductive H1 where
  | more | each | while (s : Say)
inductive H2 where
  | then | own | other | if (s : Say)
def H0.ds (l : Bool) : H0 → List D
  | .pass => [.str "pass"]
  | .lose => [.str "lose"]
  | .win => [.str "win"]
  | .deed x => [.str "deed", .str x]
  | .need s => [.str "need", s.toD l]
  | .grant s => [.str "grant", s.toD l]
def H1.ds (l : Bool) : H1 → List D
  | .more => [.str "more"]
  | .each => [.str "each"]
  | .while s => [.str "while", s.toD l]
def H2.ds (l : Bool) : H2 → List D
  | .then => [.str "then"]
  | .own => [.str "own"]
  | .other => [.str "other"]
  | .if s => [.str "if", s.toD l]
def SayOk (s : Say) : Prop := s.ok ∧ s.height ≤ 3 ∧ s.size ≤ 60
def H0.ok : H0 → Prop
  | .deed x => NameOk x
  | .need s => SayOk s
  | .grant s => SayOk s
  | _ => True
def H1.ok : H1 → Prop
  | .while s => SayOk s
  | _ => True
def H2.ok : H2 → Prop
  | .if s => SayOk s
  | _ => True
theorem head_pass (l : Bool) : m_head_of [.dat (mk l (H0.pass.ds l))] = .ret (.dat (.tup (H0.pass.ds false))) [.dat (mk l (H0.pass.ds l))] := by
  have h1 : fInK "ARMS_trees" (tabT tab_ARMS_trees) true (.str "pass") (.fn "ARMS_trees") = some (.dat (.bl false)) := by kernel_rfl
  have h2 : fIxK "ARMS_trees" (tabT tab_ARMS_trees) (.fn "ARMS_trees") (.str "pass") = some (.dat (.str "")) := by kernel_rfl
  have h3 : fLen [.str ""] = some (.dat (.int 0)) := by kernel_rfl
  have h4 : fEq false (.str "") (.str "n") = some (.dat (.bl false)) := by kernel_rfl
  have h5 : fSl (.str "") none (some 1) = some (.dat (.str "")) := by kernel_rfl
  have h6 : fEq true (.str "") (.str "s") = some (.dat (.bl true)) := by kernel_rfl
  cases l <;>
  simp [m_head_of, g_head_of, runBody, isOwn, isOwnL, H0.ds, h1, h2, h3, h4, h5, h6, mk]
theorem head_lose (l : Bool) : m_head_of [.dat (mk l (H0.lose.ds l))] = .ret (.dat (.tup (H0.lose.ds false))) [.dat (mk l (H0.lose.ds l))] := by
  have h1 : fInK "ARMS_trees" (tabT tab_ARMS_trees) true (.str "lose") (.fn "ARMS_trees") = some (.dat (.bl false)) := by kernel_rfl
  have h2 : fIxK "ARMS_trees" (tabT tab_ARMS_trees) (.fn "ARMS_trees") (.str "lose") = some (.dat (.str "")) := by kernel_rfl
  have h3 : fLen [.str ""] = some (.dat (.int 0)) := by kernel_rfl
  have h4 : fEq false (.str "") (.str "n") = some (.dat (.bl false)) := by kernel_rfl
  have h5 : fSl (.str "") none (some 1) = some (.dat (.str "")) := by kernel_rfl
  have h6 : fEq true (.str "") (.str "s") = some (.dat (.bl true)) := by kernel_rfl
  cases l <;>
  simp [m_head_of, g_head_of, runBody, isOwn, isOwnL, H0.ds, h1, h2, h3, h4, h5, h6, mk]
theorem head_win (l : Bool) : m_head_of [.dat (mk l (H0.win.ds l))] = .ret (.dat (.tup (H0.win.ds false))) [.dat (mk l (H0.win.ds l))] := by
  have h1 : fInK "ARMS_trees" (tabT tab_ARMS_trees) true (.str "win") (.fn "ARMS_trees") = some (.dat (.bl false)) := by kernel_rfl
  have h2 : fIxK "ARMS_trees" (tabT tab_ARMS_trees) (.fn "ARMS_trees") (.str "win") = some (.dat (.str "")) := by kernel_rfl
  have h3 : fLen [.str ""] = some (.dat (.int 0)) := by kernel_rfl
  have h4 : fEq false (.str "") (.str "n") = some (.dat (.bl false)) := by kernel_rfl
  have h5 : fSl (.str "") none (some 1) = some (.dat (.str "")) := by kernel_rfl
  have h6 : fEq true (.str "") (.str "s") = some (.dat (.bl true)) := by kernel_rfl
  cases l <;>
  simp [m_head_of, g_head_of, runBody, isOwn, isOwnL, H0.ds, h1, h2, h3, h4, h5, h6, mk]
theorem head_deed (l : Bool) (x : Str) (ok : (H0.deed x).ok) : m_head_of [.dat (mk l ((H0.deed x).ds l))] = .ret (.dat (.tup ((H0.deed x).ds false))) [.dat (mk l ((H0.deed x).ds l))] := by
  have h1 : fInK "ARMS_trees" (tabT tab_ARMS_trees) true (.str "deed") (.fn "ARMS_trees") = some (.dat (.bl false)) := by kernel_rfl
  have h2 : fIxK "ARMS_trees" (tabT tab_ARMS_trees) (.fn "ARMS_trees") (.str "deed") = some (.dat (.str "n")) := by kernel_rfl
  have h3 : fLen [.str "n"] = some (.dat (.int 1)) := by kernel_rfl
  have h4 : fEq false (.str "n") (.str "n") = some (.dat (.bl true)) := by kernel_rfl
  have h5 : fSl (.str "n") none (some 1) = some (.dat (.str "n")) := by kernel_rfl
  have h6 : fEq true (.str "n") (.str "s") = some (.dat (.bl true)) := by kernel_rfl
  have k : m_is_name [.dat (.str x)] = .ret (.dat (.bl true)) [.dat (.str x)] := ok.1
  cases l <;>
  simp [m_head_of, g_head_of, runBody, isOwn, isOwnL, H0.ds, h1, h2, h3, h4, h5, h6, mk, k, D.truth]
theorem head_need (l : Bool) (s : Say) (ok : (H0.need s).ok) : m_head_of [.dat (mk l ((H0.need s).ds l))] = .ret (.dat (.tup ((H0.need s).ds false))) [.dat (mk l ((H0.need s).ds l))] := by
  have h1 : fInK "ARMS_trees" (tabT tab_ARMS_trees) true (.str "need") (.fn "ARMS_trees") = some (.dat (.bl false)) := by kernel_rfl
  have h2 : fIxK "ARMS_trees" (tabT tab_ARMS_trees) (.fn "ARMS_trees") (.str "need") = some (.dat (.str "s")) := by kernel_rfl
  have h3 : fLen [.str "s"] = some (.dat (.int 1)) := by kernel_rfl
  have h4 : fEq false (.str "s") (.str "n") = some (.dat (.bl false)) := by kernel_rfl
  have h5 : fSl (.str "s") none (some 1) = some (.dat (.str "s")) := by kernel_rfl
  have h6 : fEq true (.str "s") (.str "s") = some (.dat (.bl false)) := by kernel_rfl
  have k := say_or_none l s ok.1 (Nat.le_trans ok.2.1 (by decide)) ok.2.2
  have k2 : fIs false (s.toD false) .non = some (.dat (.bl false)) := by cases s <;> rfl
  cases l <;>
  simp [m_head_of, g_head_of, runBody, isOwn, isOwnL, H0.ds, h1, h2, h3, h4, h5, h6, mk, k, k2]
theorem head_grant (l : Bool) (s : Say) (ok : (H0.grant s).ok) : m_head_of [.dat (mk l ((H0.grant s).ds l))] = .ret (.dat (.tup ((H0.grant s).ds false))) [.dat (mk l ((H0.grant s).ds l))] := by
  have h1 : fInK "ARMS_trees" (tabT tab_ARMS_trees) true (.str "grant") (.fn "ARMS_trees") = some (.dat (.bl false)) := by kernel_rfl
  have h2 : fIxK "ARMS_trees" (tabT tab_ARMS_trees) (.fn "ARMS_trees") (.str "grant") = some (.dat (.str "s")) := by kernel_rfl
  have h3 : fLen [.str "s"] = some (.dat (.int 1)) := by kernel_rfl
  have h4 : fEq false (.str "s") (.str "n") = some (.dat (.bl false)) := by kernel_rfl
  have h5 : fSl (.str "s") none (some 1) = some (.dat (.str "s")) := by kernel_rfl
  have h6 : fEq true (.str "s") (.str "s") = some (.dat (.bl false)) := by kernel_rfl
  have k := say_or_none l s ok.1 (Nat.le_trans ok.2.1 (by decide)) ok.2.2
  have k2 : fIs false (s.toD false) .non = some (.dat (.bl false)) := by cases s <;> rfl
  cases l <;>
  simp [m_head_of, g_head_of, runBody, isOwn, isOwnL, H0.ds, h1, h2, h3, h4, h5, h6, mk, k, k2]
theorem head_then (l : Bool) (a : D) (b : D) : m_head_of [.dat (mk l ((H2.then).ds l ++ [a, b]))] = .ret (.dat (.tup (H2.then.ds false))) [.dat (mk l ((H2.then).ds l ++ [a, b]))] := by
  have h1 : fInK "ARMS_trees" (tabT tab_ARMS_trees) true (.str "then") (.fn "ARMS_trees") = some (.dat (.bl false)) := by kernel_rfl
  have h2 : fIxK "ARMS_trees" (tabT tab_ARMS_trees) (.fn "ARMS_trees") (.str "then") = some (.dat (.str "pp")) := by kernel_rfl
  have h3 : fLen [.str "pp"] = some (.dat (.int 2)) := by kernel_rfl
  have h4 : fEq false (.str "pp") (.str "n") = some (.dat (.bl false)) := by kernel_rfl
  have h5 : fSl (.str "pp") none (some 1) = some (.dat (.str "p")) := by kernel_rfl
  have h6 : fEq true (.str "p") (.str "s") = some (.dat (.bl true)) := by kernel_rfl
  cases l <;>
  simp [m_head_of, g_head_of, runBody, isOwn, isOwnL, H2.ds, h1, h2, h3, h4, h5, h6, mk]
theorem head_own (l : Bool) (a : D) (b : D) : m_head_of [.dat (mk l ((H2.own).ds l ++ [a, b]))] = .ret (.dat (.tup (H2.own.ds false))) [.dat (mk l ((H2.own).ds l ++ [a, b]))] := by
  have h1 : fInK "ARMS_trees" (tabT tab_ARMS_trees) true (.str "own") (.fn "ARMS_trees") = some (.dat (.bl false)) := by kernel_rfl
  have h2 : fIxK "ARMS_trees" (tabT tab_ARMS_trees) (.fn "ARMS_trees") (.str "own") = some (.dat (.str "pp")) := by kernel_rfl
  have h3 : fLen [.str "pp"] = some (.dat (.int 2)) := by kernel_rfl
  have h4 : fEq false (.str "pp") (.str "n") = some (.dat (.bl false)) := by kernel_rfl
  have h5 : fSl (.str "pp") none (some 1) = some (.dat (.str "p")) := by kernel_rfl
  have h6 : fEq true (.str "p") (.str "s") = some (.dat (.bl true)) := by kernel_rfl
  cases l <;>
  simp [m_head_of, g_head_of, runBody, isOwn, isOwnL, H2.ds, h1, h2, h3, h4, h5, h6, mk]
theorem head_other (l : Bool) (a : D) (b : D) : m_head_of [.dat (mk l ((H2.other).ds l ++ [a, b]))] = .ret (.dat (.tup (H2.other.ds false))) [.dat (mk l ((H2.other).ds l ++ [a, b]))] := by
  have h1 : fInK "ARMS_trees" (tabT tab_ARMS_trees) true (.str "other") (.fn "ARMS_trees") = some (.dat (.bl false)) := by kernel_rfl
  have h2 : fIxK "ARMS_trees" (tabT tab_ARMS_trees) (.fn "ARMS_trees") (.str "other") = some (.dat (.str "pp")) := by kernel_rfl
  have h3 : fLen [.str "pp"] = some (.dat (.int 2)) := by kernel_rfl
  have h4 : fEq false (.str "pp") (.str "n") = some (.dat (.bl false)) := by kernel_rfl
  have h5 : fSl (.str "pp") none (some 1) = some (.dat (.str "p")) := by kernel_rfl
  have h6 : fEq true (.str "p") (.str "s") = some (.dat (.bl true)) := by kernel_rfl
  cases l <;>
  simp [m_head_of, g_head_of, runBody, isOwn, isOwnL, H2.ds, h1, h2, h3, h4, h5, h6, mk]
theorem head_if (l : Bool) (s : Say) (a : D) (b : D) (ok : (H2.if s).ok) : m_head_of [.dat (mk l (((H2.if s)).ds l ++ [a, b]))] = .ret (.dat (.tup ((H2.if s).ds false))) [.dat (mk l (((H2.if s)).ds l ++ [a, b]))] := by
  have h1 : fInK "ARMS_trees" (tabT tab_ARMS_trees) true (.str "if") (.fn "ARMS_trees") = some (.dat (.bl false)) := by kernel_rfl
  have h2 : fIxK "ARMS_trees" (tabT tab_ARMS_trees) (.fn "ARMS_trees") (.str "if") = some (.dat (.str "spp")) := by kernel_rfl
  have h3 : fLen [.str "spp"] = some (.dat (.int 3)) := by kernel_rfl
  have h4 : fEq false (.str "spp") (.str "n") = some (.dat (.bl false)) := by kernel_rfl
  have h5 : fSl (.str "spp") none (some 1) = some (.dat (.str "s")) := by kernel_rfl
  have h6 : fEq true (.str "s") (.str "s") = some (.dat (.bl false)) := by kernel_rfl
  have k := say_or_none l s ok.1 (Nat.le_trans ok.2.1 (by decide)) ok.2.2
  have k2 : fIs false (s.toD false) .non = some (.dat (.bl false)) := by cases s <;> rfl
  cases l <;>
  simp [m_head_of, g_head_of, runBody, isOwn, isOwnL, H2.ds, h1, h2, h3, h4, h5, h6, mk, k, k2]
theorem head_while (l : Bool) (s : Say) (a : D) (ok : (H1.while s).ok) : m_head_of [.dat (mk l (((H1.while s)).ds l ++ [a]))] = .ret (.dat (.tup ((H1.while s).ds false))) [.dat (mk l (((H1.while s)).ds l ++ [a]))] := by
  have h1 : fInK "ARMS_trees" (tabT tab_ARMS_trees) true (.str "while") (.fn "ARMS_trees") = some (.dat (.bl false)) := by kernel_rfl
  have h2 : fIxK "ARMS_trees" (tabT tab_ARMS_trees) (.fn "ARMS_trees") (.str "while") = some (.dat (.str "sp")) := by kernel_rfl
  have h3 : fLen [.str "sp"] = some (.dat (.int 2)) := by kernel_rfl
  have h4 : fEq false (.str "sp") (.str "n") = some (.dat (.bl false)) := by kernel_rfl
  have h5 : fSl (.str "sp") none (some 1) = some (.dat (.str "s")) := by kernel_rfl
  have h6 : fEq true (.str "s") (.str "s") = some (.dat (.bl false)) := by kernel_rfl
  have k := say_or_none l s ok.1 (Nat.le_trans ok.2.1 (by decide)) ok.2.2
  have k2 : fIs false (s.toD false) .non = some (.dat (.bl false)) := by cases s <;> rfl
  cases l <;>
  simp [m_head_of, g_head_of, runBody, isOwn, isOwnL, H1.ds, h1, h2, h3, h4, h5, h6, mk, k, k2]
theorem head_more (l : Bool) (a : D) : m_head_of [.dat (mk l ((H1.more).ds l ++ [a]))] = .ret (.dat (.tup (H1.more.ds false))) [.dat (mk l ((H1.more).ds l ++ [a]))] := by
  have h1 : fInK "ARMS_trees" (tabT tab_ARMS_trees) true (.str "more") (.fn "ARMS_trees") = some (.dat (.bl false)) := by kernel_rfl
  have h2 : fIxK "ARMS_trees" (tabT tab_ARMS_trees) (.fn "ARMS_trees") (.str "more") = some (.dat (.str "p")) := by kernel_rfl
  have h3 : fLen [.str "p"] = some (.dat (.int 1)) := by kernel_rfl
  have h4 : fEq false (.str "p") (.str "n") = some (.dat (.bl false)) := by kernel_rfl
  have h5 : fSl (.str "p") none (some 1) = some (.dat (.str "p")) := by kernel_rfl
  have h6 : fEq true (.str "p") (.str "s") = some (.dat (.bl true)) := by kernel_rfl
  cases l <;>
  simp [m_head_of, g_head_of, runBody, isOwn, isOwnL, H1.ds, h1, h2, h3, h4, h5, h6, mk]
theorem head_each (l : Bool) (a : D) : m_head_of [.dat (mk l ((H1.each).ds l ++ [a]))] = .ret (.dat (.tup (H1.each.ds false))) [.dat (mk l ((H1.each).ds l ++ [a]))] := by
  have h1 : fInK "ARMS_trees" (tabT tab_ARMS_trees) true (.str "each") (.fn "ARMS_trees") = some (.dat (.bl false)) := by kernel_rfl
  have h2 : fIxK "ARMS_trees" (tabT tab_ARMS_trees) (.fn "ARMS_trees") (.str "each") = some (.dat (.str "p")) := by kernel_rfl
  have h3 : fLen [.str "p"] = some (.dat (.int 1)) := by kernel_rfl
  have h4 : fEq false (.str "p") (.str "n") = some (.dat (.bl false)) := by kernel_rfl
  have h5 : fSl (.str "p") none (some 1) = some (.dat (.str "p")) := by kernel_rfl
  have h6 : fEq true (.str "p") (.str "s") = some (.dat (.bl true)) := by kernel_rfl
  cases l <;>
  simp [m_head_of, g_head_of, runBody, isOwn, isOwnL, H1.ds, h1, h2, h3, h4, h5, h6, mk]
theorem head0 (l : Bool) (h : H0) (ok : h.ok) : m_head_of [.dat (mk l (h.ds l))] = .ret (.dat (.tup (h.ds false))) [.dat (mk l (h.ds l))] :=
  match h, ok with
  | .pass, _ => head_pass l
  | .lose, _ => head_lose l
  | .win, _ => head_win l
  | .deed x, ok => head_deed l x ok
  | .need s, ok => head_need l s ok
  | .grant s, ok => head_grant l s ok
theorem head1 (l : Bool) (h : H1) (ok : h.ok) (a : D) : m_head_of [.dat (mk l (h.ds l ++ [a]))] = .ret (.dat (.tup (h.ds false))) [.dat (mk l (h.ds l ++ [a]))] :=
  match h, ok with
  | .more, _ => head_more l a
  | .each, _ => head_each l a
  | .while s, ok => head_while l s a ok
theorem head2 (l : Bool) (h : H2) (ok : h.ok) (a b : D) : m_head_of [.dat (mk l (h.ds l ++ [a, b]))] = .ret (.dat (.tup (h.ds false))) [.dat (mk l (h.ds l ++ [a, b]))] :=
  match h, ok with
  | .then, _ => head_then l a b
  | .own, _ => head_own l a b
  | .other, _ => head_other l a b
  | .if s, ok => head_if l s a b ok
end G07
end M07c_text

section M07d_text
set_option maxHeartbeats 1000000
namespace G07
open PySem Pd
/-- trees; an odd part keeps its tuple form and its list form -/
inductive Tree where
  | leaf (h : H0) | one (h : H1) (a : Tree) | two (h : H2) (a b : Tree) | odd (d dl : D)
def Tree.toD (l : Bool) : Tree → D
  | .leaf h => mk l (h.ds l)
  | .one h a => mk l (h.ds l ++ [a.toD l])
  | .two h a b => mk l (h.ds l ++ [a.toD l, b.toD l])
  | .odd d dl => match l with
    | true => dl
    | false => d
def OddOk (d : D) : Prop := m_head_of [.dat d] = .ret (.dat .non) [.dat d]
def Tree.ok : Tree → Prop
  | .leaf h => h.ok
  | .one h a => h.ok ∧ a.ok
  | .two h a b => h.ok ∧ a.ok ∧ b.ok
  | .odd d dl => OddOk d ∧ OddOk dl
def walkT : Tree → Nat → Nat → Except Nat Nat
  | .leaf _, d, s => if 60 ≤ s ∨ 20 < d then .error s else .ok (s + 1)
  | .one _ a, d, s => if 60 ≤ s ∨ 20 < d then .error s else walkT a (d + 1) (s + 1)
  | .two _ a b, d, s => if 60 ≤ s ∨ 20 < d then .error s else match walkT a (d + 1) (s + 1) with
    | .error e => .error e
    | .ok s1 => walkT b (d + 1) s1
  | .odd _ _, _, s => .error s
def badDeal (e : Nat) : Ex := ⟨"BadDeal", ["number"], [.int e]⟩
def walkA (l : Bool) (t : Tree) (d s : Nat) : Ar := match walkT t d s with
  | .ok s1 => .ret (.dat (.tup [t.toD false, .int s1])) [.dat (t.toD l), .dat (.int d), .dat (.int s)]
  | .error e => .exc (badDeal e) [.dat (t.toD l), .dat (.int d), .dat (.int s)]
abbrev WalkOk (l : Bool) (t : Tree) : Prop := ∀ (n d s : Nat), t.ok → 22 ≤ n + d → d ≤ 21 → s ≤ 60 →
  m_walked n [.dat (t.toD l), .dat (.int d), .dat (.int s)] = walkA l t d s
theorem okMsg_60 {s : Nat} (h : s ≤ 60) : okMsg (.int s) = true := by
  have h1 := Nat.log2_le_self s
  have h2 : (s : Int).natAbs = s := by omega
  simp only [okMsg, h2]
  exact decide_eq_true (by omega)
theorem walk_stop (n : Nat) (x : D) (d s : Nat) (hs : s ≤ 60) (h : 60 ≤ s ∨ 20 < d) :
    m_walked (n + 1) [.dat x, .dat (.int d), .dat (.int s)] = .exc (badDeal s) [.dat x, .dat (.int d), .dat (.int s)] := by
  have k := okMsg_60 hs
  by_cases h1 : 60 ≤ s
  · have h2 : (60 : Int) ≤ s := by omega
    simp [m_walked, g_walked, runBody, isOwn, isOwnL, c_MOST_PARTS, c_DEEPEST_trees, h2, badDeal, ok_WrongNumber, k]
  · have h2 : ¬ (60 : Int) ≤ s := by omega
    have h3 : (20 : Int) < d := by omega
    simp [m_walked, g_walked, runBody, isOwn, isOwnL, c_MOST_PARTS, c_DEEPEST_trees, h2, h3, badDeal, ok_WrongNumber, k]
theorem walk_odd (n : Nat) (x : D) (d s : Nat) (hs : s ≤ 60) (h : OddOk x) :
    m_walked (n + 1) [.dat x, .dat (.int d), .dat (.int s)] = .exc (badDeal s) [.dat x, .dat (.int d), .dat (.int s)] := by
  by_cases c : 60 ≤ s ∨ 20 < d
  · exact walk_stop n x d s hs c
  have k := okMsg_60 hs
  have h2 : ¬ (60 : Int) ≤ s := by omega
  have h3 : ¬ (20 : Int) < d := by omega
  have h4 : m_head_of [.dat x] = .ret (.dat .non) [.dat x] := h
  simp [m_walked, g_walked, runBody, isOwn, isOwnL, c_MOST_PARTS, c_DEEPEST_trees, h2, h3, badDeal, ok_WrongNumber, k, h4]
@[simp] theorem list_tup (xs : List D) : fList [.tup xs] = some (.own true (.lst xs)) := rfl
def slc (l : Bool) (xs : List D) : SV := match l with
  | true => .own true (.lst xs)
  | false => .dat (.tup xs)
theorem ds_sl0 (l : Bool) (h : H0) : fSl (mk l (h.ds l)) (some (h.ds false).length) none = some (slc l []) := by cases h <;> cases l <;> rfl
theorem ds_sl1 (l : Bool) (h : H1) (a : D) : fSl (mk l (h.ds l ++ [a])) (some (h.ds false).length) none = some (slc l [a]) := by cases h <;> cases l <;> rfl
theorem ds_sl2 (l : Bool) (h : H2) (a b : D) : fSl (mk l (h.ds l ++ [a, b])) (some (h.ds false).length) none = some (slc l [a, b]) := by cases h <;> cases l <;> rfl
theorem ds_len0 (h : H0) : (h.ds false).length ≤ 2 := by cases h <;> simp [H0.ds]
theorem ds_len1 (h : H1) : (h.ds false).length ≤ 2 := by cases h <;> simp [H1.ds]
theorem ds_len2 (h : H2) : (h.ds false).length ≤ 2 := by cases h <;> simp [H2.ds]
theorem fits_sm {n : Nat} (h : n ≤ 1000) : Fits n := Fits.of (by omega)
theorem walk_leaf (l : Bool) (h : H0) : WalkOk l (.leaf h) := by
  intro n d s ok hn hd hs
  obtain _ | n := n
  · omega
  by_cases c : 60 ≤ s ∨ 20 < d
  · rw [walk_stop n _ d s hs c]
    simp [walkA, walkT, c]
  have h2 : ¬ (60 : Int) ≤ s := by omega
  have h3 : ¬ (20 : Int) < d := by omega
  have k := head0 l h ok
  have h6 := ds_sl0 l h
  have h7 := ds_len0 h
  have h8 : Fits (h.ds false).length := fits_sm (by omega)
  show m_walked (n + 1) [.dat (mk l (h.ds l)), .dat (.int d), .dat (.int s)] = walkA l (.leaf h) d s
  have e : walkA l (.leaf h) d s = .ret (.dat (.tup [.tup (h.ds false), .int (s + 1)])) [.dat (mk l (h.ds l)), .dat (.int d), .dat (.int s)] := by
    simp [walkA, walkT, c, Tree.toD, mk]
  rw [e]
  generalize mk l (h.ds l) = T at *
  generalize h.ds false = X at *
  simp only [slc] at h6
  cases l <;>
  simp [m_walked, g_walked, runBody, isOwn, isOwnL, c_MOST_PARTS, c_DEEPEST_trees, h2, h3, k, h6, h8, D.items]
theorem walk_one (l : Bool) (h : H1) (a : Tree) (IH : WalkOk l a) : WalkOk l (.one h a) := by
  intro n d s ok hn hd hs
  obtain _ | n := n
  · omega
  by_cases c : 60 ≤ s ∨ 20 < d
  · rw [walk_stop n _ d s hs c]
    simp [walkA, walkT, c]
  have h2 : ¬ (60 : Int) ≤ s := by omega
  have h3 : ¬ (20 : Int) < d := by omega
  have k := head1 l h ok.1 (a.toD l)
  have h6 := ds_sl1 l h (a.toD l)
  have h7 := ds_len1 h
  have h8 : Fits (h.ds false).length := fits_sm (by omega)
  have I := IH n (d + 1) (s + 1) ok.2 (by omega) (by omega) (by omega)
  simp only [walkA] at I
  show m_walked (n + 1) [.dat (mk l (h.ds l ++ [a.toD l])), .dat (.int d), .dat (.int s)] = _
  have e : walkA l (.one h a) d s = match walkT a (d + 1) (s + 1) with
    | .ok s1 => .ret (.dat (.tup [.tup (h.ds false ++ [a.toD false]), .int s1])) [.dat (mk l (h.ds l ++ [a.toD l])), .dat (.int d), .dat (.int s)]
    | .error e => .exc (badDeal e) [.dat (mk l (h.ds l ++ [a.toD l])), .dat (.int d), .dat (.int s)] := by
    simp [walkA, walkT, c, Tree.toD, mk]
  rw [e]
  generalize mk l (h.ds l ++ [a.toD l]) = T at *
  generalize h.ds false = X at *
  simp only [slc] at h6
  cases hw : walkT a (d + 1) (s + 1) <;> rw [hw] at I <;> cases l <;> simp at I <;>
  simp [m_walked, g_walked, runBody, isOwn, isOwnL, c_MOST_PARTS, c_DEEPEST_trees, h2, h3, k, h6, h8, D.items, ev_for_cons, I]
theorem walkT_le : ∀ (t : Tree) (d s s1 : Nat), walkT t d s = .ok s1 → s1 ≤ 60
  | .leaf _, d, s, s1, h => by
    simp only [walkT] at h
    split at h
    · cases h
    · cases h
      omega
  | .one _ a, d, s, s1, h => by
    simp only [walkT] at h
    split at h
    · cases h
    · exact walkT_le a _ _ _ h
  | .two _ a b, d, s, s1, h => by
    simp only [walkT] at h
    split at h
    · cases h
    · split at h
      · cases h
      · exact walkT_le b _ _ _ h
  | .odd _ _, d, s, s1, h => by cases h
theorem walk_two (l : Bool) (h : H2) (a b : Tree) (IH : WalkOk l a) (IH2 : WalkOk l b) : WalkOk l (.two h a b) := by
  intro n d s ok hn hd hs
  obtain _ | n := n
  · omega
  by_cases c : 60 ≤ s ∨ 20 < d
  · rw [walk_stop n _ d s hs c]
    simp [walkA, walkT, c]
  have h2 : ¬ (60 : Int) ≤ s := by omega
  have h3 : ¬ (20 : Int) < d := by omega
  have k := head2 l h ok.1 (a.toD l) (b.toD l)
  have h6 := ds_sl2 l h (a.toD l) (b.toD l)
  have h7 := ds_len2 h
  have h8 : Fits (h.ds false).length := fits_sm (by omega)
  have h9 : Fits ((h.ds false).length + 1) := fits_sm (by omega)
  have I := IH n (d + 1) (s + 1) ok.2.1 (by omega) (by omega) (by omega)
  simp only [walkA] at I
  show m_walked (n + 1) [.dat (mk l (h.ds l ++ [a.toD l, b.toD l])), .dat (.int d), .dat (.int s)] = _
  have e : walkA l (.two h a b) d s = match (match walkT a (d + 1) (s + 1) with
    | .ok s1 => walkT b (d + 1) s1
    | .error e => .error e) with
    | .ok s1 => .ret (.dat (.tup [.tup (h.ds false ++ [a.toD false, b.toD false]), .int s1])) [.dat (mk l (h.ds l ++ [a.toD l, b.toD l])), .dat (.int d), .dat (.int s)]
    | .error e => .exc (badDeal e) [.dat (mk l (h.ds l ++ [a.toD l, b.toD l])), .dat (.int d), .dat (.int s)] := by
    simp only [walkA, walkT, c, Tree.toD, mk, if_false]
    cases walkT a (d + 1) (s + 1) <;> rfl
  rw [e]
  generalize mk l (h.ds l ++ [a.toD l, b.toD l]) = T at *
  generalize h.ds false = X at *
  simp only [slc] at h6
  cases hw : walkT a (d + 1) (s + 1) with
  | error e =>
    rw [hw] at I
    cases l <;> simp at I <;>
    simp [m_walked, g_walked, runBody, isOwn, isOwnL, c_MOST_PARTS, c_DEEPEST_trees, h2, h3, k, h6, h8, D.items, ev_for_cons, I]
  | ok s1 =>
    rw [hw] at I
    have I2 := IH2 n (d + 1) s1 ok.2.2 (by omega) (by omega) (walkT_le _ _ _ _ hw)
    simp only [walkA] at I2
    cases hw2 : walkT b (d + 1) s1 <;> rw [hw2] at I2 <;> cases l <;> simp at I I2 <;>
    simp [m_walked, g_walked, runBody, isOwn, isOwnL, c_MOST_PARTS, c_DEEPEST_trees, h2, h3, k, h6, h8, h9, D.items, ev_for_cons, I, I2, hw2]
theorem walk_ok (l : Bool) : ∀ t : Tree, WalkOk l t
  | .leaf h => walk_leaf l h
  | .one h a => walk_one l h a (walk_ok l a)
  | .two h a b => walk_two l h a b (walk_ok l a) (walk_ok l b)
  | .odd d dl => by
    intro n e s ok hn hd hs
    obtain _ | n := n
    · omega
    cases l
    · exact walk_odd n d e s hs ok.1
    · exact walk_odd n dl e s hs ok.2
/-- checked_tree -/
theorem checked_ok (l : Bool) (t : Tree) (ok : t.ok) : m_checked_tree [.dat (t.toD l)] = match walkT t 0 0 with
    | .ok _ => .ret (.dat (t.toD false)) [.dat (t.toD l)]
    | .error e => .exc (badDeal e) [.dat (t.toD l)] := by
  have h := walk_ok l t 32 0 0 ok (by omega) (by omega) (by omega)
  simp only [walkA] at h
  cases hw : walkT t 0 0 <;> rw [hw] at h <;> simp at h <;>
  simp [m_checked_tree, g_checked_tree, runBody, isOwn, isOwnL, h]
end G07
end M07d_text

section M07e_text
set_option maxHeartbeats 1000000
namespace G07
open PySem Pd
theorem arms_pass : m_arms_of [.dat (.tup (H0.pass.ds false))] = .ret (.dat (.tup [])) [.dat (.tup (H0.pass.ds false))] := by
  have h2 : fIxK "ARMS_trees" (tabT tab_ARMS_trees) (.fn "ARMS_trees") (.str "pass") = some (.dat (.str "")) := by kernel_rfl
  have h3 : fCount (.str "") (.str "p") = some (.dat (.int 0)) := by kernel_rfl
  have h4 : fSl (.tup (H0.pass.ds false)) (some (1 - 0)) none = some (.dat (.tup [])) := by rfl
  simp [H0.ds] at h4
  simp [m_arms_of, g_arms_of, runBody, isOwn, isOwnL, H0.ds, h2, h3, h4, isStr]
theorem arms_lose : m_arms_of [.dat (.tup (H0.lose.ds false))] = .ret (.dat (.tup [])) [.dat (.tup (H0.lose.ds false))] := by
  have h2 : fIxK "ARMS_trees" (tabT tab_ARMS_trees) (.fn "ARMS_trees") (.str "lose") = some (.dat (.str "")) := by kernel_rfl
  have h3 : fCount (.str "") (.str "p") = some (.dat (.int 0)) := by kernel_rfl
  have h4 : fSl (.tup (H0.lose.ds false)) (some (1 - 0)) none = some (.dat (.tup [])) := by rfl
  simp [H0.ds] at h4
  simp [m_arms_of, g_arms_of, runBody, isOwn, isOwnL, H0.ds, h2, h3, h4, isStr]
theorem arms_win : m_arms_of [.dat (.tup (H0.win.ds false))] = .ret (.dat (.tup [])) [.dat (.tup (H0.win.ds false))] := by
  have h2 : fIxK "ARMS_trees" (tabT tab_ARMS_trees) (.fn "ARMS_trees") (.str "win") = some (.dat (.str "")) := by kernel_rfl
  have h3 : fCount (.str "") (.str "p") = some (.dat (.int 0)) := by kernel_rfl
  have h4 : fSl (.tup (H0.win.ds false)) (some (1 - 0)) none = some (.dat (.tup [])) := by rfl
  simp [H0.ds] at h4
  simp [m_arms_of, g_arms_of, runBody, isOwn, isOwnL, H0.ds, h2, h3, h4, isStr]
theorem arms_deed (x : Str) : m_arms_of [.dat (.tup ((H0.deed x).ds false))] = .ret (.dat (.tup [])) [.dat (.tup ((H0.deed x).ds false))] := by
  have h2 : fIxK "ARMS_trees" (tabT tab_ARMS_trees) (.fn "ARMS_trees") (.str "deed") = some (.dat (.str "n")) := by kernel_rfl
  have h3 : fCount (.str "n") (.str "p") = some (.dat (.int 0)) := by kernel_rfl
  have h4 : fSl (.tup ((H0.deed x).ds false)) (some (2 - 0)) none = some (.dat (.tup [])) := by rfl
  simp [H0.ds] at h4
  simp [m_arms_of, g_arms_of, runBody, isOwn, isOwnL, H0.ds, h2, h3, h4, isStr]
theorem arms_need (s : Say) : m_arms_of [.dat (.tup ((H0.need s).ds false))] = .ret (.dat (.tup [])) [.dat (.tup ((H0.need s).ds false))] := by
  have h2 : fIxK "ARMS_trees" (tabT tab_ARMS_trees) (.fn "ARMS_trees") (.str "need") = some (.dat (.str "s")) := by kernel_rfl
  have h3 : fCount (.str "s") (.str "p") = some (.dat (.int 0)) := by kernel_rfl
  have h4 : fSl (.tup ((H0.need s).ds false)) (some (2 - 0)) none = some (.dat (.tup [])) := by rfl
  simp [H0.ds] at h4
  simp [m_arms_of, g_arms_of, runBody, isOwn, isOwnL, H0.ds, h2, h3, h4, isStr]
theorem arms_grant (s : Say) : m_arms_of [.dat (.tup ((H0.grant s).ds false))] = .ret (.dat (.tup [])) [.dat (.tup ((H0.grant s).ds false))] := by
  have h2 : fIxK "ARMS_trees" (tabT tab_ARMS_trees) (.fn "ARMS_trees") (.str "grant") = some (.dat (.str "s")) := by kernel_rfl
  have h3 : fCount (.str "s") (.str "p") = some (.dat (.int 0)) := by kernel_rfl
  have h4 : fSl (.tup ((H0.grant s).ds false)) (some (2 - 0)) none = some (.dat (.tup [])) := by rfl
  simp [H0.ds] at h4
  simp [m_arms_of, g_arms_of, runBody, isOwn, isOwnL, H0.ds, h2, h3, h4, isStr]
theorem arms_then (a : D) (b : D) : m_arms_of [.dat (.tup ((H2.then).ds false ++ [a, b]))] = .ret (.dat (.tup [a, b])) [.dat (.tup ((H2.then).ds false ++ [a, b]))] := by
  have h2 : fIxK "ARMS_trees" (tabT tab_ARMS_trees) (.fn "ARMS_trees") (.str "then") = some (.dat (.str "pp")) := by kernel_rfl
  have h3 : fCount (.str "pp") (.str "p") = some (.dat (.int 2)) := by kernel_rfl
  have h4 : fSl (.tup ((H2.then).ds false ++ [a, b])) (some (3 - 2)) none = some (.dat (.tup [a, b])) := by rfl
  simp [H2.ds] at h4
  simp [m_arms_of, g_arms_of, runBody, isOwn, isOwnL, H2.ds, h2, h3, h4, isStr]
theorem arms_own (a : D) (b : D) : m_arms_of [.dat (.tup ((H2.own).ds false ++ [a, b]))] = .ret (.dat (.tup [a, b])) [.dat (.tup ((H2.own).ds false ++ [a, b]))] := by
  have h2 : fIxK "ARMS_trees" (tabT tab_ARMS_trees) (.fn "ARMS_trees") (.str "own") = some (.dat (.str "pp")) := by kernel_rfl
  have h3 : fCount (.str "pp") (.str "p") = some (.dat (.int 2)) := by kernel_rfl
  have h4 : fSl (.tup ((H2.own).ds false ++ [a, b])) (some (3 - 2)) none = some (.dat (.tup [a, b])) := by rfl
  simp [H2.ds] at h4
  simp [m_arms_of, g_arms_of, runBody, isOwn, isOwnL, H2.ds, h2, h3, h4, isStr]
theorem arms_other (a : D) (b : D) : m_arms_of [.dat (.tup ((H2.other).ds false ++ [a, b]))] = .ret (.dat (.tup [a, b])) [.dat (.tup ((H2.other).ds false ++ [a, b]))] := by
  have h2 : fIxK "ARMS_trees" (tabT tab_ARMS_trees) (.fn "ARMS_trees") (.str "other") = some (.dat (.str "pp")) := by kernel_rfl
  have h3 : fCount (.str "pp") (.str "p") = some (.dat (.int 2)) := by kernel_rfl
  have h4 : fSl (.tup ((H2.other).ds false ++ [a, b])) (some (3 - 2)) none = some (.dat (.tup [a, b])) := by rfl
  simp [H2.ds] at h4
  simp [m_arms_of, g_arms_of, runBody, isOwn, isOwnL, H2.ds, h2, h3, h4, isStr]
theorem arms_if (s : Say) (a : D) (b : D) : m_arms_of [.dat (.tup (((H2.if s)).ds false ++ [a, b]))] = .ret (.dat (.tup [a, b])) [.dat (.tup (((H2.if s)).ds false ++ [a, b]))] := by
  have h2 : fIxK "ARMS_trees" (tabT tab_ARMS_trees) (.fn "ARMS_trees") (.str "if") = some (.dat (.str "spp")) := by kernel_rfl
  have h3 : fCount (.str "spp") (.str "p") = some (.dat (.int 2)) := by kernel_rfl
  have h4 : fSl (.tup (((H2.if s)).ds false ++ [a, b])) (some (4 - 2)) none = some (.dat (.tup [a, b])) := by rfl
  simp [H2.ds] at h4
  simp [m_arms_of, g_arms_of, runBody, isOwn, isOwnL, H2.ds, h2, h3, h4, isStr]
theorem arms_while (s : Say) (a : D) : m_arms_of [.dat (.tup (((H1.while s)).ds false ++ [a]))] = .ret (.dat (.tup [a])) [.dat (.tup (((H1.while s)).ds false ++ [a]))] := by
  have h2 : fIxK "ARMS_trees" (tabT tab_ARMS_trees) (.fn "ARMS_trees") (.str "while") = some (.dat (.str "sp")) := by kernel_rfl
  have h3 : fCount (.str "sp") (.str "p") = some (.dat (.int 1)) := by kernel_rfl
  have h4 : fSl (.tup (((H1.while s)).ds false ++ [a])) (some (3 - 1)) none = some (.dat (.tup [a])) := by rfl
  simp [H1.ds] at h4
  simp [m_arms_of, g_arms_of, runBody, isOwn, isOwnL, H1.ds, h2, h3, h4, isStr]
theorem arms_more (a : D) : m_arms_of [.dat (.tup ((H1.more).ds false ++ [a]))] = .ret (.dat (.tup [a])) [.dat (.tup ((H1.more).ds false ++ [a]))] := by
  have h2 : fIxK "ARMS_trees" (tabT tab_ARMS_trees) (.fn "ARMS_trees") (.str "more") = some (.dat (.str "p")) := by kernel_rfl
  have h3 : fCount (.str "p") (.str "p") = some (.dat (.int 1)) := by kernel_rfl
  have h4 : fSl (.tup ((H1.more).ds false ++ [a])) (some (2 - 1)) none = some (.dat (.tup [a])) := by rfl
  simp [H1.ds] at h4
  simp [m_arms_of, g_arms_of, runBody, isOwn, isOwnL, H1.ds, h2, h3, h4, isStr]
theorem arms_each (a : D) : m_arms_of [.dat (.tup ((H1.each).ds false ++ [a]))] = .ret (.dat (.tup [a])) [.dat (.tup ((H1.each).ds false ++ [a]))] := by
  have h2 : fIxK "ARMS_trees" (tabT tab_ARMS_trees) (.fn "ARMS_trees") (.str "each") = some (.dat (.str "p")) := by kernel_rfl
  have h3 : fCount (.str "p") (.str "p") = some (.dat (.int 1)) := by kernel_rfl
  have h4 : fSl (.tup ((H1.each).ds false ++ [a])) (some (2 - 1)) none = some (.dat (.tup [a])) := by rfl
  simp [H1.ds] at h4
  simp [m_arms_of, g_arms_of, runBody, isOwn, isOwnL, H1.ds, h2, h3, h4, isStr]
theorem arms0 (h : H0) : m_arms_of [.dat (.tup (h.ds false))] = .ret (.dat (.tup [])) [.dat (.tup (h.ds false))] :=
  match h with
  | .pass => arms_pass
  | .lose => arms_lose
  | .win => arms_win
  | .deed x => arms_deed x
  | .need s => arms_need s
  | .grant s => arms_grant s
theorem arms1 (h : H1) (a : D) : m_arms_of [.dat (.tup (h.ds false ++ [a]))] = .ret (.dat (.tup [a])) [.dat (.tup (h.ds false ++ [a]))] :=
  match h with
  | .more => arms_more a
  | .each => arms_each a
  | .while s => arms_while s a
theorem arms2 (h : H2) (a b : D) : m_arms_of [.dat (.tup (h.ds false ++ [a, b]))] = .ret (.dat (.tup [a, b])) [.dat (.tup (h.ds false ++ [a, b]))] :=
  match h with
  | .then => arms_then a b
  | .own => arms_own a b
  | .other => arms_other a b
  | .if s => arms_if s a b
end G07
end M07e_text

section M07f_text
set_option maxHeartbeats 1000000
namespace G07
open PySem Pd
def Tree.plain : Tree → Prop
  | .leaf _ => True
  | .one _ a => a.plain
  | .two _ a b => a.plain ∧ b.plain
  | .odd _ _ => False
def Tree.height : Tree → Nat
  | .one _ a => a.height + 1
  | .two _ a b => max a.height b.height + 1
  | _ => 0
def Tree.size : Tree → Nat
  | .one _ a => a.size + 1
  | .two _ a b => a.size + b.size + 1
  | _ => 1
/-- the parts in order, each a tree -/
def Tree.pre : Tree → List Tree
  | .one h a => .one h a :: a.pre
  | .two h a b => .two h a b :: (a.pre ++ b.pre)
  | t => [t]
theorem Tree.pre_len : ∀ t : Tree, t.pre.length = t.size
  | .leaf _ => rfl
  | .odd _ _ => rfl
  | .one _ a => by simp [Tree.pre, Tree.size, a.pre_len]
  | .two _ a b => by simp [Tree.pre, Tree.size, a.pre_len, b.pre_len]
def Tree.preD (t : Tree) : List D := t.pre.map (Tree.toD false)
theorem Tree.preD_len (t : Tree) : t.preD.length = t.size := by simp [Tree.preD, Tree.pre_len]
theorem comp_id (T A : SV) : ∀ (es acc : List D), acc.length + es.length ≤ 1000 → compG (gtName 2) gYes (gNam 2) [2] es acc [T, A, .no] = .ok (acc ++ es) [T, A, .no]
  | [], acc, h => by simp
  | e :: es, acc, h => by
    simp only [List.length_cons] at h
    have h1 : Fits acc.length := fits_sm (by omega)
    have I := comp_id T A es (acc ++ [e]) (by simp; omega)
    simp [ev_comp_cons, h1, I]
theorem ev_comp2_nil (tgt : GTg) (test : GT) (src1 : GI) (tgt1 : GTg) (test1 : GT) (elt : GV) (vs vs1 : List Nat) (acc : List D) (S : List SV) : comp2G tgt test src1 tgt1 test1 elt vs vs1 [] acc S = .ok acc S := rfl
theorem ev_comp2_cons (tgt : GTg) (test : GT) (src1 : GI) (tgt1 : GTg) (test1 : GT) (elt : GV) (vs vs1 : List Nat) (d : D) (ds acc : List D) (S : List SV) : comp2G tgt test src1 tgt1 test1 elt vs vs1 (d :: ds) acc S = match tgt d S with
    | none => .bad
    | some S1 => (match test S1 with
      | .ok true S2 => (match src1 S2 with
        | .ok es S3 => (match compG tgt1 test1 elt vs1 es acc (wipeS S3 vs1) with
          | .ok acc' S4 => comp2G tgt test src1 tgt1 test1 elt vs vs1 ds acc' (wipeS S4 vs)
          | _ => .bad)
        | _ => .bad)
      | .ok false S2 => comp2G tgt test src1 tgt1 test1 elt vs vs1 ds acc (wipeS S2 vs)
      | _ => .bad) := rfl
abbrev AllOk (t : Tree) : Prop := ∀ n, t.plain → t.height < n → t.size ≤ 900 →
  m_all_parts n [.dat (t.toD false)] = .ret (.own true (.lst t.preD)) [.dat (t.toD false)]
theorem all_leaf (h : H0) : AllOk (.leaf h) := by
  intro n pl hn hs
  obtain _ | n := n
  · exact absurd hn (by simp)
  have k := arms0 h
  simp [m_all_parts, g_all_parts, runBody, isOwn, isOwnL, Tree.toD, mk, k, D.items, ev_comp2_nil, fAdd, Tree.preD, Tree.pre]
theorem all_one (h : H1) (a : Tree) (IH : AllOk a) : AllOk (.one h a) := by
  intro n pl hn hs
  obtain _ | n := n
  · exact absurd hn (by simp)
  simp only [Tree.height, Tree.size] at hn hs
  have k := arms1 h (a.toD false)
  have I := IH n pl (by omega) (by omega)
  have c := comp_id (.dat (.tup (h.ds false ++ [a.toD false]))) (.dat (a.toD false)) a.preD [] (by simp [Tree.preD_len]; omega)
  have f : Fits (a.size + 1) := fits_sm (by omega)
  have f2 : Fits (1 + a.size) := fits_sm (by omega)
  simp [m_all_parts, g_all_parts, runBody, isOwn, isOwnL, Tree.toD, mk, k, D.items, ev_comp2_nil, ev_comp2_cons, fAdd, I, c, Tree.preD_len, f, f2]
  simp [Tree.preD, Tree.pre, Tree.toD, mk]
theorem all_two (h : H2) (a b : Tree) (IH : AllOk a) (IH2 : AllOk b) : AllOk (.two h a b) := by
  intro n pl hn hs
  obtain _ | n := n
  · exact absurd hn (by simp)
  simp only [Tree.height, Tree.size] at hn hs
  have k := arms2 h (a.toD false) (b.toD false)
  have I := IH n pl.1 (by omega) (by omega)
  have I2 := IH2 n pl.2 (by omega) (by omega)
  have c := comp_id (.dat (.tup (h.ds false ++ [a.toD false, b.toD false]))) (.dat (a.toD false)) a.preD [] (by simp [Tree.preD_len]; omega)
  have c2 := comp_id (.dat (.tup (h.ds false ++ [a.toD false, b.toD false]))) (.dat (b.toD false)) b.preD a.preD (by simp [Tree.preD_len]; omega)
  have f2 : Fits (1 + (a.size + b.size)) := fits_sm (by omega)
  have f3 : Fits (a.size + b.size + 1) := fits_sm (by omega)
  simp [m_all_parts, g_all_parts, runBody, isOwn, isOwnL, Tree.toD, mk, k, D.items, ev_comp2_nil, ev_comp2_cons, fAdd, I, I2, c, c2, Tree.preD_len, f2, f3]
  simp [Tree.preD, Tree.pre, Tree.toD, mk]
theorem all_ok : ∀ t : Tree, AllOk t
  | .leaf h => all_leaf h
  | .one h a => all_one h a (all_ok a)
  | .two h a b => all_two h a b (all_ok a) (all_ok b)
  | .odd _ _ => fun _ pl => absurd pl (by simp [Tree.plain])
end G07
end M07f_text

section M07g_text
set_option maxHeartbeats 1000000
namespace G07
open PySem Pd
theorem walkT_ok : ∀ (t : Tree) (d s s1 : Nat), walkT t d s = .ok s1 → t.plain ∧ s1 = s + t.size ∧ d + t.height ≤ 20 ∧ s + t.size ≤ 60
  | .leaf _, d, s, s1, h => by
    simp only [walkT] at h
    split at h
    · cases h
    · cases h
      simp only [Tree.plain, Tree.size, Tree.height, true_and]
      omega
  | .one _ a, d, s, s1, h => by
    simp only [walkT] at h
    split at h
    · cases h
    · obtain ⟨p, e, h1, h2⟩ := walkT_ok a _ _ _ h
      simp only [Tree.plain, Tree.size, Tree.height]
      exact ⟨p, by omega, by omega, by omega⟩
  | .two _ a b, d, s, s1, h => by
    simp only [walkT] at h
    split at h
    · cases h
    · split at h
      · cases h
      · rename_i x hx
        obtain ⟨p, e, h1, h2⟩ := walkT_ok a _ _ _ hx
        obtain ⟨p', e', h1', h2'⟩ := walkT_ok b _ _ _ h
        simp only [Tree.plain, Tree.size, Tree.height]
        exact ⟨⟨p, p'⟩, by omega, by omega, by omega⟩
  | .odd _ _, d, s, s1, h => by cases h
theorem walkT_go : ∀ (t : Tree) (d s : Nat), t.plain → d + t.height ≤ 20 → s + t.size ≤ 60 → walkT t d s = .ok (s + t.size)
  | .leaf _, d, s, p, h1, h2 => by
    simp only [Tree.size, Tree.height] at h1 h2
    simp only [walkT, Tree.size]
    rw [if_neg (by omega)]
  | .one _ a, d, s, p, h1, h2 => by
    simp only [Tree.size, Tree.height] at h1 h2
    simp only [walkT, Tree.size]
    rw [if_neg (by omega), walkT_go a _ _ p (by omega) (by omega)]
    congr 1
    omega
  | .two _ a b, d, s, p, h1, h2 => by
    simp only [Tree.size, Tree.height] at h1 h2
    simp only [walkT, Tree.size]
    rw [if_neg (by omega), walkT_go a _ _ p.1 (by omega) (by omega)]
    simp only
    rw [walkT_go b _ _ p.2 (by omega) (by omega)]
    congr 1
    omega
  | .odd _ _, d, s, p, _, _ => absurd p (by simp [Tree.plain])
theorem parts_ok (l : Bool) (t : Tree) (ok : t.ok) : m_parts_of [.dat (t.toD l)] = match walkT t 0 0 with
    | .ok _ => .ret (.dat (.tup t.preD)) [.dat (t.toD l)]
    | .error e => .exc (badDeal e) [.dat (t.toD l)] := by
  have h := checked_ok l t ok
  cases hw : walkT t 0 0 with
  | error e =>
    rw [hw] at h
    simp at h
    simp [m_parts_of, g_parts_of, runBody, isOwn, isOwnL, h]
  | ok s1 =>
    rw [hw] at h
    simp at h
    obtain ⟨p, e, h1, h2⟩ := walkT_ok t _ _ _ hw
    have k := all_ok t 32 p (by omega) (by omega)
    simp [m_parts_of, g_parts_of, runBody, isOwn, isOwnL, h, k]
theorem sl_one (x : D) (xs : List D) : fSl (.lst (x :: xs)) (some 1) none = some (.own true (.lst xs)) := by
  have h : cutD (x :: xs) (some 1) none = xs := by
    simp [cutD, HT.sIx]
  simp [fSl, h]
def inn : Tree → Nat → List D
  | .one _ a, s => .tup [.int ((s + 1 : Nat) : Int)] :: inn a (s + 1)
  | .two _ a b, s => .tup [.int ((s + 1 : Nat) : Int), .int ((s + 1 + a.size : Nat) : Int)] :: (inn a (s + 1) ++ inn b (s + 1 + a.size))
  | _, _ => [.tup []]
theorem inn_len : ∀ (t : Tree) (s : Nat), (inn t s).length = t.size
  | .leaf _, s => rfl
  | .odd _ _, s => rfl
  | .one _ a, s => by simp [inn, Tree.size, inn_len a]
  | .two _ a b, s => by simp [inn, Tree.size, inn_len a, inn_len b]
abbrev InnOk (t : Tree) : Prop := ∀ n s : Nat, t.plain → t.height < n → t.size ≤ 900 →
  m_inner_spots n [.dat (t.toD false), .dat (.int s)] = .ret (.own true (.lst (inn t s))) [.dat (t.toD false), .dat (.int s)]
theorem inn_leaf (h : H0) : InnOk (.leaf h) := by
  intro n s pl hn hs
  obtain _ | n := n
  · exact absurd hn (by simp)
  have k := arms0 h
  simp [m_inner_spots, g_inner_spots, runBody, isOwn, isOwnL, Tree.toD, mk, k, D.items, fAdd, inn, sl_one]
theorem inn_one (h : H1) (a : Tree) (IH : InnOk a) : InnOk (.one h a) := by
  intro n s pl hn hs
  obtain _ | n := n
  · exact absurd hn (by simp)
  simp only [Tree.height, Tree.size] at hn hs
  have k := arms1 h (a.toD false)
  have I := IH n (s + 1) pl (by omega) (by omega)
  have f : Fits (a.size + 1) := fits_sm (by omega)
  have f2 : Fits (1 + a.size) := fits_sm (by omega)
  simp at I
  simp [m_inner_spots, g_inner_spots, runBody, isOwn, isOwnL, Tree.toD, mk, k, D.items, fAdd, inn, sl_one, ev_for_cons, I, inn_len, f, f2]
theorem inn_two (h : H2) (a b : Tree) (IH : InnOk a) (IH2 : InnOk b) : InnOk (.two h a b) := by
  intro n s pl hn hs
  obtain _ | n := n
  · exact absurd hn (by simp)
  simp only [Tree.height, Tree.size] at hn hs
  have k := arms2 h (a.toD false) (b.toD false)
  have I := IH n (s + 1) pl.1 (by omega) (by omega)
  have I2 := IH2 n (s + 1 + a.size) pl.2 (by omega) (by omega)
  have f : Fits (a.size + 1) := fits_sm (by omega)
  have f2 : Fits (1 + a.size) := fits_sm (by omega)
  have f3 : Fits (1 + (a.size + b.size)) := fits_sm (by omega)
  have f4 : Fits (a.size + b.size + 1) := fits_sm (by omega)
  have f5 : Fits (a.size + 1 + b.size) := fits_sm (by omega)
  simp at I I2
  simp [m_inner_spots, g_inner_spots, runBody, isOwn, isOwnL, Tree.toD, mk, k, D.items, fAdd, inn, sl_one, ev_for_cons, I, I2, inn_len, f, f2, f3, f4, f5]
theorem inn_ok : ∀ t : Tree, InnOk t
  | .leaf h => inn_leaf h
  | .one h a => inn_one h a (inn_ok a)
  | .two h a b => inn_two h a b (inn_ok a) (inn_ok b)
  | .odd _ _ => fun _ _ pl => absurd pl (by simp [Tree.plain])
end G07
end M07g_text

section M07h_text
set_option maxHeartbeats 1000000
namespace G07
open PySem Pd
def afterT : GTg := gtTup 2 (gtsCons (gtName 4) (gtsCons (gtName 3) gtsNil))
def afterB : GS := (gSeq (gSet 5 (gBin fIxU (gVar 3) (gO (gC (.int 0)))))
  (gSeq (gSet 6 (gBin fIxU (gVar 1) (gVar 4)))
  (gFor (gEnum (gNam 6)) (gtTup 2 (gtsCons (gtName 7) (gtsCons (gtName 8) gtsNil))) (gIfS (gAnd (gB (gBin (fEq false) (gVar 5) (gO (gC (.str "then"))))) (gB (gBin (fEq false) (gVar 7) (gO (gC (.int 0)))))) (gSetIx 2 (gV (gBin fIxU (gVar 6) (gO (gC (.int 1))))) (gVar 8)) (gIfS (gB (gBin (fInU false) (gVar 5) (gO (gTup (gsCons (gC (.str "while")) (gsCons (gC (.str "more")) (gsCons (gC (.str "each")) gsNil))))))) (gSetIx 2 (gNam 4) (gVar 8)) (gSetIx 2 (gV (gBin fIxU (gVar 2) (gVar 4))) (gVar 8)))) [7, 8])))
def numFrom : Nat → List D → List D
  | _, [] => []
  | k, d :: ds => .tup [.int (k : Int), d] :: numFrom (k + 1) ds
theorem enumD_num : ∀ (ds : List D), enumD ds = numFrom 0 ds := by
  have h : ∀ (ds : List D) (k : Nat), (List.range ds.length).map (fun i => D.tup [.int ((k + i : Nat) : Int), ds[i]?.getD .non]) = numFrom k ds := by
    intro ds
    induction ds with
    | nil => intro k; rfl
    | cons d ds ih =>
      intro k
      rw [List.length_cons, List.range_succ_eq_map, List.map_cons, List.map_map]
      show _ :: _ = D.tup [.int (k : Int), d] :: numFrom (k + 1) ds
      rw [← ih (k + 1)]
      congr 1
      apply List.map_congr_left
      intro i _
      simp [Nat.add_assoc, Nat.add_comm 1 i]
  intro ds
  rw [← h ds 0]
  simp [enumD]
theorem ixN_nat {n k : Nat} (h : k < n) : L2.ixN n (k : Int) = some k := by
  unfold L2.ixN
  have h1 : ¬ ((k : Int) < 0) := by omega
  have h2 : (k : Int) < n := by omega
  simp [h1, h2]
theorem atI_nat {I : List D} {s : Nat} {x : D} (h : I[s]? = some x) : L2.atI I (s : Int) = some x := by
  have h1 : s < I.length := by
    rcases Nat.lt_or_ge s I.length with q | q
    · exact q
    · rw [List.getElem?_eq_none q] at h
      cases h
  unfold L2.atI
  rw [ixN_nat h1]
  exact h
abbrev afS (ps I M : List D) : List SV := [.dat (.lst ps), .dat (.lst I), .own true (.lst M), .no, .no, .no, .no, .no, .no]
theorem af_leaf (ps I M rest : List D) (s : Nat) (h : H0) (hI : I[s]? = some (.tup [])) :
    forG afterT afterB [3, 4, 5, 6, 7, 8] (.tup [.int s, .tup (h.ds false)] :: rest) (afS ps I M) = forG afterT afterB [3, 4, 5, 6, 7, 8] rest (afS ps I M) := by
  have e := atI_nat hI
  have h1 : ∃ k xs, h.ds false = .str k :: xs := by cases h <;> exact ⟨_, _, rfl⟩
  obtain ⟨k, xs, h1⟩ := h1
  have h2 : enumD [] = [] := rfl
  rw [ev_for_cons]
  simp [afterT, afterB, h1, e, h2]
theorem enum1 (x : D) : enumD [x] = [.tup [.int 0, x]] := rfl
theorem enum2 (x y : D) : enumD [x, y] = [.tup [.int 0, x], .tup [.int 1, y]] := rfl
abbrev loopK : D := .tup [.str "while", .str "more", .str "each"]
theorem af_one (ps I M rest : List D) (s c : Nat) (h : H1) (x : D) (hI : I[s]? = some (.tup [.int (c : Int)])) (hc : c < M.length) :
    forG afterT afterB [3, 4, 5, 6, 7, 8] (.tup [.int s, .tup (h.ds false ++ [x])] :: rest) (afS ps I M) = forG afterT afterB [3, 4, 5, 6, 7, 8] rest (afS ps I (M.set c (.int s))) := by
  have e := atI_nat hI
  have e2 := ixN_nat hc
  have h1 : ∃ k xs, h.ds false ++ [x] = .str k :: xs ∧ fEq false (.str k) (.str "then") = some (.dat (.bl false)) ∧ fInU false (.str k) loopK = some (.dat (.bl true)) := by
    cases h
    · exact ⟨"more", _, rfl, by kernel_rfl, by kernel_rfl⟩
    · exact ⟨"each", _, rfl, by kernel_rfl, by kernel_rfl⟩
    · exact ⟨"while", _, rfl, by kernel_rfl, by kernel_rfl⟩
  obtain ⟨k, xs, h1, h2, h3⟩ := h1
  simp only [loopK] at h3
  rw [ev_for_cons, h1]
  simp [afterT, afterB, e, enum1, ev_for_cons, h2, h3, isOwnL, e2]
theorem af_then (ps I M rest : List D) (s c c2 : Nat) (x y : D) (b : D) (hI : I[s]? = some (.tup [.int (c : Int), .int (c2 : Int)])) (hc : c < M.length) (hc2 : c2 < M.length) (hs : s ≠ c) (hb : M[s]? = some b) :
    forG afterT afterB [3, 4, 5, 6, 7, 8] (.tup [.int s, .tup (H2.then.ds false ++ [x, y])] :: rest) (afS ps I M) = forG afterT afterB [3, 4, 5, 6, 7, 8] rest (afS ps I ((M.set c (.int (c2 : Int))).set c2 b)) := by
  have e := atI_nat hI
  have e2 := ixN_nat hc
  have e3 := ixN_nat (n := (M.set c (.int (c2 : Int))).length) (k := c2) (by simpa using hc2)
  have e4 : L2.atI (M.set c (.int (c2 : Int))) (s : Int) = some b := atI_nat (by rw [List.getElem?_set_ne (Ne.symm hs)]; exact hb)
  have h2 : fEq false (.str "then") (.str "then") = some (.dat (.bl true)) := by kernel_rfl
  have h3 : fInU false (.str "then") loopK = some (.dat (.bl false)) := by kernel_rfl
  simp only [loopK] at h3
  simp at e3
  rw [ev_for_cons]
  simp [afterT, afterB, e, enum2, ev_for_cons, h2, h3, isOwnL, e2, e3, e4, H2.ds]
theorem af_two (ps I M rest : List D) (s c c2 : Nat) (h : H2) (hh : h ≠ .then) (x y : D) (b : D) (hI : I[s]? = some (.tup [.int (c : Int), .int (c2 : Int)])) (hc : c < M.length) (hc2 : c2 < M.length) (hs : s ≠ c) (hb : M[s]? = some b) :
    forG afterT afterB [3, 4, 5, 6, 7, 8] (.tup [.int s, .tup (h.ds false ++ [x, y])] :: rest) (afS ps I M) = forG afterT afterB [3, 4, 5, 6, 7, 8] rest (afS ps I ((M.set c b).set c2 b)) := by
  have e := atI_nat hI
  have e2 := ixN_nat hc
  have e3 := ixN_nat (n := (M.set c b).length) (k := c2) (by simpa using hc2)
  have e4 : L2.atI (M.set c b) (s : Int) = some b := atI_nat (by rw [List.getElem?_set_ne (Ne.symm hs)]; exact hb)
  have e5 : L2.atI M (s : Int) = some b := atI_nat hb
  have h1 : ∃ k xs, h.ds false ++ [x, y] = .str k :: xs ∧ fEq false (.str k) (.str "then") = some (.dat (.bl false)) ∧ fInU false (.str k) loopK = some (.dat (.bl false)) := by
    cases h
    · exact absurd rfl hh
    · exact ⟨"own", _, rfl, by kernel_rfl, by kernel_rfl⟩
    · exact ⟨"other", _, rfl, by kernel_rfl, by kernel_rfl⟩
    · exact ⟨"if", _, rfl, by kernel_rfl, by kernel_rfl⟩
  obtain ⟨k, xs, h1, h2, h3⟩ := h1
  simp only [loopK] at h3
  simp at e3
  rw [ev_for_cons, h1]
  simp [afterT, afterB, e, enum2, ev_for_cons, h2, h3, isOwnL, e2, e3, e4, e5]
end G07
end M07h_text

section M07i_text
set_option maxHeartbeats 1000000
namespace G07
open PySem Pd
def follow : Tree → D → Nat → List D
  | .one _ a, b, s => b :: follow a (.int (s : Int)) (s + 1)
  | .two .then a c, b, s => b :: (follow a (.int ((s + 1 + a.size : Nat) : Int)) (s + 1) ++ follow c b (s + 1 + a.size))
  | .two _ a c, b, s => b :: (follow a b (s + 1) ++ follow c b (s + 1 + a.size))
  | _, b, _ => [b]
theorem size_pos (t : Tree) : 1 ≤ t.size := by cases t <;> simp [Tree.size]
theorem numFrom_app : ∀ (xs ys : List D) (k : Nat), numFrom k (xs ++ ys) = numFrom k xs ++ numFrom (k + xs.length) ys
  | [], ys, k => by simp [numFrom]
  | x :: xs, ys, k => by
    simp only [List.cons_append, numFrom, List.length_cons, numFrom_app xs ys (k + 1)]
    rw [show k + 1 + xs.length = k + (xs.length + 1) by omega]
theorem set_at {α : Type} (P : List α) (x y : α) (Q : List α) (c : Nat) (h : P.length = c) : (P ++ x :: Q).set c y = P ++ y :: Q := by
  subst h
  simp
abbrev AftOk (t : Tree) : Prop := ∀ (s : Nat) (b : D) (P R Q I pre post ps rest : List D), t.plain → P.length = s → R.length + 1 = t.size → I = pre ++ (inn t s ++ post) → pre.length = s →
  forG afterT afterB [3, 4, 5, 6, 7, 8] (numFrom s t.preD ++ rest) (afS ps I (P ++ b :: (R ++ Q))) = forG afterT afterB [3, 4, 5, 6, 7, 8] rest (afS ps I (P ++ (follow t b s ++ Q)))
theorem get_at (pre : List D) (x : D) (post : List D) (s : Nat) (h : pre.length = s) : (pre ++ x :: post)[s]? = some x := by
  subst h
  simp
theorem aft_leaf (h : H0) : AftOk (.leaf h) := by
  intro s b P R Q I pre post ps rest pl hP hR hI hp
  have hR0 : R = [] := List.eq_nil_of_length_eq_zero (by simp only [Tree.size] at hR; omega)
  subst hR0
  have e : I[s]? = some (.tup []) := by
    rw [hI]
    exact get_at pre _ post s hp
  exact af_leaf ps I (P ++ b :: Q) rest s h e
theorem aft_one (h : H1) (a : Tree) (IH : AftOk a) : AftOk (.one h a) := by
  intro s b P R Q I pre post ps rest pl hP hR hI hp
  have hz := size_pos a
  simp only [Tree.size] at hR
  obtain _ | ⟨r, R⟩ := R
  · simp at hR
    omega
  simp only [List.length_cons] at hR
  have e : I[s]? = some (.tup [.int ((s + 1 : Nat) : Int)]) := by
    rw [hI]
    exact get_at pre _ _ s hp
  have k := af_one ps I (P ++ b :: (r :: R ++ Q)) (numFrom (s + 1) a.preD ++ rest) s (s + 1) h (a.toD false) e (by simp; omega)
  show forG afterT afterB [3, 4, 5, 6, 7, 8] (.tup [.int s, .tup (h.ds false ++ [a.toD false])] :: (numFrom (s + 1) a.preD ++ rest)) _ = _
  rw [k]
  have e2 : (P ++ b :: (r :: R ++ Q)).set (s + 1) (.int (s : Int)) = (P ++ [b]) ++ D.int (s : Int) :: (R ++ Q) := by
    have := set_at (P ++ [b]) r (.int (s : Int)) (R ++ Q) (s + 1) (by simp; omega)
    simpa using this
  rw [e2]
  have k2 := IH (s + 1) (.int (s : Int)) (P ++ [b]) R Q I (pre ++ [.tup [.int ((s + 1 : Nat) : Int)]]) post ps rest pl (by simp; omega) (by omega) (by rw [hI]; simp [inn]) (by simp; omega)
  rw [k2]
  simp [follow]
theorem follow_len : ∀ (t : Tree) (b : D) (s : Nat), (follow t b s).length = t.size
  | .leaf _, b, s => rfl
  | .odd _ _, b, s => rfl
  | .one _ a, b, s => by simp [follow, Tree.size, follow_len a]
  | .two h a c, b, s => by cases h <;> simp [follow, Tree.size, follow_len a, follow_len c]
theorem aft_two (h : H2) (a c : Tree) (IH : AftOk a) (IH2 : AftOk c) : AftOk (.two h a c) := by
  intro s b P R Q I pre post ps rest pl hP hR hI hp
  have hz := size_pos a
  have hz2 := size_pos c
  simp only [Tree.size] at hR
  obtain _ | ⟨r, R⟩ := R
  · simp at hR
    omega
  simp only [List.length_cons] at hR
  obtain ⟨Ra, Rc, rfl, hRa⟩ : ∃ Ra Rc, R = Ra ++ Rc ∧ Ra.length + 1 = a.size := ⟨R.take (a.size - 1), R.drop (a.size - 1), (List.take_append_drop _ _).symm, by simp; omega⟩
  obtain _ | ⟨q, Rc⟩ := Rc
  · simp at hR
    omega
  simp at hR
  have e : I[s]? = some (.tup [.int ((s + 1 : Nat) : Int), .int ((s + 1 + a.size : Nat) : Int)]) := by
    rw [hI]
    exact get_at pre _ _ s hp
  have hb : (P ++ b :: (r :: (Ra ++ q :: Rc) ++ Q))[s]? = some b := get_at P _ _ s hP
  have step : ∃ v, forG afterT afterB [3, 4, 5, 6, 7, 8] (.tup [.int s, .tup (h.ds false ++ [a.toD false, c.toD false])] :: (numFrom (s + 1) (a.preD ++ c.preD) ++ rest)) (afS ps I (P ++ b :: (r :: (Ra ++ q :: Rc) ++ Q))) =
      forG afterT afterB [3, 4, 5, 6, 7, 8] (numFrom (s + 1) (a.preD ++ c.preD) ++ rest) (afS ps I (((P ++ b :: (r :: (Ra ++ q :: Rc) ++ Q)).set (s + 1) v).set (s + 1 + a.size) b)) ∧
      follow (.two h a c) b s = b :: (follow a v (s + 1) ++ follow c b (s + 1 + a.size)) := by
    cases h
    · exact ⟨_, af_then ps I _ _ s (s + 1) (s + 1 + a.size) _ _ b e (by simp; omega) (by simp; omega) (by omega) hb, rfl⟩
    · exact ⟨_, af_two ps I _ _ s (s + 1) (s + 1 + a.size) _ (by intro z; cases z) _ _ b e (by simp; omega) (by simp; omega) (by omega) hb, rfl⟩
    · exact ⟨_, af_two ps I _ _ s (s + 1) (s + 1 + a.size) _ (by intro z; cases z) _ _ b e (by simp; omega) (by simp; omega) (by omega) hb, rfl⟩
    · exact ⟨_, af_two ps I _ _ s (s + 1) (s + 1 + a.size) _ (by intro z; cases z) _ _ b e (by simp; omega) (by simp; omega) (by omega) hb, rfl⟩
  obtain ⟨v, k, ef⟩ := step
  have e0 : numFrom s (Tree.preD (.two h a c)) ++ rest = .tup [.int s, .tup (h.ds false ++ [a.toD false, c.toD false])] :: (numFrom (s + 1) (a.preD ++ c.preD) ++ rest) := by
    simp [Tree.preD, Tree.pre, numFrom, Tree.toD, mk]
  rw [e0, k, ef]
  have e2 : ((P ++ b :: (r :: (Ra ++ q :: Rc) ++ Q)).set (s + 1) v).set (s + 1 + a.size) b = (P ++ [b]) ++ v :: (Ra ++ (b :: (Rc ++ Q))) := by
    have h1 := set_at (P ++ [b]) r v (Ra ++ q :: (Rc ++ Q)) (s + 1) (by simp; omega)
    have h2 := set_at (P ++ b :: v :: Ra) q b (Rc ++ Q) (s + 1 + a.size) (by simp; omega)
    simp at h1 h2
    simp [h1, h2]
  rw [e2, numFrom_app, List.append_assoc]
  have k2 := IH (s + 1) v (P ++ [b]) Ra (b :: (Rc ++ Q)) I (pre ++ [.tup [.int ((s + 1 : Nat) : Int), .int ((s + 1 + a.size : Nat) : Int)]]) (inn c (s + 1 + a.size) ++ post) ps (numFrom (s + 1 + a.preD.length) c.preD ++ rest) pl.1 (by simp; omega) hRa (by rw [hI]; simp [inn]) (by simp; omega)
  rw [k2, Tree.preD_len]
  have k3 := IH2 (s + 1 + a.size) b (P ++ [b] ++ follow a v (s + 1)) Rc Q I (pre ++ .tup [.int ((s + 1 : Nat) : Int), .int ((s + 1 + a.size : Nat) : Int)] :: inn a (s + 1)) post ps rest pl.2 (by simp [follow_len]; omega) (by omega) (by rw [hI]; simp [inn]) (by simp [inn_len]; omega)
  rw [← List.append_assoc (P ++ [b]), k3]
  simp
theorem aft_ok : ∀ t : Tree, AftOk t
  | .leaf h => aft_leaf h
  | .one h a => aft_one h a (aft_ok a)
  | .two h a b => aft_two h a b (aft_ok a) (aft_ok b)
  | .odd _ _ => fun _ _ _ _ _ _ _ _ _ _ pl => absurd pl (by simp [Tree.plain])
theorem comp_const (ps : List D) (T I : SV) (n : Int) : ∀ (es acc : List D), acc.length + es.length ≤ 1000 → (ps.length : Int) = n →
    compG (gtName 3) gYes (gV (gCall fLen (gaCons (gVar 0) gaNil))) [3] es acc [.dat (.lst ps), I, T, .no, .no, .no, .no, .no, .no] = .ok (acc ++ List.replicate es.length (.int n)) [.dat (.lst ps), I, T, .no, .no, .no, .no, .no, .no]
  | [], acc, h, hn => by simp
  | e :: es, acc, h, hn => by
    simp only [List.length_cons] at h
    have h1 : Fits acc.length := fits_sm (by omega)
    have J := comp_const ps T I n es (acc ++ [.int n]) (by simp; omega) hn
    simp [ev_comp_cons, h1, J, hn, List.replicate_succ]
end G07
end M07i_text

section M07j_text
set_option maxHeartbeats 1000000
namespace G07
open PySem Pd
theorem after_ok (t : Tree) (pl : t.plain) (hs : t.size ≤ 900) :
    m_after_spots [.dat (.lst t.preD), .dat (.lst (inn t 0))] = .ret (.dat (.tup (follow t (.int (t.size : Int)) 0))) [.dat (.lst t.preD), .dat (.lst (inn t 0))] := by
  have c := comp_const t.preD .no (.dat (.lst (inn t 0))) (t.size : Int) t.preD [] (by simp [Tree.preD_len]; omega) (by simp [Tree.preD_len])
  have hz := size_pos t
  have e1 : List.replicate t.size (D.int (t.size : Int)) = D.int (t.size : Int) :: (List.replicate (t.size - 1) (D.int (t.size : Int)) ++ []) := by
    rw [List.append_nil, ← List.replicate_succ]
    congr 1
    omega
  have k := aft_ok t 0 (.int (t.size : Int)) [] (List.replicate (t.size - 1) (.int (t.size : Int))) [] (inn t 0) [] [] t.preD [] pl rfl (by simp; omega) (by simp) rfl
  simp only [List.nil_append, List.append_nil, afS] at k e1
  rw [← e1] at k
  simp only [afterT, afterB] at k
  simp [m_after_spots, g_after_spots, runBody, isOwn, isOwnL, D.items, c, Tree.preD_len, enumD_num, k]
theorem followers_ok (l : Bool) (t : Tree) (ok : t.ok) : m_followers [.dat (t.toD l)] = match walkT t 0 0 with
    | .ok _ => .ret (.dat (.tup (follow t (.int (t.size : Int)) 0))) [.dat (t.toD l)]
    | .error e => .exc (badDeal e) [.dat (t.toD l)] := by
  have h := checked_ok l t ok
  cases hw : walkT t 0 0 with
  | error e =>
    rw [hw] at h
    simp at h
    simp [m_followers, g_followers, runBody, isOwn, isOwnL, h]
  | ok s1 =>
    rw [hw] at h
    simp at h
    obtain ⟨p, e, h1, h2⟩ := walkT_ok t _ _ _ hw
    have k := all_ok t 32 p (by omega) (by omega)
    have k2 := inn_ok t 32 0 p (by omega) (by omega)
    have k3 := after_ok t p (by omega)
    simp at k2
    simp [m_followers, g_followers, runBody, isOwn, isOwnL, h, k, k2, k3]
end G07
end M07j_text

section M07k_text
set_option maxHeartbeats 1000000
namespace G07
open PySem Pd
abbrev menuA : D := .dic [(.inr "then"), (.inr "own"), (.inr "other"), (.inr "if"), (.inr "while"), (.inr "more"), (.inr "each")] [(.int 2), (.int 2), (.int 2), (.int 2), (.int 1), (.int 1), (.int 1)]
theorem larms_pass : m__law_arms [.dat (.tup (H0.pass.ds false))] = .ret (.own true (.lst [])) [.dat (.tup (H0.pass.ds false))] := by
  have h2 : fInU false (.str "pass") menuA = some (.dat (.bl false)) := by kernel_rfl
  simp only [menuA] at h2
  simp [m__law_arms, g__law_arms, runBody, isOwn, isOwnL, H0.ds, h2, Cn.toD]
theorem larms_lose : m__law_arms [.dat (.tup (H0.lose.ds false))] = .ret (.own true (.lst [])) [.dat (.tup (H0.lose.ds false))] := by
  have h2 : fInU false (.str "lose") menuA = some (.dat (.bl false)) := by kernel_rfl
  simp only [menuA] at h2
  simp [m__law_arms, g__law_arms, runBody, isOwn, isOwnL, H0.ds, h2, Cn.toD]
theorem larms_win : m__law_arms [.dat (.tup (H0.win.ds false))] = .ret (.own true (.lst [])) [.dat (.tup (H0.win.ds false))] := by
  have h2 : fInU false (.str "win") menuA = some (.dat (.bl false)) := by kernel_rfl
  simp only [menuA] at h2
  simp [m__law_arms, g__law_arms, runBody, isOwn, isOwnL, H0.ds, h2, Cn.toD]
theorem larms_deed (x : Str) : m__law_arms [.dat (.tup ((H0.deed x).ds false))] = .ret (.own true (.lst [])) [.dat (.tup ((H0.deed x).ds false))] := by
  have h2 : fInU false (.str "deed") menuA = some (.dat (.bl false)) := by kernel_rfl
  simp only [menuA] at h2
  simp [m__law_arms, g__law_arms, runBody, isOwn, isOwnL, H0.ds, h2, Cn.toD]
theorem larms_need (s : Say) : m__law_arms [.dat (.tup ((H0.need s).ds false))] = .ret (.own true (.lst [])) [.dat (.tup ((H0.need s).ds false))] := by
  have h2 : fInU false (.str "need") menuA = some (.dat (.bl false)) := by kernel_rfl
  simp only [menuA] at h2
  simp [m__law_arms, g__law_arms, runBody, isOwn, isOwnL, H0.ds, h2, Cn.toD]
theorem larms_grant (s : Say) : m__law_arms [.dat (.tup ((H0.grant s).ds false))] = .ret (.own true (.lst [])) [.dat (.tup ((H0.grant s).ds false))] := by
  have h2 : fInU false (.str "grant") menuA = some (.dat (.bl false)) := by kernel_rfl
  simp only [menuA] at h2
  simp [m__law_arms, g__law_arms, runBody, isOwn, isOwnL, H0.ds, h2, Cn.toD]
theorem larms_then (a : D) (b : D) : m__law_arms [.dat (.tup ((H2.then).ds false ++ [a, b]))] = .ret (.own true (.lst [a, b])) [.dat (.tup ((H2.then).ds false ++ [a, b]))] := by
  have h2 : fInU false (.str "then") menuA = some (.dat (.bl true)) := by kernel_rfl
  have h3 : fIxU menuA (.str "then") = some (.dat (.int 2)) := by kernel_rfl
  have h4 : fSl (.tup ((H2.then).ds false ++ [a, b])) (some (3 - 2)) none = some (.dat (.tup [a, b])) := by rfl
  simp [H2.ds] at h4
  simp only [menuA] at h2 h3
  simp [m__law_arms, g__law_arms, runBody, isOwn, isOwnL, H2.ds, h2, h3, h4, Cn.toD]
theorem larms_own (a : D) (b : D) : m__law_arms [.dat (.tup ((H2.own).ds false ++ [a, b]))] = .ret (.own true (.lst [a, b])) [.dat (.tup ((H2.own).ds false ++ [a, b]))] := by
  have h2 : fInU false (.str "own") menuA = some (.dat (.bl true)) := by kernel_rfl
  have h3 : fIxU menuA (.str "own") = some (.dat (.int 2)) := by kernel_rfl
  have h4 : fSl (.tup ((H2.own).ds false ++ [a, b])) (some (3 - 2)) none = some (.dat (.tup [a, b])) := by rfl
  simp [H2.ds] at h4
  simp only [menuA] at h2 h3
  simp [m__law_arms, g__law_arms, runBody, isOwn, isOwnL, H2.ds, h2, h3, h4, Cn.toD]
theorem larms_other (a : D) (b : D) : m__law_arms [.dat (.tup ((H2.other).ds false ++ [a, b]))] = .ret (.own true (.lst [a, b])) [.dat (.tup ((H2.other).ds false ++ [a, b]))] := by
  have h2 : fInU false (.str "other") menuA = some (.dat (.bl true)) := by kernel_rfl
  have h3 : fIxU menuA (.str "other") = some (.dat (.int 2)) := by kernel_rfl
  have h4 : fSl (.tup ((H2.other).ds false ++ [a, b])) (some (3 - 2)) none = some (.dat (.tup [a, b])) := by rfl
  simp [H2.ds] at h4
  simp only [menuA] at h2 h3
  simp [m__law_arms, g__law_arms, runBody, isOwn, isOwnL, H2.ds, h2, h3, h4, Cn.toD]
theorem larms_if (s : Say) (a : D) (b : D) : m__law_arms [.dat (.tup (((H2.if s)).ds false ++ [a, b]))] = .ret (.own true (.lst [a, b])) [.dat (.tup (((H2.if s)).ds false ++ [a, b]))] := by
  have h2 : fInU false (.str "if") menuA = some (.dat (.bl true)) := by kernel_rfl
  have h3 : fIxU menuA (.str "if") = some (.dat (.int 2)) := by kernel_rfl
  have h4 : fSl (.tup (((H2.if s)).ds false ++ [a, b])) (some (4 - 2)) none = some (.dat (.tup [a, b])) := by rfl
  simp [H2.ds] at h4
  simp only [menuA] at h2 h3
  simp [m__law_arms, g__law_arms, runBody, isOwn, isOwnL, H2.ds, h2, h3, h4, Cn.toD]
theorem larms_while (s : Say) (a : D) : m__law_arms [.dat (.tup (((H1.while s)).ds false ++ [a]))] = .ret (.own true (.lst [a])) [.dat (.tup (((H1.while s)).ds false ++ [a]))] := by
  have h2 : fInU false (.str "while") menuA = some (.dat (.bl true)) := by kernel_rfl
  have h3 : fIxU menuA (.str "while") = some (.dat (.int 1)) := by kernel_rfl
  have h4 : fSl (.tup (((H1.while s)).ds false ++ [a])) (some (3 - 1)) none = some (.dat (.tup [a])) := by rfl
  simp [H1.ds] at h4
  simp only [menuA] at h2 h3
  simp [m__law_arms, g__law_arms, runBody, isOwn, isOwnL, H1.ds, h2, h3, h4, Cn.toD]
theorem larms_more (a : D) : m__law_arms [.dat (.tup ((H1.more).ds false ++ [a]))] = .ret (.own true (.lst [a])) [.dat (.tup ((H1.more).ds false ++ [a]))] := by
  have h2 : fInU false (.str "more") menuA = some (.dat (.bl true)) := by kernel_rfl
  have h3 : fIxU menuA (.str "more") = some (.dat (.int 1)) := by kernel_rfl
  have h4 : fSl (.tup ((H1.more).ds false ++ [a])) (some (2 - 1)) none = some (.dat (.tup [a])) := by rfl
  simp [H1.ds] at h4
  simp only [menuA] at h2 h3
  simp [m__law_arms, g__law_arms, runBody, isOwn, isOwnL, H1.ds, h2, h3, h4, Cn.toD]
theorem larms_each (a : D) : m__law_arms [.dat (.tup ((H1.each).ds false ++ [a]))] = .ret (.own true (.lst [a])) [.dat (.tup ((H1.each).ds false ++ [a]))] := by
  have h2 : fInU false (.str "each") menuA = some (.dat (.bl true)) := by kernel_rfl
  have h3 : fIxU menuA (.str "each") = some (.dat (.int 1)) := by kernel_rfl
  have h4 : fSl (.tup ((H1.each).ds false ++ [a])) (some (2 - 1)) none = some (.dat (.tup [a])) := by rfl
  simp [H1.ds] at h4
  simp only [menuA] at h2 h3
  simp [m__law_arms, g__law_arms, runBody, isOwn, isOwnL, H1.ds, h2, h3, h4, Cn.toD]
theorem larms0 (h : H0) : m__law_arms [.dat (.tup (h.ds false))] = .ret (.own true (.lst [])) [.dat (.tup (h.ds false))] :=
  match h with
  | .pass => larms_pass
  | .lose => larms_lose
  | .win => larms_win
  | .deed x => larms_deed x
  | .need s => larms_need s
  | .grant s => larms_grant s
theorem larms1 (h : H1) (a : D) : m__law_arms [.dat (.tup (h.ds false ++ [a]))] = .ret (.own true (.lst [a])) [.dat (.tup (h.ds false ++ [a]))] :=
  match h with
  | .more => larms_more a
  | .each => larms_each a
  | .while s => larms_while s a
theorem larms2 (h : H2) (a b : D) : m__law_arms [.dat (.tup (h.ds false ++ [a, b]))] = .ret (.own true (.lst [a, b])) [.dat (.tup (h.ds false ++ [a, b]))] :=
  match h with
  | .then => larms_then a b
  | .own => larms_own a b
  | .other => larms_other a b
  | .if s => larms_if s a b
end G07
end M07k_text

section M07l_text
set_option maxHeartbeats 1000000
namespace G07
open PySem Pd
def ArmsNil (d : D) : Prop := m__law_arms [.dat d] = .ret (.own true (.lst [])) [.dat d]
def Tree.tame : Tree → Prop
  | .leaf _ => True
  | .one _ a => a.tame
  | .two _ a b => a.tame ∧ b.tame
  | .odd d _ => ArmsNil d
theorem tame_of : ∀ t : Tree, t.plain → t.tame
  | .leaf _, _ => trivial
  | .one _ a, p => tame_of a p
  | .two _ a b, p => ⟨tame_of a p.1, tame_of b p.2⟩
  | .odd _ _, p => absurd p (by simp [Tree.plain])
theorem Tree.plain.tame {t : Tree} (p : t.plain) : t.tame := tame_of t p
abbrev LPartsOk (t : Tree) : Prop := ∀ n, t.tame → t.height < n → t.size ≤ 900 →
  m__law_parts n [.dat (t.toD false)] = .ret (.own true (.lst t.preD)) [.dat (t.toD false)]
theorem lparts_leaf (h : H0) : LPartsOk (.leaf h) := by
  intro n pl hn hs
  obtain _ | n := n
  · exact absurd hn (by simp)
  have k := larms0 h
  simp [m__law_parts, g__law_parts, runBody, isOwn, isOwnL, Tree.toD, mk, k, D.items, Tree.preD, Tree.pre, Cn.toD]
theorem lparts_one (h : H1) (a : Tree) (IH : LPartsOk a) : LPartsOk (.one h a) := by
  intro n pl hn hs
  obtain _ | n := n
  · exact absurd hn (by simp)
  simp only [Tree.height, Tree.size] at hn hs
  have k := larms1 h (a.toD false)
  have I := IH n pl (by omega) (by omega)
  have f2 : Fits (1 + a.size) := fits_sm (by omega)
  simp [m__law_parts, g__law_parts, runBody, isOwn, isOwnL, Tree.toD, mk, k, D.items, ev_for_cons, fAdd, I, Tree.preD_len, f2, Cn.toD]
  simp [Tree.preD, Tree.pre, Tree.toD, mk]
theorem lparts_two (h : H2) (a b : Tree) (IH : LPartsOk a) (IH2 : LPartsOk b) : LPartsOk (.two h a b) := by
  intro n pl hn hs
  obtain _ | n := n
  · exact absurd hn (by simp)
  simp only [Tree.height, Tree.size] at hn hs
  have k := larms2 h (a.toD false) (b.toD false)
  have I := IH n pl.1 (by omega) (by omega)
  have I2 := IH2 n pl.2 (by omega) (by omega)
  have f1 : Fits (1 + a.size) := fits_sm (by omega)
  have f2 : Fits (a.size + 1 + b.size) := fits_sm (by omega)
  have f3 : Fits (a.size + b.size + 1) := fits_sm (by omega)
  have f4 : Fits (1 + a.size + b.size) := fits_sm (by omega)
  have f5 : Fits (1 + (a.size + b.size)) := fits_sm (by omega)
  simp [m__law_parts, g__law_parts, runBody, isOwn, isOwnL, Tree.toD, mk, k, D.items, ev_for_cons, fAdd, I, I2, Tree.preD_len, f1, f2, f3, f4, f5, Cn.toD]
  simp [Tree.preD, Tree.pre, Tree.toD, mk]
theorem lparts_ok : ∀ t : Tree, LPartsOk t
  | .leaf h => lparts_leaf h
  | .one h a => lparts_one h a (lparts_ok a)
  | .two h a b => lparts_two h a b (lparts_ok a) (lparts_ok b)
  | .odd d dl => fun n pl hn hs => by
    obtain _ | n := n
    · exact absurd hn (by simp)
    have k : m__law_arms [.dat d] = .ret (.own true (.lst [])) [.dat d] := pl
    simp [m__law_parts, g__law_parts, runBody, isOwn, isOwnL, Tree.toD, k, D.items, Tree.preD, Tree.pre, Cn.toD]
end G07
end M07l_text

section M07m_text
set_option maxHeartbeats 1000000
namespace G07
open PySem Pd
theorem fit62_1 : Fit62 1 := by decide +kernel
theorem fit62_2 : Fit62 2 := by decide +kernel
abbrev LFolOk (t : Tree) : Prop := ∀ (n : Nat) (b : Int) (s : Nat), t.plain → t.height < n → t.height < 32 → t.size ≤ 900 →
  m__law_follow n [.dat (t.toD false), .dat (.int b), .dat (.int s)] = .ret (.own true (.lst (follow t (.int b) s))) [.dat (t.toD false), .dat (.int b), .dat (.int s)]
theorem lfol_leaf (h : H0) : LFolOk (.leaf h) := by
  intro n b s pl hn hn2 hs
  obtain _ | n := n
  · exact absurd hn (by simp)
  have k := larms0 h
  have h1 : ∃ k xs, h.ds false = .str k :: xs := by cases h <;> exact ⟨_, _, rfl⟩
  obtain ⟨kd, xs, h1⟩ := h1
  rw [h1] at k
  have f : Fit62 0 := by decide +kernel
  have r : rng 0 0 = [] := rfl
  simp [m__law_follow, g__law_follow, runBody, isOwn, isOwnL, Tree.toD, mk, h1, k, follow, Cn.toD, f, r]
theorem lfol_one (h : H1) (a : Tree) (IH : LFolOk a) : LFolOk (.one h a) := by
  intro n b s pl hn hn2 hs
  obtain _ | n := n
  · exact absurd hn (by simp)
  simp only [Tree.height, Tree.size] at hn hs hn2
  have k := larms1 h (a.toD false)
  have h1 : ∃ k xs, h.ds false ++ [a.toD false] = .str k :: xs ∧ fEq false (.str k) (.str "then") = some (.dat (.bl false)) ∧ fInU false (.str k) loopK = some (.dat (.bl true)) := by
    cases h
    · exact ⟨"more", _, rfl, by kernel_rfl, by kernel_rfl⟩
    · exact ⟨"each", _, rfl, by kernel_rfl, by kernel_rfl⟩
    · exact ⟨"while", _, rfl, by kernel_rfl, by kernel_rfl⟩
  obtain ⟨kd, xs, h1, h2, h3⟩ := h1
  simp only [loopK] at h3
  have e0 : (Tree.one h a).toD false = .tup (.str kd :: xs) := by rw [← h1]; rfl
  rw [h1] at k
  have I := IH n s (s + 1) pl (by omega) (by omega) (by omega)
  have L := lparts_ok a 32 pl.tame (by omega) (by omega)
  have r : rng 0 1 = [.int 0] := rfl
  have f : Fits (1 + a.size) := fits_sm (by omega)
  simp at I
  simp [m__law_follow, g__law_follow, runBody, isOwn, isOwnL, e0, k, follow, Cn.toD, fit62_1, r, ev_for_cons, h2, h3, I, L, Tree.preD_len, fAdd, follow_len, f]
theorem lfol_two (h : H2) (a c : Tree) (IH : LFolOk a) (IH2 : LFolOk c) : LFolOk (.two h a c) := by
  intro n b s pl hn hn2 hs
  obtain _ | n := n
  · exact absurd hn (by simp)
  simp only [Tree.height, Tree.size] at hn hs hn2
  have k := larms2 h (a.toD false) (c.toD false)
  have h1 : ∃ kd xs bb, h.ds false ++ [a.toD false, c.toD false] = .str kd :: xs ∧ fEq false (.str kd) (.str "then") = some (.dat (.bl bb)) ∧ fInU false (.str kd) loopK = some (.dat (.bl false)) ∧
      follow (.two h a c) (.int b) s = .int b :: (follow a (.int (if bb then ((s + 1 + a.size : Nat) : Int) else b)) (s + 1) ++ follow c (.int b) (s + 1 + a.size)) := by
    cases h
    · exact ⟨"then", _, true, rfl, by kernel_rfl, by kernel_rfl, rfl⟩
    · exact ⟨"own", _, false, rfl, by kernel_rfl, by kernel_rfl, rfl⟩
    · exact ⟨"other", _, false, rfl, by kernel_rfl, by kernel_rfl, rfl⟩
    · exact ⟨"if", _, false, rfl, by kernel_rfl, by kernel_rfl, rfl⟩
  obtain ⟨kd, xs, bb, h1, h2, h3, h4⟩ := h1
  simp only [loopK] at h3
  have e0 : (Tree.two h a c).toD false = .tup (.str kd :: xs) := by rw [← h1]; rfl
  rw [h1] at k
  have I := IH n (if bb then ((s + 1 + a.size : Nat) : Int) else b) (s + 1) pl.1 (by omega) (by omega) (by omega)
  have I2 := IH2 n b (s + 1 + a.size) pl.2 (by omega) (by omega) (by omega)
  have L := lparts_ok a 32 pl.1.tame (by omega) (by omega)
  have L2 := lparts_ok c 32 pl.2.tame (by omega) (by omega)
  have r : rng 0 2 = [.int 0, .int 1] := rfl
  have f : Fits (1 + a.size) := fits_sm (by omega)
  have f1 : Fits (a.size + 1 + c.size) := fits_sm (by omega)
  have f3 : Fits (a.size + c.size + 1) := fits_sm (by omega)
  have f4 : Fits (1 + a.size + c.size) := fits_sm (by omega)
  have f5 : Fits (1 + (a.size + c.size)) := fits_sm (by omega)
  rw [h4]
  cases bb <;> simp at I I2 <;>
  simp [m__law_follow, g__law_follow, runBody, isOwn, isOwnL, e0, k, Cn.toD, fit62_2, r, ev_for_cons, h2, h3, I, I2, L, L2, Tree.preD_len, fAdd, follow_len, f, f1, f3, f4, f5]
theorem lfol_ok : ∀ t : Tree, LFolOk t
  | .leaf h => lfol_leaf h
  | .one h a => lfol_one h a (lfol_ok a)
  | .two h a b => lfol_two h a b (lfol_ok a) (lfol_ok b)
  | .odd _ _ => fun _ _ _ pl => absurd pl (by simp [Tree.plain])
end G07
end M07m_text

section M07n_text
set_option maxHeartbeats 1000000
namespace G07
open PySem Pd
/-- _law_lists -/
def isD (sv : SV) (y : D) : Prop := sv = .dat y ∨ ∃ b c, sv = .own b c ∧ c.toD = y
def LD (n : Nat) (x y : D) : Prop := ∃ sv, m__law_lists n [.dat x] = .ret sv [.dat x] ∧ isD sv y
theorem lists_str (n : Nat) (x : Str) : LD (n + 1) (.str x) (.str x) := by
  have h : fIsi [("NoneType", false), ("bool", false), ("int", false), ("str", false), ("tuple", true), ("list", false), ("dict", false)] (.str x) = some (.dat (.bl false)) := rfl
  exact ⟨_, by simp [m__law_lists, g__law_lists, runBody, isOwn, isOwnL, h, D.truth], .inl rfl⟩
def LDs (n : Nat) : List D → List D → Prop
  | [], [] => True
  | x :: xs, y :: ys => LD n x y ∧ LDs n xs ys
  | _, _ => False
theorem lists_comp (n : Nat) (T : SV) : ∀ (xs ys acc : List D), LDs n xs ys → acc.length + xs.length ≤ 1000 →
    compG (gtName 1) gYes (gV (gCallF (m__law_lists n) [] (gaCons (gVar 1) gaNil))) [1] xs acc [T, .no] = .ok (acc ++ ys) [T, .no]
  | [], [], acc, _, h => by simp
  | x :: xs, y :: ys, acc, ⟨h1, h2⟩, h => by
    simp only [List.length_cons] at h
    have f : Fits acc.length := fits_sm (by omega)
    have I := lists_comp n T xs ys (acc ++ [y]) h2 (by simp; omega)
    obtain ⟨sv, e, q⟩ := h1
    rcases q with rfl | ⟨b, c, rfl, rfl⟩
    · simp [ev_comp_cons, f, e, I]
    · simp [ev_comp_cons, f, e, I]
theorem lists_tup (n : Nat) (xs ys : List D) (h : LDs n xs ys) (hl : xs.length ≤ 1000) : LD (n + 1) (.tup xs) (.lst ys) := by
  have h1 : fIsi [("NoneType", false), ("bool", false), ("int", false), ("str", false), ("tuple", true), ("list", false), ("dict", false)] (.tup xs) = some (.dat (.bl true)) := rfl
  have k := lists_comp n (.dat (.tup xs)) xs ys [] h (by simpa using hl)
  exact ⟨.own true (.lst ys), by simp [m__law_lists, g__law_lists, runBody, isOwn, isOwnL, h1, D.truth, D.items, k], .inr ⟨_, _, rfl, rfl⟩⟩
theorem lists_say : ∀ (s : Say) (n : Nat), s.height + 2 ≤ n → LD n (s.toD false) (s.toD true)
  | .yes, n + 2, _ => lists_tup (n + 1) _ _ ⟨lists_str n _, trivial⟩ (by decide)
  | .no, n + 2, _ => lists_tup (n + 1) _ _ ⟨lists_str n _, trivial⟩ (by decide)
  | .fact x, n + 2, _ => lists_tup (n + 1) _ _ ⟨lists_str n _, lists_str n _, trivial⟩ (by simp)
  | .neg a, n + 2, h => lists_tup (n + 1) _ _ ⟨lists_str n _, lists_say a (n + 1) (by simp only [Say.height] at h; omega), trivial⟩ (by simp)
  | .and a b, n + 2, h => lists_tup (n + 1) _ _ ⟨lists_str n _, lists_say a (n + 1) (by simp only [Say.height] at h; omega), lists_say b (n + 1) (by simp only [Say.height] at h; omega), trivial⟩ (by simp)
  | .or a b, n + 2, h => lists_tup (n + 1) _ _ ⟨lists_str n _, lists_say a (n + 1) (by simp only [Say.height] at h; omega), lists_say b (n + 1) (by simp only [Say.height] at h; omega), trivial⟩ (by simp)
  | .yes, 1, h => absurd h (by simp)
  | .no, 1, h => absurd h (by simp)
  | .fact x, 1, h => absurd h (by simp)
  | .neg a, 1, h => absurd h (by simp)
  | .and a b, 1, h => absurd h (by simp)
  | .or a b, 1, h => absurd h (by simp)
  | .yes, 0, h => absurd h (by simp)
  | .no, 0, h => absurd h (by simp)
  | .fact x, 0, h => absurd h (by simp)
  | .neg a, 0, h => absurd h (by simp)
  | .and a b, 0, h => absurd h (by simp)
  | .or a b, 0, h => absurd h (by simp)
theorem LDs_app (n : Nat) : ∀ (xs ys xs' ys' : List D), LDs n xs ys → LDs n xs' ys' → LDs n (xs ++ xs') (ys ++ ys')
  | [], [], _, _, _, h => h
  | x :: xs, y :: ys, xs', ys', ⟨h1, h2⟩, h => ⟨h1, LDs_app n xs ys xs' ys' h2 h⟩
theorem lists_h0 (n : Nat) (hn : 6 ≤ n) (h : H0) (ok : h.ok) : LDs n (h.ds false) (h.ds true) := by
  obtain ⟨m, rfl⟩ : ∃ m, n = m + 1 := ⟨n - 1, by omega⟩
  cases h with
  | need s => exact ⟨lists_str m _, lists_say s _ (by have := ok.2.1; omega), trivial⟩
  | grant s => exact ⟨lists_str m _, lists_say s _ (by have := ok.2.1; omega), trivial⟩
  | deed x => exact ⟨lists_str m _, lists_str m _, trivial⟩
  | _ => exact ⟨lists_str m _, trivial⟩
theorem lists_h1 (n : Nat) (hn : 6 ≤ n) (h : H1) (ok : h.ok) : LDs n (h.ds false) (h.ds true) := by
  obtain ⟨m, rfl⟩ : ∃ m, n = m + 1 := ⟨n - 1, by omega⟩
  cases h with
  | «while» s => exact ⟨lists_str m _, lists_say s _ (by have := ok.2.1; omega), trivial⟩
  | _ => exact ⟨lists_str m _, trivial⟩
theorem lists_h2 (n : Nat) (hn : 6 ≤ n) (h : H2) (ok : h.ok) : LDs n (h.ds false) (h.ds true) := by
  obtain ⟨m, rfl⟩ : ∃ m, n = m + 1 := ⟨n - 1, by omega⟩
  cases h with
  | «if» s => exact ⟨lists_str m _, lists_say s _ (by have := ok.2.1; omega), trivial⟩
  | _ => exact ⟨lists_str m _, trivial⟩
end G07
end M07n_text

section M07o_text
set_option maxHeartbeats 1000000
namespace G07
open PySem Pd
/-- the tree with another one at a spot -/
def putT : Tree → Nat → Tree → Tree
  | t, 0, p => p
  | .one h a, s + 1, p => .one h (putT a s p)
  | .two h a b, s + 1, p => if s < a.size then .two h (putT a s p) b else .two h a (putT b (s - a.size) p)
  | t, _ + 1, _ => t
abbrev PutOk (t : Tree) : Prop := ∀ (n s : Nat) (p : Tree), t.tame → t.height < n → t.height < 32 → t.size ≤ 900 → s < t.size →
  m__law_put_at n [.dat (t.toD false), .dat (.int s), .dat (p.toD false)] = .ret (.dat ((putT t s p).toD false)) [.dat (t.toD false), .dat (.int s), .dat (p.toD false)]
theorem put_zero (n : Nat) (x y : D) : m__law_put_at (n + 1) [.dat x, .dat (.int 0), .dat y] = .ret (.dat y) [.dat x, .dat (.int 0), .dat y] := by
  simp [m__law_put_at, g__law_put_at, runBody, isOwn, isOwnL]
theorem put_one (h : H1) (a : Tree) (IH : PutOk a) : PutOk (.one h a) := by
  intro n s p pl hn hn2 hs hlt
  obtain _ | n := n
  · exact absurd hn (by simp)
  obtain _ | s := s
  · exact put_zero n _ _
  simp only [Tree.height, Tree.size] at hn hs hn2 hlt
  have k := larms1 h (a.toD false)
  have I := IH n s p pl (by omega) (by omega) (by omega) (by omega)
  have L := lparts_ok a 32 pl (by omega) (by omega)
  have f1 : Fits (h.ds false).length := fits_sm (by have := ds_len1 h; omega)
  have c : cutD (h.ds false ++ [a.toD false]) none (some ((h.ds false).length : Int)) = h.ds false := by cases h <;> rfl
  have e1 : ((s : Int) + 1 == 0) = false := by simp; omega
  have e2 : ((h.ds false).length : Int) + 1 - 1 = (h.ds false).length := by omega
  have e3 : (s : Int) + 1 - 1 = s := by omega
  have e4 : (1 : Int) ≤ s + 1 := by omega
  have e5 : (s : Int) + 1 < 1 + a.size := by omega
  simp [m__law_put_at, g__law_put_at, runBody, isOwn, isOwnL, Tree.toD, mk, k, D.items, ev_for_cons, I, L, Tree.preD_len, Cn.toD, e1, fSl, e2, c, e3, e4, e5, f1, putT]
theorem put_two (h : H2) (a b : Tree) (IH : PutOk a) (IH2 : PutOk b) : PutOk (.two h a b) := by
  intro n s p pl hn hn2 hs hlt
  obtain _ | n := n
  · exact absurd hn (by simp)
  obtain _ | s := s
  · exact put_zero n _ _
  simp only [Tree.height, Tree.size] at hn hs hn2 hlt
  have k := larms2 h (a.toD false) (b.toD false)
  have L := lparts_ok a 32 pl.1 (by omega) (by omega)
  have L2 := lparts_ok b 32 pl.2 (by omega) (by omega)
  have f1 : Fits (h.ds false).length := fits_sm (by have := ds_len2 h; omega)
  have f2 : Fits ((h.ds false).length + 1) := fits_sm (by have := ds_len2 h; omega)
  have c : cutD (h.ds false ++ [a.toD false, b.toD false]) none (some ((h.ds false).length : Int)) = h.ds false := by cases h <;> rfl
  have e1 : ((s : Int) + 1 == 0) = false := by simp; omega
  have e2 : ((h.ds false).length : Int) + 1 + 1 - 2 = (h.ds false).length := by omega
  have e3 : (s : Int) + 1 - 1 = s := by omega
  have e4 : (1 : Int) ≤ s + 1 := by omega
  by_cases hc : s < a.size
  · have I := IH n s p pl.1 (by omega) (by omega) (by omega) (by omega)
    have e5 : (s : Int) + 1 < 1 + a.size := by omega
    have e6 : ¬ (1 + (a.size : Int) ≤ s + 1) := by omega
    simp [m__law_put_at, g__law_put_at, runBody, isOwn, isOwnL, Tree.toD, mk, k, D.items, ev_for_cons, I, L, L2, Tree.preD_len, Cn.toD, e1, fSl, e2, c, e3, e4, e5, e6, f1, f2, putT, hc]
  · have I := IH2 n (s - a.size) p pl.2 (by omega) (by omega) (by omega) (by omega)
    have e5 : ¬ (s : Int) + 1 < 1 + a.size := by omega
    have e6 : (1 + (a.size : Int) ≤ s + 1) := by omega
    have e7 : (s : Int) + 1 < 1 + a.size + b.size := by omega
    have e8 : (s : Int) + 1 - (1 + a.size) = (s - a.size : Nat) := by omega
    simp [m__law_put_at, g__law_put_at, runBody, isOwn, isOwnL, Tree.toD, mk, k, D.items, ev_for_cons, I, L, L2, Tree.preD_len, Cn.toD, e1, fSl, e2, c, e3, e4, e5, e6, e7, e8, f1, f2, putT, hc]
theorem put_leaf (t : Tree) (h : t.size = 1) : PutOk t := by
  intro n s p pl hn hn2 hs hlt
  obtain _ | n := n
  · exact absurd hn (by simp)
  obtain _ | s := s
  · cases t <;> exact put_zero n _ _
  · omega
theorem put_ok : ∀ t : Tree, PutOk t
  | .leaf h => put_leaf _ rfl
  | .one h a => put_one h a (put_ok a)
  | .two h a b => put_two h a b (put_ok a) (put_ok b)
  | .odd d dl => put_leaf _ rfl
end G07
end M07o_text

section M07p_text
set_option maxHeartbeats 1000000
namespace G07
open PySem Pd
theorem lists_int (n : Nat) (i : Int) : LD (n + 1) (.int i) (.int i) := by
  have h : fIsi [("NoneType", false), ("bool", false), ("int", false), ("str", false), ("tuple", true), ("list", false), ("dict", false)] (.int i) = some (.dat (.bl false)) := rfl
  exact ⟨_, by simp [m__law_lists, g__law_lists, runBody, isOwn, isOwnL, h, D.truth], .inl rfl⟩
theorem lists_non (n : Nat) : LD (n + 1) .non .non := by
  have h : fIsi [("NoneType", false), ("bool", false), ("int", false), ("str", false), ("tuple", true), ("list", false), ("dict", false)] .non = some (.dat (.bl false)) := rfl
  exact ⟨_, by simp [m__law_lists, g__law_lists, runBody, isOwn, isOwnL, h, D.truth], .inl rfl⟩
/-- odd parts have their list forms -/
def Tree.lis (k : Nat) : Tree → Prop
  | .leaf h => h.ok
  | .one h a => h.ok ∧ a.lis k
  | .two h a b => h.ok ∧ a.lis k ∧ b.lis k
  | .odd d dl => ∀ n, k ≤ n → LD n d dl
theorem lists_tree (k : Nat) (hk : 7 ≤ k) : ∀ (t : Tree) (n : Nat), t.lis k → t.height + k ≤ n → LD n (t.toD false) (t.toD true)
  | .odd d dl, n, h, hn => h n (by simp only [Tree.height] at hn; omega)
  | .leaf h, n, o, hn => by
    obtain ⟨m, rfl⟩ : ∃ m, n = m + 1 := ⟨n - 1, by omega⟩
    exact lists_tup m _ _ (lists_h0 m (by omega) h o) (by have := ds_len0 h; omega)
  | .one h a, n, o, hn => by
    obtain ⟨m, rfl⟩ : ∃ m, n = m + 1 := ⟨n - 1, by omega⟩
    simp only [Tree.height] at hn
    exact lists_tup m _ _ (LDs_app m _ _ _ _ (lists_h1 m (by omega) h o.1) ⟨lists_tree k hk a m o.2 (by omega), trivial⟩) (by have := ds_len1 h; simp; omega)
  | .two h a b, n, o, hn => by
    obtain ⟨m, rfl⟩ : ∃ m, n = m + 1 := ⟨n - 1, by omega⟩
    simp only [Tree.height] at hn
    exact lists_tup m _ _ (LDs_app m _ _ _ _ (lists_h2 m (by omega) h o.1) ⟨lists_tree k hk a m o.2.1 (by omega), lists_tree k hk b m o.2.2 (by omega), trivial⟩) (by have := ds_len2 h; simp; omega)
/-- the parts that are wrong, with their list forms -/
def wrongs (o ol : D) : List (D × D) := [
  (.non, .non), (.tup [], .lst []), (.str "pass", .str "pass"), (.tup [.str "deed"], .lst [.str "deed"]),
  (.tup [.str "deed", .str "pass"], .lst [.str "deed", .str "pass"]),
  (.tup [.str "deed", .str "a", .str "b"], .lst [.str "deed", .str "a", .str "b"]),
  (.tup [.str "need", .tup [.str "fact", .int 3]], .lst [.str "need", .lst [.str "fact", .int 3]]),
  (.tup [.str "both", o], .lst [.str "both", ol]),
  (.tup [.str "then", o], .lst [.str "then", ol]),
  (.tup [.str "own", o, o, o], .lst [.str "own", ol, ol, ol]),
  (.tup [.str "while", o, o], .lst [.str "while", ol, ol]),
  (.tup [.str "more"], .lst [.str "more"]),
  (.tup [.str "if", .tup [.str "yes"], o], .lst [.str "if", .lst [.str "yes"], ol]),
  (.tup [.str "pass", o], .lst [.str "pass", ol]),
  (.tup [.str "win", .int 1], .lst [.str "win", .int 1]),
  (.tup [.str "deed", .str "Ab"], .lst [.str "deed", .str "Ab"]),
  (.tup [.str "need"], .lst [.str "need"]),
  (.tup [.str "grant", .tup [.str "and", .tup [.str "yes"]]], .lst [.str "grant", .lst [.str "and", .lst [.str "yes"]]]),
  (.tup [o], .lst [ol]),
  (.tup [.str "each", o, o], .lst [.str "each", ol, ol])]
def isiF (d : D) : Prop := fIsi [("NoneType", false), ("bool", false), ("int", false), ("str", true), ("tuple", false), ("list", false), ("dict", false)] d = some (.dat (.bl false))
def LD2 (k : Nat) (p : D × D) : Prop := ∀ n, k ≤ n → LD n p.1 p.2
theorem ld_tup {k : Nat} {xs ys : List D} (hl : xs.length ≤ 1000) (h : ∀ n, k ≤ n → LDs n xs ys) : LD2 (k + 1) (.tup xs, .lst ys) := by
  intro n hn
  obtain ⟨m, rfl⟩ : ∃ m, n = m + 1 := ⟨n - 1, by omega⟩
  exact lists_tup m _ _ (h m (by omega)) hl
theorem ld_str (x : Str) (n : Nat) (h : 1 ≤ n) : LD n (.str x) (.str x) := by
  obtain ⟨m, rfl⟩ : ∃ m, n = m + 1 := ⟨n - 1, by omega⟩
  exact lists_str m x
theorem ld_int (x : Int) (n : Nat) (h : 1 ≤ n) : LD n (.int x) (.int x) := by
  obtain ⟨m, rfl⟩ : ∃ m, n = m + 1 := ⟨n - 1, by omega⟩
  exact lists_int m x
theorem ld_yes (n : Nat) (h : 2 ≤ n) : LD n (.tup [.str "yes"]) (.lst [.str "yes"]) := lists_say .yes n h
theorem ld_fact (n : Nat) (h : 2 ≤ n) : LD n (.tup [.str "fact", .int 3]) (.lst [.str "fact", .int 3]) := ld_tup (k := 1) (xs := [.str "fact", .int 3]) (ys := [.str "fact", .int 3]) (by simp) (fun n h => ⟨ld_str _ n h, ld_int _ n h, trivial⟩) n h
theorem ld_and (n : Nat) (h : 3 ≤ n) : LD n (.tup [.str "and", .tup [.str "yes"]]) (.lst [.str "and", .lst [.str "yes"]]) := ld_tup (k := 2) (xs := [.str "and", .tup [.str "yes"]]) (ys := [.str "and", .lst [.str "yes"]]) (by simp) (fun n h => ⟨ld_str _ n (by omega), ld_yes n h, trivial⟩) n h
theorem ld_le {k j : Nat} {p : D × D} (h : LD2 j p) (hk : j ≤ k) : LD2 k p := fun n hn => h n (by omega)
theorem wrongs_lis (o ol : D) (k : Nat) (hk : 3 ≤ k) (h : ∀ n, k ≤ n → LD n o ol) : ∀ p ∈ wrongs o ol, LD2 (k + 1) p := by
  simp only [wrongs, List.forall_mem_cons]
  refine ⟨?_, ?_, ?_, ?_, ?_, ?_, ?_, ?_, ?_, ?_, ?_, ?_, ?_, ?_, ?_, ?_, ?_, ?_, ?_, ?_, by simp⟩
  · intro n hn
    obtain ⟨m, rfl⟩ : ∃ m, n = m + 1 := ⟨n - 1, by omega⟩
    exact lists_non m
  · exact ld_tup (by simp) (fun n hn => trivial)
  · exact fun n hn => ld_str _ n (by omega)
  · exact ld_tup (by simp) (fun n hn => ⟨ld_str _ n (by omega), trivial⟩)
  · exact ld_tup (by simp) (fun n hn => ⟨ld_str _ n (by omega), ld_str _ n (by omega), trivial⟩)
  · exact ld_tup (by simp) (fun n hn => ⟨ld_str _ n (by omega), ld_str _ n (by omega), ld_str _ n (by omega), trivial⟩)
  · exact ld_tup (by simp) (fun n hn => ⟨ld_str _ n (by omega), ld_fact n (by omega), trivial⟩)
  · exact ld_tup (by simp) (fun n hn => ⟨ld_str _ n (by omega), h n hn, trivial⟩)
  · exact ld_tup (by simp) (fun n hn => ⟨ld_str _ n (by omega), h n hn, trivial⟩)
  · exact ld_tup (by simp) (fun n hn => ⟨ld_str _ n (by omega), h n hn, h n hn, h n hn, trivial⟩)
  · exact ld_tup (by simp) (fun n hn => ⟨ld_str _ n (by omega), h n hn, h n hn, trivial⟩)
  · exact ld_tup (by simp) (fun n hn => ⟨ld_str _ n (by omega), trivial⟩)
  · exact ld_tup (by simp) (fun n hn => ⟨ld_str _ n (by omega), ld_yes n (by omega), h n hn, trivial⟩)
  · exact ld_tup (by simp) (fun n hn => ⟨ld_str _ n (by omega), h n hn, trivial⟩)
  · exact ld_tup (by simp) (fun n hn => ⟨ld_str _ n (by omega), ld_int _ n (by omega), trivial⟩)
  · exact ld_tup (by simp) (fun n hn => ⟨ld_str _ n (by omega), ld_str _ n (by omega), trivial⟩)
  · exact ld_tup (by simp) (fun n hn => ⟨ld_str _ n (by omega), trivial⟩)
  · exact ld_tup (by simp) (fun n hn => ⟨ld_str _ n (by omega), ld_and n (by omega), trivial⟩)
  · exact ld_tup (by simp) (fun n hn => ⟨h n hn, trivial⟩)
  · exact ld_tup (by simp) (fun n hn => ⟨ld_str _ n (by omega), h n hn, h n hn, trivial⟩)
theorem odd_old (l : Bool) (o : D) (h : isiF o) : OddOk (mk l [o]) := by
  have h' : fIsi [("NoneType", false), ("bool", false), ("int", false), ("str", true), ("tuple", false), ("list", false), ("dict", false)] o = some (.dat (.bl false)) := h
  unfold OddOk
  simp [m_head_of, g_head_of, runBody, isOwn, isOwnL, h']
/-- no saying -/
def SayNone (d : D) : Prop := m_saying_or_none [.dat d] = .ret (.dat .non) [.dat d]
theorem none_str (l : Bool) (kd : Str) (xs : List D) (h : fInK "ARMS_sayings" (tabT tab_ARMS_sayings) true (.str kd) (.fn "ARMS_sayings") = some (.dat (.bl true))) : SayNone (mk l (.str kd :: xs)) := by
  have hz : (((xs.length : Int) + 1) == 0) = false := by simp; omega
  have k : m_told_saying 32 [.dat (mk l (.str kd :: xs)), .dat (.int 0), .dat (.int 60)] = .ret (.dat .non) [.dat (mk l (.str kd :: xs)), .dat (.int 0), .dat (.int 60)] := by
    cases l <;> simp [mk, m_told_saying, g_told_saying, runBody, isOwn, isOwnL, h, c_DEEPEST_sayings, hz]
  unfold SayNone
  simp [m_saying_or_none, g_saying_or_none, runBody, isOwn, isOwnL, c_MOST_TUPLES, k]
theorem none_tree : ∀ (t : Tree) (l : Bool), t.plain → SayNone (t.toD l)
  | .leaf h, l, _ => by cases h <;> exact none_str l _ _ (by kernel_rfl)
  | .one h _, l, _ => by cases h <;> exact none_str l _ _ (by kernel_rfl)
  | .two h _ _, l, _ => by cases h <;> exact none_str l _ _ (by kernel_rfl)
theorem odd_while (l : Bool) (o : D) (h : SayNone o) : OddOk (mk l [.str "while", o, o]) := by
  have h' : m_saying_or_none [.dat o] = .ret (.dat .non) [.dat o] := h
  have h1 : fInK "ARMS_trees" (tabT tab_ARMS_trees) true (.str "while") (.fn "ARMS_trees") = some (.dat (.bl false)) := by kernel_rfl
  have h2 : fIxK "ARMS_trees" (tabT tab_ARMS_trees) (.fn "ARMS_trees") (.str "while") = some (.dat (.str "sp")) := by kernel_rfl
  have h3 : fLen [.str "sp"] = some (.dat (.int 2)) := by kernel_rfl
  have h4 : fEq false (.str "sp") (.str "n") = some (.dat (.bl false)) := by kernel_rfl
  have h5 : fSl (.str "sp") none (some 1) = some (.dat (.str "s")) := by kernel_rfl
  have h6 : fEq true (.str "s") (.str "s") = some (.dat (.bl false)) := by kernel_rfl
  unfold OddOk
  cases l <;> simp [mk, m_head_of, g_head_of, runBody, isOwn, isOwnL, h', h1, h2, h3, h4, h5, h6]
theorem wrongs_odd (o ol : D) (h : isiF o) (hl : isiF ol) (k : SayNone o) (kl : SayNone ol) : ∀ p ∈ wrongs o ol, OddOk p.1 ∧ OddOk p.2 := by
  simp only [wrongs, List.forall_mem_cons, OddOk]
  refine ⟨?_, ?_, ?_, ?_, ?_, ?_, ?_, ?_, ?_, ?_, ⟨odd_while false o k, odd_while true ol kl⟩, ?_, ?_, ?_, ?_, ?_, ?_, ?_, ⟨odd_old false o h, odd_old true ol hl⟩, ?_, by simp⟩ <;> exact ⟨by kernel_rfl, by kernel_rfl⟩
theorem isi_tree : ∀ (t : Tree) (l : Bool), t.plain → isiF (t.toD l)
  | .leaf _, l, _ => by cases l <;> rfl
  | .one _ _, l, _ => by cases l <;> rfl
  | .two _ _ _, l, _ => by cases l <;> rfl
theorem at_nat {α : Type} (xs : List α) (j : Nat) (h : j < xs.length) : L2.atI xs (j : Int) = some xs[j] := by
  unfold L2.atI L2.ixN
  simp [h]
theorem wrong_ok {k : Nat} {a b c : Int} (S : Src k a b c) (hk : k < 2 ^ 60) (o ol : D) : ∃ p a' c', p ∈ wrongs o ol ∧ m__law_wrong [.own false (srcC a b c), .dat o] = .ret (.dat p.1) [.own false (srcC a' b c'), .dat o] ∧ Src (k + 1) a' b c' := by
  obtain ⟨d, a', c', e, h0, h1, S'⟩ := pick_ok S hk (n := 20) (by omega) (by decide)
  obtain ⟨j, rfl⟩ : ∃ j : Nat, d = j := ⟨d.toNat, by omega⟩
  have hj : j < 20 := by omega
  have hl : (wrongs o ol).length = 20 := rfl
  refine ⟨(wrongs o ol)[j], a', c', List.getElem_mem _, ?_, S'⟩
  have ha := at_nat ((wrongs o ol).map (·.1)) j (by simp [hl, hj])
  rw [List.getElem_map] at ha
  generalize (wrongs o ol)[j].1 = r at ha
  simp only [wrongs, List.map] at ha
  have ft : ∀ n : Nat, n ≤ 1000 → Fits n := fun n h => fits_sm h
  have f8 : Fits 8 := ft _ (by decide)
  have f5 : Fits 5 := ft _ (by decide)
  simp [m__law_wrong, g__law_wrong, runBody, isOwn, isOwnL, fAdd, f8, f5, ft, e, ha]
end G07
end M07p_text

section M07q_text
set_option maxHeartbeats 1000000
namespace G07
open PySem Pd
abbrev srcB : GS := (gSet 3 (gBin fMod (gO (gV (gCall fInt (gaCons (gO (gV (gBin fAdd (gO (gV (gBin fMul (gVar 3) (gO (gC (.int 31)))))) (gO (gV (gBin fMod (gO (gV (gCall fInt (gaCons (gVar 4) gaNil)))) (gO (gC (.int 2147483629))))))))) gaNil)))) (gO (gC (.int 2147483629)))))
theorem src_loop (A B C : SV) : ∀ (xs : List Int) (s : Int), 0 ≤ s → s < 2147483629 → ∃ s', 0 ≤ s' ∧ s' < 2147483629 ∧
    forG (gtName 4) srcB [4] (xs.map D.int) [A, B, C, .dat (.int s), .no, .no] = .nx [A, B, C, .dat (.int s'), .no, .no]
  | [], s, h0, h1 => ⟨s, h0, h1, by simp⟩
  | x :: xs, s, h0, h1 => by
    have e1 : fMul (.int s) (.int 31) = some (.dat (.int (s * 31))) := fMul_sm (by omega) (by omega)
    have e2 : ∀ y : Int, fMod (.int y) (.int 2147483629) = some (.dat (.int (y % 2147483629))) := fun y => fMod_ok (by omega)
    obtain ⟨m, hm, l, u⟩ := emod_rng (s * 31 + x % 2147483629) 2147483629 (by omega)
    obtain ⟨s', a1, a2, a3⟩ := src_loop A B C xs m l u
    refine ⟨s', a1, a2, ?_⟩
    rw [← a3]
    simp [ev_for_cons, srcB, e1, e2, hm]
theorem cut3 (xs : List D) : cutD xs none (some 3) = xs.take 3 := by
  unfold cutD HT.sIx
  simp
theorem source_ok (ns : List Int) (p : Nat) (hp : p ≤ 3) (hb : ∀ z ∈ ns, Builtin.Int.intBits z ≤ 1048576) :
    ∃ a b, m__law_source [.dat (.lst (ns.map D.int)), .dat (.int p)] = .ret (.own true (.lst [.int a, .int b, .int 0])) [.dat (.lst (ns.map D.int)), .dat (.int p)] ∧ Src 0 a b 0 := by
  have hcell : ∃ c : Int, Builtin.Int.intBits c ≤ 1048576 ∧ (gIf (gB (gBin fLt (gVar 1) (gO (gV (gCall fLen (gaCons (gVar 0) gaNil)))))) (gBin fIxU (gVar 0) (gVar 1)) (gBin fAdd (gO (gV (gBin fMul (gO (gC (.int 5))) (gVar 1)))) (gO (gC (.int 3)))))
      [.dat (.lst (ns.map D.int)), .dat (.int p), .no, .no, .no, .no] = .ok (.dat (.int c)) [.dat (.lst (ns.map D.int)), .dat (.int p), .no, .no, .no, .no] := by
    by_cases h : p < ns.length
    · refine ⟨ns[p], hb _ (List.getElem_mem _), ?_⟩
      have h1 : (p : Int) < ns.length := by omega
      have h2 : L2.atI (ns.map D.int) (p : Int) = some (.int ns[p]) := by
        unfold L2.atI L2.ixN
        simp [h]
      simp [h1, h2]
    · refine ⟨5 * p + 3, ?_, ?_⟩
      · refine Nat.le_trans (intBits_le (k := 10) ?_) (by decide)
        omega
      · have h1 : ¬ (p : Int) < ns.length := by omega
        have h2 : fMul (.int 5) (.int p) = some (.dat (.int (5 * p))) := fMul_sm (by omega) (by omega)
        simp [h1, h2]
  obtain ⟨c, hc, hcell⟩ := hcell
  have h2 : fMul (.int 1009) (.int p) = some (.dat (.int (1009 * p))) := fMul_sm (by omega) (by omega)
  obtain ⟨s1, l1, u1, hloop⟩ := src_loop (.dat (.lst (ns.map D.int))) (.dat (.int p)) (.dat (.int c)) (ns.take 3) (1009 * p + 17) (by omega) (by omega)
  have h3 : fSl (.lst (ns.map D.int)) none (some 3) = some (.own true (.lst ((ns.take 3).map D.int))) := by
    rw [fSl, cut3, List.map_take]
  generalize ns.take 3 = n3 at hloop h3
  have h4 : fMul (.int s1) (.int 31) = some (.dat (.int (s1 * 31))) := fMul_sm (by omega) (by omega)
  have h5 : fMod (.int c) (.int 2147483587) = some (.dat (.int (c % 2147483587))) := fMod_ok (by omega)
  obtain ⟨s2, e2, l2, u2⟩ := emod_rng (s1 * 31 + c % 2147483587) 2147483629 (by omega)
  have h6 : fMod (.int (s1 * 31 + c % 2147483587)) (.int 2147483629) = some (.dat (.int s2)) := by rw [fMod_ok (by omega), e2]
  obtain ⟨x, hx⟩ : ∃ x : Int, x = (if c < 0 then -c else c) := ⟨_, rfl⟩
  have hx0 : 0 ≤ x := by rw [hx]; split <;> omega
  have hxc : x.natAbs ≤ c.natAbs := by rw [hx]; split <;> omega
  have h7 : fAbs [.int c] = some (.dat (.int x)) := by rw [fAbs_int, ← hx]
  have h8 : fPow (.int 10) (.int 18) = some (.dat (.int 1000000000000000000)) := by kernel_rfl
  have h9 : fShr (.int x) (.int 3000) = some (.dat (.int (x / 2 ^ 3000))) := fShr_ok (j := 3000)
  obtain ⟨y, hy⟩ : ∃ y : Int, y = x / 2 ^ 3000 := ⟨_, rfl⟩
  obtain ⟨q, hq⟩ : ∃ q : Int, q = 2 ^ 3000 := ⟨_, rfl⟩
  have hq0 : 0 < q := by rw [hq]; exact Int.pow_pos (by decide)
  rw [← hy] at h9
  rw [← hq] at hy
  have hy0 : 0 ≤ y := by rw [hy]; exact Int.ediv_nonneg hx0 (by omega)
  have hyx : y * q ≤ x := by rw [hy]; exact Int.ediv_mul_le x (by omega)
  have hyx2 : y ≤ x := by
    rw [hy]
    exact Int.ediv_le_self _ hx0
  have h10 : fShl (.int y) (.int 3000) = some (.dat (.int (y * q))) := by
    rw [hq]
    refine fShl_ok (j := 3000) ?_
    have := intBits_mono (i := y) (j := c) (by omega)
    omega
  by_cases hbig : (1000000000000000000 : Int) ≤ x
  · refine ⟨x - y * q, s2, ?_, ⟨by omega, l2, by omega, by omega, by omega⟩⟩
    simp only [srcB] at hloop
    simp only [m__law_source, g__law_source, runBody]
    generalize (gIf (gB (gBin fLt (gVar 1) (gO (gV (gCall fLen (gaCons (gVar 0) gaNil)))))) (gBin fIxU (gVar 0) (gVar 1)) (gBin fAdd (gO (gV (gBin fMul (gO (gC (.int 5))) (gVar 1)))) (gO (gC (.int 3))))) = gi at hcell ⊢
    simp [hcell, h2, h3, hloop, h4, h5, h6, h7, h8, h9, h10, hbig, isOwn, isOwnL]
  · refine ⟨0, s2, ?_, ⟨by omega, l2, by omega, by omega, by omega⟩⟩
    simp only [srcB] at hloop
    simp only [m__law_source, g__law_source, runBody]
    generalize (gIf (gB (gBin fLt (gVar 1) (gO (gV (gCall fLen (gaCons (gVar 0) gaNil)))))) (gBin fIxU (gVar 0) (gVar 1)) (gBin fAdd (gO (gV (gBin fMul (gO (gC (.int 5))) (gVar 1)))) (gO (gC (.int 3))))) = gi at hcell ⊢
    simp [hcell, h2, h3, hloop, h4, h5, h6, h7, h8, hbig, isOwn, isOwnL]
end G07
end M07q_text

section M07r_text
set_option maxHeartbeats 1000000
namespace G07
open PySem Pd
theorem Src.mono {k k' : Nat} {a b c : Int} (S : Src k a b c) (h : k ≤ k') : Src k' a b c := ⟨S.a0, S.b0, S.b1, S.c0, by have := S.c1; omega⟩
/-- names in a tuple -/
abbrev namesD (fs : List Str) : D := .tup (fs.map D.str)
def NamesOk (fs : List Str) : Prop := (∀ x ∈ fs, NameOk x) ∧ fs.length ≤ 100
theorem name_at (fs : List Str) (d : Int) (h0 : 0 ≤ d) (h1 : d < fs.length) : ∃ x, x ∈ fs ∧ L2.atI (fs.map D.str) d = some (.str x) := by
  obtain ⟨j, rfl⟩ : ∃ j : Nat, d = j := ⟨d.toNat, by omega⟩
  have hj : j < fs.length := by omega
  refine ⟨fs[j], List.getElem_mem _, ?_⟩
  unfold L2.atI L2.ixN
  simp [hj]
def sayP : Nat → Nat
  | 0 => 5
  | d + 1 => 5 + 2 * sayP d
def sayS : Nat → Nat
  | 0 => 1
  | d + 1 => 2 * sayS d + 1
theorem sayS_pos (d : Nat) : 1 ≤ sayS d := by cases d <;> simp [sayS]
abbrev SayG (n : Nat) (fs : List Str) (dp : Nat) : Prop := ∀ (k : Nat) (a b c : Int), Src k a b c → k + sayP dp < 2 ^ 50 → NamesOk fs →
  ∃ (s : Say) (a' b' c' : Int), m__law_say n [.own false (srcC a b c), .dat (namesD fs), .dat (.int dp)] = .ret (.dat (s.toD false)) [.own false (srcC a' b' c'), .dat (namesD fs), .dat (.int dp)] ∧ Src (k + sayP dp) a' b' c' ∧ s.ok ∧ s.height ≤ dp ∧ s.size ≤ sayS dp
theorem sayP_pos (d : Nat) : 5 ≤ sayP d := by cases d <;> simp [sayP]
theorem say_low (n : Nat) (fs : List Str) (dp : Nat) (hd : dp ≤ 20) (step : ∀ d : Nat, dp = d + 1 → SayG n fs d) : SayG (n + 1) fs dp := by
  intro k a b c S hk ok
  have hP := sayP_pos dp
  have hS := sayS_pos dp
  have hm : ∃ m : Int, 4 ≤ m ∧ m ≤ 7 ∧ (dp = 0 → m = 4) ∧ (if (0 : Int) < dp then SV.dat (.int 7) else SV.dat (.int 4)) = .dat (.int m) ∧ m.natAbs.log2 < 4000 := by
    by_cases h : dp = 0
    · exact ⟨4, by omega, by omega, fun _ => rfl, by rw [if_neg (by omega)], by decide⟩
    · exact ⟨7, by omega, by omega, fun z => absurd z h, by rw [if_pos (by omega)], by decide⟩
  obtain ⟨m, m1, m2, m3, m4, m5⟩ := hm
  obtain ⟨d, a1, c1, e1, l1, u1, S1⟩ := pick_ok S (n := m) (by omega) (by omega) m5
  have hgo : (gCallF m__law_pick [] (gaCons (gVar 0) (gaCons (gO (gV (gIf (gB (gBin fGt (gVar 2) (gO (gC (.int 0))))) (gE (gC (.int 7))) (gE (gC (.int 4)))))) gaNil))) [.own false (srcC a b c), .dat (namesD fs), .dat (.int dp), .no, .no] = .ok (.dat (.int d)) [.own false (srcC a1 b c1), .dat (namesD fs), .dat (.int dp), .no, .no] := by
    by_cases h : (0 : Int) < dp
    · rw [if_pos h] at m4
      have e : m = 7 := by simpa using m4.symm
      subst e
      have h' : 0 < dp := by omega
      simp [h', e1]
    · rw [if_neg h] at m4
      have e : m = 4 := by simpa using m4.symm
      subst e
      have h' : ¬ 0 < dp := by omega
      simp [h', e1]
  have last2 : ∀ k a b c, Src k a b c → k < 2 ^ 60 → ∃ (s : Say) (t : Int) (a' c' : Int), m__law_pick [.own false (srcC a b c), .dat (.int 2)] = .ret (.dat (.int t)) [.own false (srcC a' b c'), .dat (.int 2)] ∧ Src (k + 1) a' b c' ∧ (if t = 0 then s = .no else s = .yes) := by
    intro k a b c S hk
    obtain ⟨t, a', c', e, l, u, S'⟩ := pick_ok S (n := 2) (by omega) (by omega) (by decide)
    by_cases h : t = 0
    · exact ⟨.no, t, a', c', e, S', by rw [if_pos h]⟩
    · exact ⟨.yes, t, a', c', e, S', by rw [if_neg h]⟩
  by_cases hf : fs = []
  · subst hf
    obtain ⟨s, t, a2, c2, e2, S2, hs⟩ := last2 _ _ _ _ S1 (by omega)
    by_cases h : t = 0
    · rw [if_pos h] at hs
      subst hs
      subst h
      refine ⟨.no, a2, b, c2, ?_, S2.mono (by omega), trivial, Nat.zero_le _, hS⟩
      simp only [m__law_say, g__law_say, runBody]
      generalize (gCallF m__law_pick [] (gaCons (gVar 0) (gaCons (gO (gV (gIf (gB (gBin fGt (gVar 2) (gO (gC (.int 0))))) (gE (gC (.int 7))) (gE (gC (.int 4)))))) gaNil))) = gi at hgo ⊢
      simp [hgo, e2, Say.toD, mk, isOwn, isOwnL]
    · rw [if_neg h] at hs
      subst hs
      refine ⟨.yes, a2, b, c2, ?_, S2.mono (by omega), trivial, Nat.zero_le _, hS⟩
      simp only [m__law_say, g__law_say, runBody]
      generalize (gCallF m__law_pick [] (gaCons (gVar 0) (gaCons (gO (gV (gIf (gB (gBin fGt (gVar 2) (gO (gC (.int 0))))) (gE (gC (.int 7))) (gE (gC (.int 4)))))) gaNil))) = gi at hgo ⊢
      simp [hgo, e2, Say.toD, mk, isOwn, isOwnL, h]
  have hlen : ((fs.length : Int) == 0) = false := by
    cases fs with
    | nil => exact absurd rfl hf
    | cons x xs => simp; omega
  have hlen0 : 0 < fs.length := by
    cases fs with
    | nil => exact absurd rfl hf
    | cons x xs => simp
  have hlog : (fs.length : Int).natAbs.log2 < 4000 := by
    rw [Int.natAbs_natCast]
    have := Nat.log2_le_self fs.length
    have := ok.2
    omega
  have fact : ∀ k a b c, Src k a b c → k < 2 ^ 60 → ∃ (x : Str) (t : Int) (a' c' : Int), m__law_pick [.own false (srcC a b c), .dat (.int fs.length)] = .ret (.dat (.int t)) [.own false (srcC a' b c'), .dat (.int fs.length)] ∧ Src (k + 1) a' b c' ∧ x ∈ fs ∧ L2.atI (fs.map D.str) t = some (.str x) := by
    intro k a b c S hk
    obtain ⟨t, a', c', e, l, u, S'⟩ := pick_ok S (n := fs.length) (by omega) (by omega) hlog
    obtain ⟨x, hx, e2⟩ := name_at fs t l u
    exact ⟨x, t, a', c', e, S', hx, e2⟩
  by_cases h3 : d = 3
  · subst h3
    obtain ⟨t, a2, c2, e2, l2, u2, S2⟩ := pick_ok S1 (n := 4) (by omega) (by omega) (by decide)
    by_cases ht : t = 2
    · subst ht
      obtain ⟨s, t, a3, c3, e3, S3, hs⟩ := last2 _ _ _ _ S2 (by omega)
      by_cases h : t = 0
      · rw [if_pos h] at hs
        subst hs
        subst h
        refine ⟨.no, a3, b, c3, ?_, S3.mono (by omega), trivial, Nat.zero_le _, hS⟩
        simp only [m__law_say, g__law_say, runBody]
        generalize (gCallF m__law_pick [] (gaCons (gVar 0) (gaCons (gO (gV (gIf (gB (gBin fGt (gVar 2) (gO (gC (.int 0))))) (gE (gC (.int 7))) (gE (gC (.int 4)))))) gaNil))) = gi at hgo ⊢
        simp [hgo, hlen, e2, e3, Say.toD, mk, isOwn, isOwnL]
      · rw [if_neg h] at hs
        subst hs
        refine ⟨.yes, a3, b, c3, ?_, S3.mono (by omega), trivial, Nat.zero_le _, hS⟩
        simp only [m__law_say, g__law_say, runBody]
        generalize (gCallF m__law_pick [] (gaCons (gVar 0) (gaCons (gO (gV (gIf (gB (gBin fGt (gVar 2) (gO (gC (.int 0))))) (gE (gC (.int 7))) (gE (gC (.int 4)))))) gaNil))) = gi at hgo ⊢
        simp [hgo, hlen, e2, e3, Say.toD, mk, isOwn, isOwnL, h]
    · obtain ⟨x, t2, a3, c3, e3, S3, hx, e4⟩ := fact _ _ _ _ S2 (by omega)
      refine ⟨.fact x, a3, b, c3, ?_, S3.mono (by omega), ok.1 x hx, Nat.zero_le _, hS⟩
      simp only [m__law_say, g__law_say, runBody]
      generalize (gCallF m__law_pick [] (gaCons (gVar 0) (gaCons (gO (gV (gIf (gB (gBin fGt (gVar 2) (gO (gC (.int 0))))) (gE (gC (.int 7))) (gE (gC (.int 4)))))) gaNil))) = gi at hgo ⊢
      simp [hgo, hlen, e2, ht, e3, e4, Say.toD, mk, isOwn, isOwnL]
  have h3' : (d == 3) = false := by simpa using h3
  by_cases h4 : d < 4
  · obtain ⟨x, t2, a3, c3, e3, S3, hx, e4⟩ := fact _ _ _ _ S1 (by omega)
    refine ⟨.fact x, a3, b, c3, ?_, S3.mono (by omega), ok.1 x hx, Nat.zero_le _, hS⟩
    simp only [m__law_say, g__law_say, runBody]
    generalize (gCallF m__law_pick [] (gaCons (gVar 0) (gaCons (gO (gV (gIf (gB (gBin fGt (gVar 2) (gO (gC (.int 0))))) (gE (gC (.int 7))) (gE (gC (.int 4)))))) gaNil))) = gi at hgo ⊢
    simp [hgo, hlen, h3, h4, e3, e4, Say.toD, mk, isOwn, isOwnL]
  obtain ⟨dq, hdq⟩ : ∃ dq, dp = dq + 1 := by
    rcases Nat.eq_zero_or_pos dp with h | h
    · have := m3 h
      omega
    · exact ⟨dp - 1, by omega⟩
  have IH := step dq hdq
  subst hdq
  simp only [sayP, sayS] at hk hP hS
  simp only [Int.natCast_add, Int.natCast_one] at hgo
  obtain ⟨s1, a2, b2, c2, e2, S2, o2, t2, z2⟩ := IH (k + 1) _ _ _ S1 (by omega) ok
  have ed : ((dq + 1 : Nat) : Int) - 1 = dq := by omega
  by_cases h5 : d = 4
  · subst h5
    refine ⟨.neg s1, a2, b2, c2, ?_, S2.mono (by simp only [sayP]; omega), o2, by simp only [Say.height]; omega, by simp only [Say.size, sayS]; have := sayS_pos dq; omega⟩
    simp only [m__law_say, g__law_say, runBody]
    generalize (gCallF m__law_pick [] (gaCons (gVar 0) (gaCons (gO (gV (gIf (gB (gBin fGt (gVar 2) (gO (gC (.int 0))))) (gE (gC (.int 7))) (gE (gC (.int 4)))))) gaNil))) = gi at hgo ⊢
    simp [hgo, hlen, e2, Say.toD, mk, isOwn, isOwnL, ed]
  have h5' : (d == 4) = false := by simpa using h5
  obtain ⟨s2, a3, b3, c3, e3, S3, o3, t3, z3⟩ := IH (k + 1 + sayP dq) _ _ _ S2 (by omega) ok
  by_cases h6 : d = 5
  · subst h6
    refine ⟨.and s1 s2, a3, b3, c3, ?_, S3.mono (by simp only [sayP]; omega), ⟨o2, o3⟩, by simp only [Say.height]; omega, by simp only [Say.size, sayS]; omega⟩
    simp only [m__law_say, g__law_say, runBody]
    generalize (gCallF m__law_pick [] (gaCons (gVar 0) (gaCons (gO (gV (gIf (gB (gBin fGt (gVar 2) (gO (gC (.int 0))))) (gE (gC (.int 7))) (gE (gC (.int 4)))))) gaNil))) = gi at hgo ⊢
    simp [hgo, hlen, e2, e3, Say.toD, mk, isOwn, isOwnL, ed]
  · refine ⟨.or s1 s2, a3, b3, c3, ?_, S3.mono (by simp only [sayP]; omega), ⟨o2, o3⟩, by simp only [Say.height]; omega, by simp only [Say.size, sayS]; omega⟩
    simp only [m__law_say, g__law_say, runBody]
    generalize (gCallF m__law_pick [] (gaCons (gVar 0) (gaCons (gO (gV (gIf (gB (gBin fGt (gVar 2) (gO (gC (.int 0))))) (gE (gC (.int 7))) (gE (gC (.int 4)))))) gaNil))) = gi at hgo ⊢
    simp [hgo, hlen, e2, e3, Say.toD, mk, isOwn, isOwnL, ed, h3, h4, h5, h6]
theorem say_ok (fs : List Str) : ∀ (dp n : Nat), dp < n → dp ≤ 20 → SayG n fs dp
  | 0, n + 1, _, hd => say_low n fs 0 hd fun d h => by omega
  | dp + 1, n + 1, h, hd => say_low n fs (dp + 1) hd fun d e => by
    obtain rfl : d = dp := by omega
    exact say_ok fs d n (by omega) (by omega)
end G07
end M07r_text

section M07s_text
set_option maxHeartbeats 1000000
namespace G07
open PySem Pd
theorem cut_pre {α : Type} (xs : List α) (m : Nat) : cutD xs none (some (m : Int)) = xs.take m := by
  unfold cutD
  rw [HT.sIx_none, HT.sIx_nat, List.drop_zero, Nat.sub_zero]
  by_cases h : m ≤ xs.length
  · rw [Nat.min_eq_left h]
  · rw [Nat.min_eq_right (by omega), List.take_of_length_le (Nat.le_refl _), List.take_of_length_le (by omega)]
def menuF : List (List Str) := [["p", "q", "r"], ["wet", "p", "dusk"], ["q", "p", "z"], ["paid", "kept", "x"], ["r", "p", "q"]]
def menuN : List (List Str) := [["a", "b", "c"], ["a", "carry", "d"], ["aa", "b", "send"], ["b", "bb", "c"], ["a", "b", "c"]]
theorem nameOk_of {x : Str} (h : m_is_name [.dat (.str x)] = .ret (.dat (.bl true)) [.dat (.str x)]) (h2 : PyData.strOk x = true) : NameOk x := ⟨h, h2⟩
theorem menuF_ok : ∀ fs ∈ menuF, ∀ x ∈ fs, NameOk x := by
  simp only [menuF, List.forall_mem_cons]
  refine ⟨⟨?_, ?_, ?_, by simp⟩, ⟨?_, ?_, ?_, by simp⟩, ⟨?_, ?_, ?_, by simp⟩, ⟨?_, ?_, ?_, by simp⟩, ⟨?_, ?_, ?_, by simp⟩, by simp⟩ <;> exact nameOk_of (by kernel_rfl) (by kernel_rfl)
theorem menuN_ok : ∀ fs ∈ menuN, ∀ x ∈ fs, NameOk x := by
  simp only [menuN, List.forall_mem_cons]
  refine ⟨⟨?_, ?_, ?_, by simp⟩, ⟨?_, ?_, ?_, by simp⟩, ⟨?_, ?_, ?_, by simp⟩, ⟨?_, ?_, ?_, by simp⟩, ⟨?_, ?_, ?_, by simp⟩, by simp⟩ <;> exact nameOk_of (by kernel_rfl) (by kernel_rfl)
theorem menuF_len : ∀ fs ∈ menuF, fs.length = 3 := by
  simp only [menuF, List.forall_mem_cons]
  simp
theorem menuN_len : ∀ fs ∈ menuN, fs.length = 3 := by
  simp only [menuN, List.forall_mem_cons]
  simp
theorem fnames_ok {k : Nat} {a b c : Int} (S : Src k a b c) (hk : k < 2 ^ 60) (m : Nat) : ∃ fs a' c', fs ∈ menuF ∧ m__law_fact_names [.own false (srcC a b c), .dat (.int m)] = .ret (.dat (namesD (fs.take m))) [.own false (srcC a' b c'), .dat (.int m)] ∧ Src (k + 1) a' b c' := by
  obtain ⟨d, a', c', e, h0, h1, S'⟩ := pick_ok S hk (n := 5) (by omega) (by decide)
  obtain ⟨j, rfl⟩ : ∃ j : Nat, d = j := ⟨d.toNat, by omega⟩
  have hj : j < menuF.length := by
    have : menuF.length = 5 := rfl
    omega
  refine ⟨menuF[j], a', c', List.getElem_mem _, ?_, S'⟩
  have ha := at_nat (menuF.map namesD) j (by simpa using hj)
  rw [List.getElem_map] at ha
  generalize menuF[j] = fs at ha
  simp only [menuF, List.map, namesD] at ha
  have f5 : Fits 5 := fits_sm (by decide)
  have ec := cut_pre (fs.map D.str) m
  simp [m__law_fact_names, g__law_fact_names, runBody, isOwn, isOwnL, f5, e, ha, fSl, ec, List.map_take]
theorem dnames_ok {k : Nat} {a b c : Int} (S : Src k a b c) (hk : k < 2 ^ 60) (m : Nat) : ∃ fs a' c', fs ∈ menuN ∧ m__law_deed_names [.own false (srcC a b c), .dat (.int m)] = .ret (.dat (namesD (fs.take m))) [.own false (srcC a' b c'), .dat (.int m)] ∧ Src (k + 1) a' b c' := by
  obtain ⟨d, a', c', e, h0, h1, S'⟩ := pick_ok S hk (n := 5) (by omega) (by decide)
  obtain ⟨j, rfl⟩ : ∃ j : Nat, d = j := ⟨d.toNat, by omega⟩
  have hj : j < menuN.length := by
    have : menuN.length = 5 := rfl
    omega
  refine ⟨menuN[j], a', c', List.getElem_mem _, ?_, S'⟩
  have ha := at_nat (menuN.map namesD) j (by simpa using hj)
  rw [List.getElem_map] at ha
  generalize menuN[j] = fs at ha
  simp only [menuN, List.map, namesD] at ha
  have f5 : Fits 5 := fits_sm (by decide)
  have ec := cut_pre (fs.map D.str) m
  simp [m__law_deed_names, g__law_deed_names, runBody, isOwn, isOwnL, f5, e, ha, fSl, ec, List.map_take]
theorem names_take {fs : List Str} (m : Nat) (h : ∀ x ∈ fs, NameOk x) (hl : fs.length = 3) : NamesOk (fs.take m) := ⟨fun x hx => h x (List.mem_of_mem_take hx), by rw [List.length_take]; omega⟩
/-- a leaf is drawn -/
theorem leaf_ok {k : Nat} {a b c : Int} (S : Src k a b c) (hk : k + 40 < 2 ^ 50) (fs ds : List Str) (ok : NamesOk fs) (okd : NamesOk ds) :
    ∃ (h : H0) (a' b' c' : Int), m__law_leaf [.own false (srcC a b c), .dat (namesD fs), .dat (namesD ds)] = .ret (.dat (.tup (h.ds false))) [.own false (srcC a' b' c'), .dat (namesD fs), .dat (namesD ds)] ∧ Src (k + 40) a' b' c' ∧ h.ok := by
  obtain ⟨d, a1, c1, e1, l1, u1, S1⟩ := pick_ok S (n := 12) (by omega) (by omega) (by decide)
  have hin := in_ints false d [5, 8]
  simp only [List.map, Bool.false_eq_true, if_false] at hin
  by_cases h1 : (d = 5 ∨ d = 8) ∧ 0 < fs.length
  · obtain ⟨s, a2, b2, c2, e2, S2, o2, t2, z2⟩ := say_ok fs 1 32 (by omega) (by omega) (k + 1) _ _ _ S1 (by simp only [sayP]; omega) ok
    have hc : [(5 : Int), 8].contains d = true := by rcases h1.1 with rfl | rfl <;> rfl
    rw [hc] at hin
    have hl : 0 < fs.length := h1.2
    rw [show ((1 : Nat) : Int) = 1 from rfl] at e2
    have so : SayOk s := ⟨o2, by omega, by simp only [sayS] at z2; omega⟩
    by_cases h5 : d = 5
    · subst h5
      refine ⟨.need s, a2, b2, c2, ?_, S2.mono (by simp only [sayP]; omega), so⟩
      simp only [m__law_leaf, g__law_leaf, runBody]
      simp [e1, hin, hl, e2, isOwn, isOwnL, H0.ds]
    · refine ⟨.grant s, a2, b2, c2, ?_, S2.mono (by simp only [sayP]; omega), so⟩
      simp only [m__law_leaf, g__law_leaf, runBody]
      simp [e1, hin, hl, e2, isOwn, isOwnL, H0.ds, h5]
  obtain ⟨bt, hbt, hbt2⟩ : ∃ bt : Bool, [(5 : Int), 8].contains d = bt ∧ (bt = true → ¬ 0 < fs.length) := by
    refine ⟨_, rfl, fun h => ?_⟩
    have : d = 5 ∨ d = 8 := by simpa using h
    exact fun q => h1 ⟨this, q⟩
  rw [hbt] at hin
  have fin : ∀ k a c, Src k a b c → k < 2 ^ 60 → ∃ (h : H0) (a' c' : Int), (gRet (gIf (gOr (gB (gBin (fEq false) (gVar 3) (gO (gC (.int 7))))) (gB (gBin (fEq false) (gO (gV (gCall fLen (gaCons (gVar 2) gaNil)))) (gO (gC (.int 0)))))) (gE (gTup (gsCons (gC (.str "pass")) gsNil))) (gE (gTup (gsCons (gC (.str "deed")) (gsCons (gV (gBin fIxU (gVar 2) (gO (gV (gCallF m__law_pick [] (gaCons (gVar 0) (gaCons (gO (gV (gCall fLen (gaCons (gVar 2) gaNil)))) gaNil))))))) gsNil))))))
      [.own false (srcC a b c), .dat (namesD fs), .dat (namesD ds), .dat (.int d)] = .rt (.dat (.tup (h.ds false))) [.own false (srcC a' b c'), .dat (namesD fs), .dat (namesD ds), .dat (.int d)] ∧ Src (k + 1) a' b c' ∧ h.ok := by
    intro k a c S hk
    by_cases h7 : d = 7
    · subst h7
      exact ⟨.pass, a, c, by simp [H0.ds], S.mono (by omega), trivial⟩
    by_cases hd : ds = []
    · subst hd
      exact ⟨.pass, a, c, by simp [H0.ds], S.mono (by omega), trivial⟩
    have hpos : 0 < ds.length := List.length_pos_iff.mpr hd
    have hlog : (ds.length : Int).natAbs.log2 < 4000 := by
      rw [Int.natAbs_natCast]
      have := Nat.log2_le_self ds.length
      have := okd.2
      omega
    obtain ⟨t, a', c', e, l, u, S'⟩ := pick_ok S hk (n := ds.length) (by omega) hlog
    obtain ⟨x, hx, e2⟩ := name_at ds t l u
    have hne : ((ds.length : Int) == 0) = false := by
      simp
      omega
    exact ⟨.deed x, a', c', by simp [H0.ds, h7, hd, hne, e, e2], S', okd.1 x hx⟩
  by_cases h9 : d = 9
  · subst h9
    obtain ⟨t, a2, c2, e2, l2, u2, S2⟩ := pick_ok S1 (n := 3) (by omega) (by omega) (by decide)
    by_cases ht : t = 1
    · subst ht
      obtain ⟨t, a3, c3, e3, l3, u3, S3⟩ := pick_ok S2 (n := 2) (by omega) (by omega) (by decide)
      by_cases h : t = 0
      · subst h
        refine ⟨.win, a3, b, c3, ?_, S3.mono (by omega), trivial⟩
        simp only [m__law_leaf, g__law_leaf, runBody]
        cases bt
        · simp [e1, hin, e2, e3, isOwn, isOwnL, H0.ds]
        · have hz := hbt2 rfl
          simp [e1, hin, hz, e2, e3, isOwn, isOwnL, H0.ds]
      · refine ⟨.lose, a3, b, c3, ?_, S3.mono (by omega), trivial⟩
        simp only [m__law_leaf, g__law_leaf, runBody]
        cases bt
        · simp [e1, hin, e2, e3, isOwn, isOwnL, H0.ds, h]
        · have hz := hbt2 rfl
          simp [e1, hin, hz, e2, e3, isOwn, isOwnL, H0.ds, h]
    · obtain ⟨h, a3, c3, e3, S3, o⟩ := fin _ _ _ S2 (by omega)
      refine ⟨h, a3, b, c3, ?_, S3.mono (by omega), o⟩
      simp only [m__law_leaf, g__law_leaf, runBody]
      rw [show (9 : Int) = 9 from rfl] at e3
      generalize hgr : gRet _ = gr at e3
      cases bt
      · simp [e1, hin, e2, e3, isOwn, isOwnL, ht]
      · have hz := hbt2 rfl
        simp [e1, hin, hz, e2, e3, isOwn, isOwnL, ht]
  · obtain ⟨h, a3, c3, e3, S3, o⟩ := fin _ _ _ S1 (by omega)
    refine ⟨h, a3, b, c3, ?_, S3.mono (by omega), o⟩
    simp only [m__law_leaf, g__law_leaf, runBody]
    generalize hgr : gRet (gIf (gOr (gB (gBin (fEq false) (gVar 3) (gO (gC (.int 7))))) (gB (gBin (fEq false) (gO (gV (gCall fLen (gaCons (gVar 2) gaNil)))) (gO (gC (.int 0)))))) (gE (gTup (gsCons (gC (.str "pass")) gsNil))) (gE (gTup (gsCons (gC (.str "deed")) (gsCons (gV (gBin fIxU (gVar 2) (gO (gV (gCallF m__law_pick [] (gaCons (gVar 0) (gaCons (gO (gV (gCall fLen (gaCons (gVar 2) gaNil)))) gaNil))))))) gsNil))))) = gr at e3
    cases bt
    · simp [e1, hin, e3, isOwn, isOwnL, h9]
    · have hz := hbt2 rfl
      simp [e1, hin, hz, e3, isOwn, isOwnL, h9]
end G07
end M07s_text

section M07t_text
set_option maxHeartbeats 2000000
namespace G07
open PySem Pd
def treeP (size : Nat) : Nat := 40 * (2 * size + 1)
abbrev TreeG (n : Nat) (fs ds : List Str) (size : Nat) : Prop := ∀ (k : Nat) (a b c : Int), Src k a b c → k + treeP size < 2 ^ 49 →
  ∃ (t : Tree) (a' b' c' : Int), m__law_tree n [.own false (srcC a b c), .dat (namesD fs), .dat (namesD ds), .dat (.int size)] = .ret (.dat (t.toD false)) [.own false (srcC a' b' c'), .dat (namesD fs), .dat (namesD ds), .dat (.int size)] ∧
    Src (k + treeP size) a' b' c' ∧ t.ok ∧ t.plain ∧ t.size ≤ 2 * size + 1 ∧ t.height ≤ size
theorem tree_small (n : Nat) (fs ds : List Str) (ok : NamesOk fs) (okd : NamesOk ds) (size : Nat) (hs : size < 2) : TreeG (n + 1) fs ds size := by
  intro k a b c S hk
  simp only [treeP] at hk
  obtain ⟨h, a2, b2, c2, e2, S2, o⟩ := leaf_ok S (by omega) fs ds ok okd
  refine ⟨.leaf h, a2, b2, c2, ?_, S2.mono (by simp only [treeP]; omega), o, trivial, by simp only [Tree.size]; omega, by simp only [Tree.height]; omega⟩
  simp only [m__law_tree, g__law_tree, runBody]
  have hs' : (size : Int) < 2 := by omega
  simp [hs, hs', e2, isOwn, isOwnL, Tree.toD, mk]
theorem max_of (size : Nat) (hs : 2 ≤ size) : ∃ m : Nat, fMax2 [.int 1, .int ((size : Int) - 2)] = some (.dat (.int m)) ∧ 0 < m ∧ m + 1 ≤ size := by
  by_cases h : (size : Int) - 2 > 1
  · refine ⟨size - 2, ?_, by omega, by omega⟩
    simp only [fMax2, h, if_true]
    rw [show ((size - 2 : Nat) : Int) = (size : Int) - 2 by omega]
  · refine ⟨1, ?_, by omega, by omega⟩
    simp only [fMax2, h, if_false]
    rfl
theorem tree_step (n : Nat) (fs ds : List Str) (ok : NamesOk fs) (okd : NamesOk ds) (size : Nat) (hs : 2 ≤ size) (hs2 : size ≤ 1000) (IH : ∀ j, j < size → TreeG n fs ds j) : TreeG (n + 1) fs ds size := by
  intro k a b c S hk
  simp only [treeP] at hk
  have hs' : ¬ ((size : Int) < 2) := by omega
  have hs'' : ¬ (size < 2) := by omega
  obtain ⟨d, a1, c1, e1, l1, u1, S1⟩ := pick_ok S (n := 12) (by omega) (by omega) (by decide)
  have hin := in_ints false d [7, 10]
  simp only [List.map, Bool.false_eq_true, if_false] at hin
  have f2 : Fits 2 := fits2
  have f6 : Fits 6 := fits_sm (by decide)
  have f3 : Fits (1 + 1) := fits2
  by_cases h1 : d = 7 ∨ d = 10
  · have hc : [(7 : Int), 10].contains d = true := by rcases h1 with rfl | rfl <;> rfl
    rw [hc] at hin
    by_cases hw : d = 7 ∧ 0 < fs.length
    · obtain ⟨h7, hf⟩ := hw
      subst h7
      obtain ⟨s, a2, b2, c2, e2, S2, o2, t2, z2⟩ := say_ok fs 1 32 (by omega) (by omega) (k + 1) _ _ _ S1 (by simp only [sayP]; omega) ok
      rw [show ((1 : Nat) : Int) = 1 from rfl] at e2
      have so : SayOk s := ⟨o2, by omega, by simp only [sayS] at z2; omega⟩
      obtain ⟨t, a3, b3, c3, e3, S3, o3, p3, z3, h3⟩ := IH (size - 1) (by omega) (k + 1 + sayP 1) _ _ _ S2 (by simp only [treeP, sayP]; omega)
      rw [show ((size - 1 : Nat) : Int) = (size : Int) - 1 by omega] at e3
      have hq : fEq false (.str "while") (.str "while") = some (.dat (.bl true)) := by kernel_rfl
      refine ⟨.one (.while s) t, a3, b3, c3, ?_, S3.mono (by simp only [treeP, sayP]; omega), ⟨so, o3⟩, p3, by simp only [Tree.size]; omega, by simp only [Tree.height]; omega⟩
      simp only [m__law_tree, g__law_tree, runBody]
      simp [hs', hs'', e1, hin, hf, e2, e3, hq, isOwn, isOwnL, Tree.toD, mk, H1.ds, fAdd]
    · obtain ⟨t2, a2, c2, e2, l2, u2, S2⟩ := pick_ok S1 (n := 2) (by omega) (by omega) (by decide)
      obtain ⟨t, a3, b3, c3, e3, S3, o3, p3, z3, h3⟩ := IH (size - 1) (by omega) (k + 1 + 1) _ _ _ S2 (by simp only [treeP]; omega)
      rw [show ((size - 1 : Nat) : Int) = (size : Int) - 1 by omega] at e3
      have hq : fEq false (.str "more") (.str "while") = some (.dat (.bl false)) := by kernel_rfl
      have hq2 : fEq false (.str "each") (.str "while") = some (.dat (.bl false)) := by kernel_rfl
      by_cases h7 : d = 7
      · subst h7
        have hf : ¬ 0 < fs.length := fun q => hw ⟨rfl, q⟩
        by_cases ht : t2 = 0
        · subst ht
          refine ⟨.one .each t, a3, b3, c3, ?_, S3.mono (by simp only [treeP]; omega), ⟨trivial, o3⟩, p3, by simp only [Tree.size]; omega, by simp only [Tree.height]; omega⟩
          simp only [m__law_tree, g__law_tree, runBody]
          simp [hs', hs'', e1, hin, hf, e2, e3, hq2, isOwn, isOwnL, Tree.toD, mk, H1.ds, fAdd]
        · refine ⟨.one .more t, a3, b3, c3, ?_, S3.mono (by simp only [treeP]; omega), ⟨trivial, o3⟩, p3, by simp only [Tree.size]; omega, by simp only [Tree.height]; omega⟩
          simp only [m__law_tree, g__law_tree, runBody]
          simp [hs', hs'', e1, hin, hf, e2, e3, hq, ht, isOwn, isOwnL, Tree.toD, mk, H1.ds, fAdd]
      · by_cases ht : t2 = 0
        · subst ht
          refine ⟨.one .each t, a3, b3, c3, ?_, S3.mono (by simp only [treeP]; omega), ⟨trivial, o3⟩, p3, by simp only [Tree.size]; omega, by simp only [Tree.height]; omega⟩
          simp only [m__law_tree, g__law_tree, runBody]
          simp [hs', hs'', e1, hin, h7, e2, e3, hq2, isOwn, isOwnL, Tree.toD, mk, H1.ds, fAdd]
        · refine ⟨.one .more t, a3, b3, c3, ?_, S3.mono (by simp only [treeP]; omega), ⟨trivial, o3⟩, p3, by simp only [Tree.size]; omega, by simp only [Tree.height]; omega⟩
          simp only [m__law_tree, g__law_tree, runBody]
          simp [hs', hs'', e1, hin, h7, e2, e3, hq, ht, isOwn, isOwnL, Tree.toD, mk, H1.ds, fAdd]
  have hc : [(7 : Int), 10].contains d = false := by
    simp only [not_or] at h1
    simp [h1]
  rw [hc] at hin
  obtain ⟨m, em, m0, m1⟩ := max_of size hs
  have hlog : (m : Int).natAbs.log2 < 4000 := by
    rw [Int.natAbs_natCast]
    have := Nat.log2_le_self m
    omega
  obtain ⟨q, a2, c2, e2, l2, u2, S2⟩ := pick_ok S1 (n := m) (by omega) (by omega) hlog
  obtain ⟨j, rfl⟩ : ∃ j : Nat, q = j := ⟨q.toNat, by omega⟩
  obtain ⟨tA, a3, b3, c3, e3, S3, o3, p3, z3, h3⟩ := IH (1 + j) (by omega) (k + 1 + 1) _ _ _ S2 (by simp only [treeP]; omega)
  obtain ⟨tB, a4, b4, c4, e4, S4, o4, p4, z4, h4⟩ := IH (size - 1 - (1 + j)) (by omega) (k + 1 + 1 + treeP (1 + j)) _ _ _ S3 (by simp only [treeP]; omega)
  rw [show ((size - 1 - (1 + j) : Nat) : Int) = (size : Int) - 1 - (1 + j) by omega] at e4
  rw [show ((1 + j : Nat) : Int) = 1 + (j : Int) by omega] at e3
  have hP : k + 1 + 1 + treeP (1 + j) + treeP (size - 1 - (1 + j)) + 15 ≤ k + treeP size := by simp only [treeP]; omega
  have hsz : ∀ h : H2, (Tree.two h tA tB).size ≤ 2 * size + 1 := fun h => by simp only [Tree.size]; omega
  have hht : ∀ h : H2, (Tree.two h tA tB).height ≤ size := fun h => by simp only [Tree.height]; omega
  by_cases hw : d = 5 ∧ 0 < fs.length
  · obtain ⟨h5, hf⟩ := hw
    subst h5
    obtain ⟨s, a5, b5, c5, e5, S5, o5, t5, z5⟩ := say_ok fs 1 32 (by omega) (by omega) _ _ _ _ S4 (by simp only [sayP]; simp only [treeP] at hP ⊢; omega) ok
    rw [show ((1 : Nat) : Int) = 1 from rfl] at e5
    have so : SayOk s := ⟨o5, by omega, by simp only [sayS] at z5; omega⟩
    refine ⟨.two (.if s) tA tB, a5, b5, c5, ?_, S5.mono (by simp only [sayP]; omega), ⟨so, o3, o4⟩, ⟨p3, p4⟩, hsz _, hht _⟩
    simp only [m__law_tree, g__law_tree, runBody]
    simp [hs', hs'', e1, hin, em, e2, e3, e4, e5, hf, isOwn, isOwnL, Tree.toD, mk, H2.ds, fAdd]
  have hin2 := in_ints false d [0, 3, 5, 6, 9, 11]
  simp only [List.map, Bool.false_eq_true, if_false] at hin2
  have hin3 := in_ints false d [1, 4]
  simp only [List.map, Bool.false_eq_true, if_false] at hin3
  have hcond : ∃ bt : Bool, (d == 5) = bt ∧ (bt = true → ¬ 0 < fs.length) := ⟨_, rfl, fun h q => hw ⟨by simpa using h, q⟩⟩
  obtain ⟨bt, hb1, hb2⟩ := hcond
  obtain ⟨x2, hx2⟩ : ∃ x2, [(0 : Int), 3, 5, 6, 9, 11].contains d = x2 := ⟨_, rfl⟩
  obtain ⟨x3, hx3⟩ : ∃ x3, [(1 : Int), 4].contains d = x3 := ⟨_, rfl⟩
  rw [hx2] at hin2
  rw [hx3] at hin3
  have hone : Tree.ok (.two (if x2 then .then else if x3 then .own else .other) tA tB) := by
    cases x2 <;> cases x3 <;> exact ⟨trivial, o3, o4⟩
  refine ⟨.two (if x2 then .then else if x3 then .own else .other) tA tB, a4, b4, c4, ?_, S4.mono (by omega), hone, ⟨p3, p4⟩, hsz _, hht _⟩
  simp only [m__law_tree, g__law_tree, runBody]
  cases bt
  · cases x2 <;> cases x3 <;> simp [hs', hs'', e1, hin, em, e2, e3, e4, hb1, hin2, hin3, f6, isOwn, isOwnL, Tree.toD, mk, H2.ds, fAdd]
  · have hf := hb2 rfl
    cases x2 <;> cases x3 <;> simp [hs', hs'', e1, hin, em, e2, e3, e4, hb1, hf, hin2, hin3, f6, isOwn, isOwnL, Tree.toD, mk, H2.ds, fAdd]
theorem tree_ok (fs ds : List Str) (ok : NamesOk fs) (okd : NamesOk ds) : ∀ (n size : Nat), size < n → size ≤ 1000 → TreeG n fs ds size
  | n + 1, size, h, h2 => by
    by_cases hs : size < 2
    · exact tree_small n fs ds ok okd size hs
    · exact tree_step n fs ds ok okd size (by omega) h2 fun j hj => tree_ok fs ds ok okd n j (by omega) (by omega)
end G07
end M07t_text

section M07u_text
set_option maxHeartbeats 2000000
namespace G07
open PySem Pd
/-- the first odd part -/
def Tree.fst : Tree → Option Nat
  | .leaf _ => none
  | .one _ a => a.fst.map (· + 1)
  | .two _ a b => match a.fst with
    | some i => some (i + 1)
    | none => b.fst.map (· + (a.size + 1))
  | .odd _ _ => some 0
theorem fst_plain : ∀ t : Tree, t.plain → t.fst = none
  | .leaf _, _ => rfl
  | .one _ a, h => by simp [Tree.fst, fst_plain a h]
  | .two _ a b, h => by simp [Tree.fst, fst_plain a h.1, fst_plain b h.2]
theorem fst_lt : ∀ (t : Tree) (i : Nat), t.fst = some i → i < t.size
  | .one _ a, i, h => by
    simp only [Tree.fst, Option.map_eq_some_iff] at h
    obtain ⟨j, h, rfl⟩ := h
    have := fst_lt a j h
    simp only [Tree.size]
    omega
  | .two _ a b, i, h => by
    simp only [Tree.fst] at h
    cases ha : a.fst with
    | some j =>
      rw [ha] at h
      cases h
      have := fst_lt a j ha
      simp only [Tree.size]
      omega
    | none =>
      rw [ha] at h
      simp only [Option.map_eq_some_iff] at h
      obtain ⟨j, h, rfl⟩ := h
      have := fst_lt b j h
      simp only [Tree.size]
      omega
  | .odd _ _, i, h => by
    cases h
    exact Nat.zero_lt_one
theorem walkT_fst : ∀ (t : Tree) (d s : Nat), s + t.size ≤ 60 → d + t.height ≤ 20 → walkT t d s = match t.fst with
    | none => .ok (s + t.size)
    | some i => .error (s + i)
  | .leaf _, d, s, h1, h2 => by
    simp only [Tree.size, Tree.height] at h1 h2
    simp only [walkT, Tree.fst, Tree.size]
    rw [if_neg (by omega)]
  | .one _ a, d, s, h1, h2 => by
    simp only [Tree.size, Tree.height] at h1 h2
    have I := walkT_fst a (d + 1) (s + 1) (by omega) (by omega)
    simp only [walkT, Tree.fst, Tree.size]
    rw [if_neg (by omega), I]
    cases ha : a.fst with
    | none => simp only [Option.map_none]; congr 1; omega
    | some i => simp only [Option.map_some]; congr 1; omega
  | .two _ a b, d, s, h1, h2 => by
    simp only [Tree.size, Tree.height] at h1 h2
    have I := walkT_fst a (d + 1) (s + 1) (by omega) (by omega)
    simp only [walkT, Tree.fst, Tree.size]
    rw [if_neg (by omega), I]
    cases ha : a.fst with
    | none =>
      have I2 := walkT_fst b (d + 1) (s + 1 + a.size) (by omega) (by omega)
      simp only [I2]
      cases hb : b.fst with
      | none => simp only [Option.map_none]; congr 1; omega
      | some i => simp only [Option.map_some]; congr 1; omega
    | some i => simp only; congr 1; omega
  | .odd _ _, d, s, h1, h2 => rfl
theorem putT_size : ∀ (t : Tree) (s : Nat) (d dl : D), (putT t s (.odd d dl)).size ≤ t.size
  | t, 0, d, dl => by
    have := size_pos t
    cases t <;> simpa [putT, Tree.size] using this
  | .one h a, s + 1, d, dl => by
    have := putT_size a s d dl
    simp only [putT, Tree.size]
    omega
  | .two h a b, s + 1, d, dl => by
    simp only [putT]
    split
    · have := putT_size a s d dl
      simp only [Tree.size]
      omega
    · have := putT_size b (s - a.size) d dl
      simp only [Tree.size]
      omega
  | .leaf _, s + 1, d, dl => Nat.le_refl _
  | .odd _ _, s + 1, d, dl => Nat.le_refl _
theorem putT_height : ∀ (t : Tree) (s : Nat) (d dl : D), (putT t s (.odd d dl)).height ≤ t.height
  | t, 0, d, dl => by cases t <;> simp [putT, Tree.height]
  | .one h a, s + 1, d, dl => by
    have := putT_height a s d dl
    simp only [putT, Tree.height]
    omega
  | .two h a b, s + 1, d, dl => by
    simp only [putT]
    split
    · have := putT_height a s d dl
      simp only [Tree.height]
      omega
    · have := putT_height b (s - a.size) d dl
      simp only [Tree.height]
      omega
  | .leaf _, s + 1, d, dl => Nat.le_refl _
  | .odd _ _, s + 1, d, dl => Nat.le_refl _
theorem putT_ok : ∀ (t : Tree) (s : Nat) (p : Tree), t.ok → p.ok → (putT t s p).ok
  | t, 0, p, h, hp => by cases t <;> exact hp
  | .one _ a, s + 1, p, h, hp => ⟨h.1, putT_ok a s p h.2 hp⟩
  | .two _ a b, s + 1, p, h, hp => by
    simp only [putT]
    split
    · exact ⟨h.1, putT_ok a s p h.2.1 hp, h.2.2⟩
    · exact ⟨h.1, h.2.1, putT_ok b _ p h.2.2 hp⟩
  | .leaf _, s + 1, p, h, hp => h
  | .odd _ _, s + 1, p, h, hp => h
theorem putT_tame : ∀ (t : Tree) (s : Nat) (p : Tree), t.tame → p.tame → (putT t s p).tame
  | t, 0, p, h, hp => by cases t <;> exact hp
  | .one _ a, s + 1, p, h, hp => putT_tame a s p h hp
  | .two _ a b, s + 1, p, h, hp => by
    simp only [putT]
    split
    · exact ⟨putT_tame a s p h.1 hp, h.2⟩
    · exact ⟨h.1, putT_tame b _ p h.2 hp⟩
  | .leaf _, s + 1, p, h, hp => h
  | .odd _ _, s + 1, p, h, hp => h
theorem lis_plain (k : Nat) : ∀ t : Tree, t.plain → t.ok → t.lis k
  | .leaf _, _, o => o
  | .one _ a, p, o => ⟨o.1, lis_plain k a p o.2⟩
  | .two _ a b, p, o => ⟨o.1, lis_plain k a p.1 o.2.1, lis_plain k b p.2 o.2.2⟩
theorem putT_lis (k : Nat) : ∀ (t : Tree) (s : Nat) (p : Tree), t.lis k → p.lis k → (putT t s p).lis k
  | t, 0, p, h, hp => by cases t <;> exact hp
  | .one _ a, s + 1, p, h, hp => ⟨h.1, putT_lis k a s p h.2 hp⟩
  | .two _ a b, s + 1, p, h, hp => by
    simp only [putT]
    split
    · exact ⟨h.1, putT_lis k a s p h.2.1 hp, h.2.2⟩
    · exact ⟨h.1, h.2.1, putT_lis k b _ p h.2.2 hp⟩
  | .leaf _, s + 1, p, h, hp => h
  | .odd _ _, s + 1, p, h, hp => h
/-- a wrong part is the first one if no other lies ahead -/
theorem putT_fst : ∀ (t : Tree) (s : Nat) (d dl : D), s < t.size → (∀ j, t.fst = some j → s ≤ j) → (putT t s (.odd d dl)).fst = some s
  | t, 0, d, dl, _, _ => by cases t <;> rfl
  | .one _ a, s + 1, d, dl, h1, h2 => by
    simp only [Tree.size] at h1
    have I := putT_fst a s d dl (by omega) fun j hj => by
      have := h2 (j + 1) (by simp [Tree.fst, hj])
      omega
    simp [putT, Tree.fst, I]
  | .two _ a b, s + 1, d, dl, h1, h2 => by
    simp only [Tree.size] at h1
    simp only [putT]
    split
    · rename_i hc
      have I := putT_fst a s d dl hc fun j hj => by
        have := h2 (j + 1) (by simp [Tree.fst, hj])
        omega
      simp [Tree.fst, I]
    · rename_i hc
      have ha : a.fst = none := by
        cases ha : a.fst with
        | none => rfl
        | some j =>
          have := h2 (j + 1) (by simp [Tree.fst, ha])
          have := fst_lt a j ha
          omega
      have I := putT_fst b (s - a.size) d dl (by omega) fun j hj => by
        have := h2 (j + (a.size + 1)) (by simp [Tree.fst, ha, hj])
        omega
      simp [Tree.fst, ha, I]
      omega
  | .leaf _, s + 1, d, dl, h1, _ => by
    simp only [Tree.size] at h1
    omega
  | .odd _ _, s + 1, d, dl, h1, _ => by
    simp only [Tree.size] at h1
    omega
/-- the tree with a part replaced is longer than a spot ahead -/
theorem putT_long : ∀ (t : Tree) (s : Nat) (d dl : D), s < t.size → s < (putT t s (.odd d dl)).size
  | t, 0, d, dl, _ => by cases t <;> simp [putT, Tree.size]
  | .one _ a, s + 1, d, dl, h1 => by
    simp only [Tree.size] at h1
    have := putT_long a s d dl (by omega)
    simp only [putT, Tree.size]
    omega
  | .two _ a b, s + 1, d, dl, h1 => by
    simp only [Tree.size] at h1
    simp only [putT]
    split
    · have := putT_long a s d dl (by omega)
      simp only [Tree.size]
      omega
    · have := putT_long b (s - a.size) d dl (by omega)
      simp only [Tree.size]
      omega
  | .leaf _, s + 1, d, dl, h1 => by
    simp only [Tree.size] at h1
    omega
  | .odd _ _, s + 1, d, dl, h1 => by
    simp only [Tree.size] at h1
    omega
/-- the part at a spot -/
theorem pre_plain : ∀ (t : Tree), t.plain → ∀ p ∈ t.pre, p.plain ∧ p.height ≤ t.height ∧ p.size ≤ t.size
  | .leaf _, h, p, hp => by
    simp only [Tree.pre, List.mem_singleton] at hp
    subst hp
    exact ⟨h, Nat.le_refl _, Nat.le_refl _⟩
  | .one _ a, h, p, hp => by
    simp only [Tree.pre, List.mem_cons] at hp
    rcases hp with rfl | hp
    · exact ⟨h, Nat.le_refl _, Nat.le_refl _⟩
    · obtain ⟨q, h1, h2⟩ := pre_plain a h p hp
      exact ⟨q, by simp only [Tree.height]; omega, by simp only [Tree.size]; omega⟩
  | .two _ a b, h, p, hp => by
    simp only [Tree.pre, List.mem_cons, List.mem_append] at hp
    rcases hp with rfl | hp | hp
    · exact ⟨h, Nat.le_refl _, Nat.le_refl _⟩
    · obtain ⟨q, h1, h2⟩ := pre_plain a h.1 p hp
      exact ⟨q, by simp only [Tree.height]; omega, by simp only [Tree.size]; omega⟩
    · obtain ⟨q, h1, h2⟩ := pre_plain b h.2 p hp
      exact ⟨q, by simp only [Tree.height]; omega, by simp only [Tree.size]; omega⟩
theorem pre_ok : ∀ (t : Tree), t.ok → ∀ p ∈ t.pre, p.ok
  | .leaf _, h, p, hp => by
    simp only [Tree.pre, List.mem_singleton] at hp
    subst hp
    exact h
  | .odd _ _, h, p, hp => by
    simp only [Tree.pre, List.mem_singleton] at hp
    subst hp
    exact h
  | .one _ a, h, p, hp => by
    simp only [Tree.pre, List.mem_cons] at hp
    rcases hp with rfl | hp
    · exact h
    · exact pre_ok a h.2 p hp
  | .two _ a b, h, p, hp => by
    simp only [Tree.pre, List.mem_cons, List.mem_append] at hp
    rcases hp with rfl | hp | hp
    · exact h
    · exact pre_ok a h.2.1 p hp
    · exact pre_ok b h.2.2 p hp
/-! shape -/
theorem say_lay : ∀ (s : Say) (l : Bool), s.ok → (s.toD l).lay (s.height + 1)
  | .yes, l, _ => by
    have h : PyData.strOk "yes" = true := by kernel_rfl
    cases l <;> exact ⟨Nat.succ_pos _, h, trivial⟩
  | .no, l, _ => by
    have h : PyData.strOk "no" = true := by kernel_rfl
    cases l <;> exact ⟨Nat.succ_pos _, h, trivial⟩
  | .fact x, l, o => by
    have h : PyData.strOk "fact" = true := by kernel_rfl
    cases l <;> exact ⟨Nat.succ_pos _, h, o.2, trivial⟩
  | .neg a, l, o => by
    have h : PyData.strOk "not" = true := by kernel_rfl
    have I := say_lay a l o
    cases l <;> exact ⟨Nat.succ_pos _, h, I, trivial⟩
  | .and a b, l, o => by
    have h : PyData.strOk "and" = true := by kernel_rfl
    have I := lay_mono _ _ (max a.height b.height + 1) (by omega) (say_lay a l o.1)
    have I2 := lay_mono _ _ (max a.height b.height + 1) (by omega) (say_lay b l o.2)
    cases l <;> exact ⟨Nat.succ_pos _, h, I, I2, trivial⟩
  | .or a b, l, o => by
    have h : PyData.strOk "or" = true := by kernel_rfl
    have I := lay_mono _ _ (max a.height b.height + 1) (by omega) (say_lay a l o.1)
    have I2 := lay_mono _ _ (max a.height b.height + 1) (by omega) (say_lay b l o.2)
    cases l <;> exact ⟨Nat.succ_pos _, h, I, I2, trivial⟩
theorem sayOk_lay {s : Say} (h : SayOk s) (l : Bool) : (s.toD l).lay 4 := lay_mono _ _ _ (by have := h.2.1; omega) (say_lay s l h.1)
theorem h0_lay (h : H0) (o : h.ok) (l : Bool) : D.lays (h.ds l) 4 := by
  cases h with
  | need s => exact ⟨(by kernel_rfl : PyData.strOk "need" = true), sayOk_lay o l, trivial⟩
  | grant s => exact ⟨(by kernel_rfl : PyData.strOk "grant" = true), sayOk_lay o l, trivial⟩
  | deed x => exact ⟨(by kernel_rfl : PyData.strOk "deed" = true), o.2, trivial⟩
  | pass => exact ⟨(by kernel_rfl : PyData.strOk "pass" = true), trivial⟩
  | lose => exact ⟨(by kernel_rfl : PyData.strOk "lose" = true), trivial⟩
  | win => exact ⟨(by kernel_rfl : PyData.strOk "win" = true), trivial⟩
theorem h1_lay (h : H1) (o : h.ok) (l : Bool) : D.lays (h.ds l) 4 := by
  cases h with
  | «while» s => exact ⟨(by kernel_rfl : PyData.strOk "while" = true), sayOk_lay o l, trivial⟩
  | more => exact ⟨(by kernel_rfl : PyData.strOk "more" = true), trivial⟩
  | each => exact ⟨(by kernel_rfl : PyData.strOk "each" = true), trivial⟩
theorem h2_lay (h : H2) (o : h.ok) (l : Bool) : D.lays (h.ds l) 4 := by
  cases h with
  | «if» s => exact ⟨(by kernel_rfl : PyData.strOk "if" = true), sayOk_lay o l, trivial⟩
  | «then» => exact ⟨(by kernel_rfl : PyData.strOk "then" = true), trivial⟩
  | own => exact ⟨(by kernel_rfl : PyData.strOk "own" = true), trivial⟩
  | other => exact ⟨(by kernel_rfl : PyData.strOk "other" = true), trivial⟩
theorem mk_lay {l : Bool} {xs : List D} {k : Nat} (h : D.lays xs k) : (mk l xs).lay (k + 1) := by
  cases l <;> exact ⟨Nat.succ_pos _, h⟩
theorem tree_lay (l : Bool) : ∀ t : Tree, t.plain → t.ok → (t.toD l).lay (t.height + 5)
  | .leaf h, _, o => mk_lay (h0_lay h o l)
  | .one h a, p, o => mk_lay (lays_app (lays_mono _ _ _ (by omega) (h1_lay h o.1 l)) ⟨tree_lay l a p o.2, trivial⟩)
  | .two h a b, p, o => mk_lay (lays_app (lays_mono _ _ _ (by omega) (h2_lay h o.1 l)) ⟨lay_mono _ _ _ (by simp only [Tree.height]; omega) (tree_lay l a p.1 o.2.1), lay_mono _ _ _ (by simp only [Tree.height]; omega) (tree_lay l b p.2 o.2.2), trivial⟩)
theorem preD_lay (t : Tree) (p : t.plain) (o : t.ok) : D.lays t.preD (t.height + 5) := lays_map _ _ _ fun x hx => by
  obtain ⟨p1, h1, _⟩ := pre_plain t p x hx
  exact lay_mono _ _ _ (by omega) (tree_lay false x p1 (pre_ok t o x hx))
theorem follow_lay : ∀ (t : Tree) (b : Int) (s : Nat), D.lays (follow t (.int b) s) 0
  | .leaf _, b, s => ⟨trivial, trivial⟩
  | .odd _ _, b, s => ⟨trivial, trivial⟩
  | .one _ a, b, s => ⟨trivial, follow_lay a _ _⟩
  | .two h a c, b, s => by
    cases h <;> exact ⟨trivial, lays_app (follow_lay a _ _) (follow_lay c _ _)⟩
end G07
end M07u_text

section M07v_text
set_option maxHeartbeats 2000000
namespace G07
open PySem Pd
def broadT : Nat → Nat → Tree
  | 0, _ => .leaf (.deed "a")
  | f + 1, m => if m = 1 then .leaf (.deed "a") else .two .then (broadT f (((m - 1) / 4) * 2 + 1)) (broadT f (m - 1 - (((m - 1) / 4) * 2 + 1)))
def towerT (h : H1) : Nat → Tree
  | 0 => .leaf (.deed "a")
  | n + 1 => .one h (towerT h n)
theorem okA : NameOk "a" := nameOk_of (by kernel_rfl) (by kernel_rfl)
theorem broadT_ok : ∀ f m, (broadT f m).ok
  | 0, _ => okA
  | f + 1, m => by
    simp only [broadT]
    split
    · exact okA
    · exact ⟨trivial, broadT_ok f _, broadT_ok f _⟩
theorem broadT_plain : ∀ f m, (broadT f m).plain
  | 0, _ => trivial
  | f + 1, m => by
    simp only [broadT]
    split
    · exact trivial
    · exact ⟨broadT_plain f _, broadT_plain f _⟩
theorem towerT_ok (h : H1) (o : h.ok) : ∀ n, (towerT h n).ok
  | 0 => okA
  | n + 1 => ⟨o, towerT_ok h o n⟩
theorem towerT_plain (h : H1) : ∀ n, (towerT h n).plain
  | 0 => trivial
  | n + 1 => towerT_plain h n
theorem broad59 : m__law_broad 32 [.dat (.int 59)] = .ret (.dat ((broadT 8 59).toD false)) [.dat (.int 59)] := by kernel_rfl
theorem broad61 : m__law_broad 32 [.dat (.int 61)] = .ret (.dat ((broadT 8 61).toD false)) [.dat (.int 61)] := by kernel_rfl
theorem tower_each : m__law_tower [.dat (.int 20), .dat (.str "each")] = .ret (.dat ((towerT .each 20).toD false)) [.dat (.int 20), .dat (.str "each")] := by kernel_rfl
theorem tower_while : m__law_tower [.dat (.int 20), .dat (.str "while")] = .ret (.dat ((towerT (.while .yes) 20).toD false)) [.dat (.int 20), .dat (.str "while")] := by kernel_rfl
theorem tower_more : m__law_tower [.dat (.int 21), .dat (.str "more")] = .ret (.dat ((towerT .more 21).toD false)) [.dat (.int 21), .dat (.str "more")] := by kernel_rfl
theorem size59 : (broadT 8 59).size = 59 := by kernel_rfl
theorem height59 : (broadT 8 59).height ≤ 14 := by decide +kernel
theorem towerT_size (h : H1) : ∀ n, (towerT h n).size = n + 1
  | 0 => rfl
  | n + 1 => by simp only [towerT, Tree.size, towerT_size h n]
theorem towerT_height (h : H1) : ∀ n, (towerT h n).height = n
  | 0 => rfl
  | n + 1 => by simp only [towerT, Tree.height, towerT_height h n]
theorem walk61 : walkT (broadT 8 61) 0 0 = .error 60 := by kernel_rfl
theorem walk61b : walkT (.one .more (.one .each (broadT 8 59))) 0 0 = .error 60 := by kernel_rfl
theorem walk21 : walkT (towerT .more 21) 0 0 = .error 21 := by kernel_rfl
/-- the law's _law_refusal -/
def refT (t : Tree) : SV := match walkT t 0 0 with
  | .ok _ => .dat .non
  | .error e => .dat (.int e)
theorem sub_bd : subT sub_BadDeal "BadDeal" = some true := by kernel_rfl
theorem isi_bd : subT isi_WrongNumber "BadDeal" = some true := by kernel_rfl
theorem fl_bd : ("BadDeal" : Str) ∈ fl_number := by simp [fl_number]
theorem lk_bd (d : D) : List.lookup ("number" : Str) [(("number" : Str), d)] = some d := by
  simp [List.lookup]
theorem refusal_ok (l : Bool) (t : Tree) (ok : t.ok) (w : Int) : m__law_refusal [.dat (.int w), .dat (t.toD l)] = .ret (refT t) [.dat (.int w), .dat (t.toD l)] := by
  have h0 := parts_ok l t ok
  have h1 := followers_ok l t ok
  have h2 := checked_ok l t ok
  unfold refT
  cases hw : walkT t 0 0 with
  | ok s =>
    rw [hw] at h0 h1 h2
    simp at h0 h1 h2
    by_cases w0 : w = 0
    · simp [m__law_refusal, g__law_refusal, runBody, isOwn, isOwnL, h0, w0]
    · by_cases w1 : w = 1
      · simp [m__law_refusal, g__law_refusal, runBody, isOwn, isOwnL, h1, w1]
      · simp [m__law_refusal, g__law_refusal, runBody, isOwn, isOwnL, h2, w0, w1]
  | error e =>
    rw [hw] at h0 h1 h2
    simp at h0 h1 h2
    have z : ∀ S : List SV, True := fun _ => trivial
    by_cases w0 : w = 0
    · simp [m__law_refusal, g__law_refusal, runBody, isOwn, isOwnL, h0, w0, gHand, gOut, finX, inX, unx, badDeal, sub_bd, isi_bd, fl_bd, lk_bd, exAt]
    · by_cases w1 : w = 1
      · simp [m__law_refusal, g__law_refusal, runBody, isOwn, isOwnL, h1, w1, gHand, gOut, finX, inX, unx, badDeal, sub_bd, isi_bd, fl_bd, lk_bd, exAt]
      · simp [m__law_refusal, g__law_refusal, runBody, isOwn, isOwnL, h2, w0, w1, gHand, gOut, finX, inX, unx, badDeal, sub_bd, isi_bd, fl_bd, lk_bd, exAt]
end G07
end M07v_text

section M07w_text
set_option maxHeartbeats 2000000
namespace G07
open PySem Pd
theorem seq_nx {g : GS} {S S1 : List SV} (e : g S = .nx S1) (h : GS) : gSeq g h S = h S1 := by
  show (g S).bind h = _
  rw [e]
  rfl
theorem seq_rt {g : GS} {S S1 : List SV} {sv : SV} (e : g S = .rt sv S1) (h : GS) : gSeq g h S = .rt sv S1 := by
  show (g S).bind h = _
  rw [e]
  rfl
abbrev tl_a18 : GS := (gRet (gBin (fIs false) (gO (gV (gCallF m__law_refusal [] (gaCons (gVar 11) (gaCons (gVar 4) gaNil))))) (gO (gC .non))))
abbrev tl_a1 : GS := (gSet 1 (gCallF m__law_source [] (gaCons (gVar 0) (gaCons (gO (gC (.int 0))) gaNil))))
abbrev tl_a2 : GS := (gSet 2 (gCallF m__law_fact_names [] (gaCons (gVar 1) (gaCons (gO (gV (gCallF m__law_pick [] (gaCons (gVar 1) (gaCons (gO (gC (.int 3))) gaNil))))) gaNil))))
abbrev tl_a3 : GS := (gSet 3 (gCallF m__law_deed_names [] (gaCons (gVar 1) (gaCons (gO (gV (gBin fAdd (gO (gC (.int 1))) (gO (gV (gCallF m__law_pick [] (gaCons (gVar 1) (gaCons (gO (gC (.int 3))) gaNil)))))))) gaNil))))
abbrev tl_a4 : GS := (gSet 4 (gCallF (m__law_tree 32) [] (gaCons (gVar 1) (gaCons (gVar 2) (gaCons (gVar 3) (gaCons (gO (gV (gBin fAdd (gO (gC (.int 1))) (gO (gV (gCallF m__law_pick [] (gaCons (gVar 1) (gaCons (gO (gC (.int 14))) gaNil)))))))) gaNil))))))
abbrev tl_a5 : GS := (gSet 5 (gCallF m__law_pick [] (gaCons (gVar 1) (gaCons (gO (gC (.int 9))) gaNil))))
abbrev tl_a6 : GS := (gIfS (gB (gBin (fEq false) (gVar 5) (gO (gC (.int 4))))) (gSeq (gSet 6 (gLst (gsCons (gV (gCallF (m__law_broad 32) [] (gaCons (gO (gC (.int 59))) gaNil))) (gsCons (gTup (gsCons (gC (.str "more")) (gsCons (gV (gCallF (m__law_broad 32) [] (gaCons (gO (gC (.int 59))) gaNil))) gsNil))) (gsCons (gV (gCallF m__law_tower [] (gaCons (gO (gC (.int 20))) (gaCons (gO (gC (.str "each"))) gaNil)))) (gsCons (gV (gCallF m__law_tower [] (gaCons (gO (gC (.int 20))) (gaCons (gO (gC (.str "while"))) gaNil)))) gsNil))))))
  (gSet 4 (gBin fIxU (gVar 6) (gO (gV (gCallF m__law_pick [] (gaCons (gVar 1) (gaCons (gO (gC (.int 4))) gaNil)))))))) gNx)
abbrev tl_a7 : GS := (gSet 7 (gCallF (m__law_parts 32) [] (gaCons (gVar 4) gaNil)))
abbrev tl_a8 : GS := (gIfS (gOr (gB (gBin (fEq true) (gO (gV (gCallF m_parts_of [] (gaCons (gVar 4) gaNil)))) (gO (gV (gCall fTuple (gaCons (gVar 7) gaNil)))))) (gB (gBin (fEq true) (gO (gV (gCallF m_parts_of [] (gaCons (gO (gV (gCallF (m__law_lists 32) [] (gaCons (gVar 4) gaNil)))) gaNil)))) (gO (gV (gCall fTuple (gaCons (gVar 7) gaNil))))))) (gRet (gE (gC (.bl false)))) gNx)
abbrev tl_a9 : GS := (gIfS (gOr (gB (gBin (fEq true) (gO (gV (gCallF m_followers [] (gaCons (gVar 4) gaNil)))) (gO (gV (gCall fTuple (gaCons (gO (gV (gCallF (m__law_follow 32) [] (gaCons (gVar 4) (gaCons (gO (gV (gCall fLen (gaCons (gVar 7) gaNil)))) (gaCons (gO (gC (.int 0))) gaNil)))))) gaNil)))))) (gB (gBin (fEq true) (gO (gV (gCallF m_checked_tree [] (gaCons (gO (gV (gCallF (m__law_lists 32) [] (gaCons (gVar 4) gaNil)))) gaNil)))) (gVar 4)))) (gRet (gE (gC (.bl false)))) gNx)
abbrev tl_a10 : GS := (gSet 8 (gCallF m__law_source [] (gaCons (gVar 0) (gaCons (gO (gC (.int 1))) gaNil))))
abbrev tl_a11 : GS := (gSet 9 (gCallF m__law_pick [] (gaCons (gVar 8) (gaCons (gO (gV (gCall fLen (gaCons (gVar 7) gaNil)))) gaNil))))
abbrev tl_a12 : GS := (gSet 10 (gCallF (m__law_put_at 32) [] (gaCons (gVar 4) (gaCons (gVar 9) (gaCons (gO (gV (gCallF m__law_wrong [] (gaCons (gVar 8) (gaCons (gO (gV (gBin fIxU (gVar 7) (gVar 9)))) gaNil))))) gaNil)))))
abbrev tl_a13 : GS := (gSet 11 (gCallF m__law_pick [] (gaCons (gVar 8) (gaCons (gO (gC (.int 3))) gaNil))))
abbrev tl_a14 : GS := (gIfS (gOr (gB (gBin (fEq true) (gO (gV (gCallF m__law_refusal [] (gaCons (gVar 11) (gaCons (gVar 10) gaNil))))) (gVar 9))) (gB (gBin (fEq true) (gO (gV (gCallF m__law_refusal [] (gaCons (gVar 11) (gaCons (gO (gV (gCallF (m__law_lists 32) [] (gaCons (gVar 10) gaNil)))) gaNil))))) (gVar 9)))) (gRet (gE (gC (.bl false)))) gNx)
abbrev tl_a15 : GS := (gSet 12 (gComp (gRng1 (gaCons (gO (gV (gCall fLen (gaCons (gVar 7) gaNil)))) gaNil)) (gtName 13) (gB (gBin fGt (gVar 13) (gO (gV (gBin fSub (gO (gV (gBin fAdd (gVar 9) (gO (gV (gCall fLen (gaCons (gO (gV (gCallF (m__law_parts 32) [] (gaCons (gO (gV (gBin fIxU (gVar 7) (gVar 9)))) gaNil)))) gaNil))))))) (gO (gC (.int 1)))))))) (gNam 13) [13]))
abbrev tl_a16 : GS := (gIfS (gB (gBin fGt (gO (gV (gCall fLen (gaCons (gVar 12) gaNil)))) (gO (gC (.int 0))))) (gSeq (gSet 14 (gBin fIxU (gVar 12) (gO (gV (gCallF m__law_pick [] (gaCons (gVar 8) (gaCons (gO (gV (gCall fLen (gaCons (gVar 12) gaNil)))) gaNil)))))))
  (gSeq (gSet 15 (gCallF (m__law_put_at 32) [] (gaCons (gO (gV (gCallF (m__law_put_at 32) [] (gaCons (gVar 4) (gaCons (gVar 14) (gaCons (gO (gTup (gsCons (gC (.str "both")) gsNil))) gaNil)))))) (gaCons (gVar 9) (gaCons (gO (gV (gCallF m__law_wrong [] (gaCons (gVar 8) (gaCons (gO (gV (gBin fIxU (gVar 7) (gVar 9)))) gaNil))))) gaNil)))))
  (gIfS (gB (gBin (fEq true) (gO (gV (gCallF m__law_refusal [] (gaCons (gVar 11) (gaCons (gVar 15) gaNil))))) (gVar 9))) (gRet (gE (gC (.bl false)))) gNx))) gNx)
abbrev tl_a17 : GS := (gIfS (gB (gBin (fEq false) (gO (gV (gCallF m__law_pick [] (gaCons (gVar 8) (gaCons (gO (gC (.int 4))) gaNil))))) (gO (gC (.int 2))))) (gSeq (gIfS (gB (gBin (fEq true) (gO (gV (gCallF m__law_refusal [] (gaCons (gVar 11) (gaCons (gO (gTup (gsCons (gC (.str "more")) (gsCons (gTup (gsCons (gC (.str "each")) (gsCons (gV (gCallF (m__law_broad 32) [] (gaCons (gO (gC (.int 59))) gaNil))) gsNil))) gsNil)))) gaNil))))) (gO (gC (.int 60))))) (gRet (gE (gC (.bl false)))) gNx)
  (gIfS (gOr (gB (gBin (fEq true) (gO (gV (gCallF m__law_refusal [] (gaCons (gVar 11) (gaCons (gO (gV (gCallF m__law_tower [] (gaCons (gO (gC (.int 21))) (gaCons (gO (gC (.str "more"))) gaNil))))) gaNil))))) (gO (gC (.int 21))))) (gB (gBin (fEq true) (gO (gV (gCallF m__law_refusal [] (gaCons (gVar 11) (gaCons (gO (gV (gCallF (m__law_broad 32) [] (gaCons (gO (gC (.int 61))) gaNil)))) gaNil))))) (gO (gC (.int 60)))))) (gRet (gE (gC (.bl false)))) gNx)) gNx)
def tl_18 : GS := tl_a18
def tl_17 : GS := gSeq (tl_a17) (tl_18)
theorem tl_n17 {S S1 : List SV} (h : tl_a17 S = .nx S1) : tl_17 S = tl_18 S1 := seq_nx h _
theorem tl_r17 {S S1 : List SV} {sv : SV} (h : tl_a17 S = .rt sv S1) : tl_17 S = .rt sv S1 := seq_rt h _
def tl_16 : GS := gSeq (tl_a16) (tl_17)
theorem tl_n16 {S S1 : List SV} (h : tl_a16 S = .nx S1) : tl_16 S = tl_17 S1 := seq_nx h _
theorem tl_r16 {S S1 : List SV} {sv : SV} (h : tl_a16 S = .rt sv S1) : tl_16 S = .rt sv S1 := seq_rt h _
def tl_15 : GS := gSeq (tl_a15) (tl_16)
theorem tl_n15 {S S1 : List SV} (h : tl_a15 S = .nx S1) : tl_15 S = tl_16 S1 := seq_nx h _
theorem tl_r15 {S S1 : List SV} {sv : SV} (h : tl_a15 S = .rt sv S1) : tl_15 S = .rt sv S1 := seq_rt h _
def tl_14 : GS := gSeq (tl_a14) (tl_15)
theorem tl_n14 {S S1 : List SV} (h : tl_a14 S = .nx S1) : tl_14 S = tl_15 S1 := seq_nx h _
theorem tl_r14 {S S1 : List SV} {sv : SV} (h : tl_a14 S = .rt sv S1) : tl_14 S = .rt sv S1 := seq_rt h _
def tl_13 : GS := gSeq (tl_a13) (tl_14)
theorem tl_n13 {S S1 : List SV} (h : tl_a13 S = .nx S1) : tl_13 S = tl_14 S1 := seq_nx h _
theorem tl_r13 {S S1 : List SV} {sv : SV} (h : tl_a13 S = .rt sv S1) : tl_13 S = .rt sv S1 := seq_rt h _
def tl_12 : GS := gSeq (tl_a12) (tl_13)
theorem tl_n12 {S S1 : List SV} (h : tl_a12 S = .nx S1) : tl_12 S = tl_13 S1 := seq_nx h _
theorem tl_r12 {S S1 : List SV} {sv : SV} (h : tl_a12 S = .rt sv S1) : tl_12 S = .rt sv S1 := seq_rt h _
def tl_11 : GS := gSeq (tl_a11) (tl_12)
theorem tl_n11 {S S1 : List SV} (h : tl_a11 S = .nx S1) : tl_11 S = tl_12 S1 := seq_nx h _
theorem tl_r11 {S S1 : List SV} {sv : SV} (h : tl_a11 S = .rt sv S1) : tl_11 S = .rt sv S1 := seq_rt h _
def tl_10 : GS := gSeq (tl_a10) (tl_11)
theorem tl_n10 {S S1 : List SV} (h : tl_a10 S = .nx S1) : tl_10 S = tl_11 S1 := seq_nx h _
theorem tl_r10 {S S1 : List SV} {sv : SV} (h : tl_a10 S = .rt sv S1) : tl_10 S = .rt sv S1 := seq_rt h _
def tl_9 : GS := gSeq (tl_a9) (tl_10)
theorem tl_n9 {S S1 : List SV} (h : tl_a9 S = .nx S1) : tl_9 S = tl_10 S1 := seq_nx h _
theorem tl_r9 {S S1 : List SV} {sv : SV} (h : tl_a9 S = .rt sv S1) : tl_9 S = .rt sv S1 := seq_rt h _
def tl_8 : GS := gSeq (tl_a8) (tl_9)
theorem tl_n8 {S S1 : List SV} (h : tl_a8 S = .nx S1) : tl_8 S = tl_9 S1 := seq_nx h _
theorem tl_r8 {S S1 : List SV} {sv : SV} (h : tl_a8 S = .rt sv S1) : tl_8 S = .rt sv S1 := seq_rt h _
def tl_7 : GS := gSeq (tl_a7) (tl_8)
theorem tl_n7 {S S1 : List SV} (h : tl_a7 S = .nx S1) : tl_7 S = tl_8 S1 := seq_nx h _
theorem tl_r7 {S S1 : List SV} {sv : SV} (h : tl_a7 S = .rt sv S1) : tl_7 S = .rt sv S1 := seq_rt h _
def tl_6 : GS := gSeq (tl_a6) (tl_7)
theorem tl_n6 {S S1 : List SV} (h : tl_a6 S = .nx S1) : tl_6 S = tl_7 S1 := seq_nx h _
theorem tl_r6 {S S1 : List SV} {sv : SV} (h : tl_a6 S = .rt sv S1) : tl_6 S = .rt sv S1 := seq_rt h _
def tl_5 : GS := gSeq (tl_a5) (tl_6)
theorem tl_n5 {S S1 : List SV} (h : tl_a5 S = .nx S1) : tl_5 S = tl_6 S1 := seq_nx h _
theorem tl_r5 {S S1 : List SV} {sv : SV} (h : tl_a5 S = .rt sv S1) : tl_5 S = .rt sv S1 := seq_rt h _
def tl_4 : GS := gSeq (tl_a4) (tl_5)
theorem tl_n4 {S S1 : List SV} (h : tl_a4 S = .nx S1) : tl_4 S = tl_5 S1 := seq_nx h _
theorem tl_r4 {S S1 : List SV} {sv : SV} (h : tl_a4 S = .rt sv S1) : tl_4 S = .rt sv S1 := seq_rt h _
def tl_3 : GS := gSeq (tl_a3) (tl_4)
theorem tl_n3 {S S1 : List SV} (h : tl_a3 S = .nx S1) : tl_3 S = tl_4 S1 := seq_nx h _
theorem tl_r3 {S S1 : List SV} {sv : SV} (h : tl_a3 S = .rt sv S1) : tl_3 S = .rt sv S1 := seq_rt h _
def tl_2 : GS := gSeq (tl_a2) (tl_3)
theorem tl_n2 {S S1 : List SV} (h : tl_a2 S = .nx S1) : tl_2 S = tl_3 S1 := seq_nx h _
theorem tl_r2 {S S1 : List SV} {sv : SV} (h : tl_a2 S = .rt sv S1) : tl_2 S = .rt sv S1 := seq_rt h _
def tl_1 : GS := gSeq (tl_a1) (tl_2)
theorem tl_n1 {S S1 : List SV} (h : tl_a1 S = .nx S1) : tl_1 S = tl_2 S1 := seq_nx h _
theorem tl_r1 {S S1 : List SV} {sv : SV} (h : tl_a1 S = .rt sv S1) : tl_1 S = .rt sv S1 := seq_rt h _
theorem tl_eq : g_law = tl_1 := rfl
theorem ld_gv {x y : D} (n : Nat) (h : LD n x y) (i : Nat) (S : List SV) (e : S[i]? = some (.dat x)) : gV (gCallF (m__law_lists n) [] (gaCons (gVar i) gaNil)) S = .ok y S := by
  obtain ⟨sv, e1, q⟩ := h
  rcases q with rfl | ⟨b, c, rfl, rfl⟩ <;> simp [e, e1]
/-! forms in which odd parts may lie -/
def Tree.lisN : Tree → Nat → Prop
  | .leaf h, n => h.ok ∧ 7 ≤ n
  | .one h a, n => h.ok ∧ 7 ≤ n ∧ a.lisN (n - 1)
  | .two h a b, n => h.ok ∧ 7 ≤ n ∧ a.lisN (n - 1) ∧ b.lisN (n - 1)
  | .odd d dl, n => LD n d dl
theorem lists_treeN : ∀ (t : Tree) (n : Nat), t.lisN n → LD n (t.toD false) (t.toD true)
  | .odd d dl, n, h => h
  | .leaf h, n, o => by
    obtain ⟨m, rfl⟩ : ∃ m, n = m + 1 := ⟨n - 1, by have := o.2; omega⟩
    exact lists_tup m _ _ (lists_h0 m (by have := o.2; omega) h o.1) (by have := ds_len0 h; omega)
  | .one h a, n, o => by
    obtain ⟨m, rfl⟩ : ∃ m, n = m + 1 := ⟨n - 1, by have := o.2.1; omega⟩
    exact lists_tup m _ _ (LDs_app m _ _ _ _ (lists_h1 m (by have := o.2.1; omega) h o.1) ⟨lists_treeN a m o.2.2, trivial⟩) (by have := ds_len1 h; simp; omega)
  | .two h a b, n, o => by
    obtain ⟨m, rfl⟩ : ∃ m, n = m + 1 := ⟨n - 1, by have := o.2.1; omega⟩
    exact lists_tup m _ _ (LDs_app m _ _ _ _ (lists_h2 m (by have := o.2.1; omega) h o.1) ⟨lists_treeN a m o.2.2.1, lists_treeN b m o.2.2.2, trivial⟩) (by have := ds_len2 h; simp; omega)
theorem lisN_plain : ∀ (t : Tree) (n : Nat), t.plain → t.ok → t.height + 7 ≤ n → t.lisN n
  | .leaf _, n, _, o, h => ⟨o, by omega⟩
  | .one _ a, n, p, o, h => by
    simp only [Tree.height] at h
    exact ⟨o.1, by omega, lisN_plain a _ p o.2 (by omega)⟩
  | .two _ a b, n, p, o, h => by
    simp only [Tree.height] at h
    exact ⟨o.1, by omega, lisN_plain a _ p.1 o.2.1 (by omega), lisN_plain b _ p.2 o.2.2 (by omega)⟩
theorem putT_lisN (d dl : D) : ∀ (t : Tree) (s n : Nat) (p : Tree), t.plain → t.ok → t.pre[s]? = some p → t.height + 8 ≤ n → (∀ m, p.height + 8 ≤ m → LD m d dl) → (putT t s (.odd d dl)).lisN n
  | t, 0, n, p, pl, o, e, h, q => by
    have hp : t = p := by cases t <;> simp [Tree.pre] at e <;> exact e
    subst hp
    have := q n h
    cases t <;> exact this
  | .one _ a, s + 1, n, p, pl, o, e, h, q => by
    simp only [Tree.height] at h
    simp only [Tree.pre, List.getElem?_cons_succ] at e
    exact ⟨o.1, by omega, putT_lisN d dl a s (n - 1) p pl o.2 e (by omega) q⟩
  | .two _ a b, s + 1, n, p, pl, o, e, h, q => by
    simp only [Tree.height] at h
    simp only [Tree.pre, List.getElem?_cons_succ] at e
    simp only [putT]
    split
    · rename_i hc
      rw [List.getElem?_append_left (by rw [Tree.pre_len]; exact hc)] at e
      exact ⟨o.1, by omega, putT_lisN d dl a s (n - 1) p pl.1 o.2.1 e (by omega) q, lisN_plain b _ pl.2 o.2.2 (by omega)⟩
    · rename_i hc
      rw [List.getElem?_append_right (by rw [Tree.pre_len]; omega), Tree.pre_len] at e
      exact ⟨o.1, by omega, lisN_plain a _ pl.1 o.2.1 (by omega), putT_lisN d dl b (s - a.size) (n - 1) p pl.2 o.2.2 e (by omega) q⟩
  | .leaf _, s + 1, n, p, pl, o, e, h, q => by simp [Tree.pre] at e

/-! the first part of the law: what is drawn -/
theorem law1a (ns : List Int) (hb : ∀ z ∈ ns, Builtin.Int.intBits z ≤ 1048576) : ∃ (L : D) (a b c : Int) (fs ds : List Str) (t : Tree), L = .lst (ns.map D.int) ∧
    tl_1 [.dat L, .no, .no, .no, .no, .no, .no, .no, .no, .no, .no, .no, .no, .no, .no, .no] =
    tl_5 [.dat L, .own true (srcC a b c), .dat (namesD fs), .dat (namesD ds), .dat (t.toD false), .no, .no, .no, .no, .no, .no, .no, .no, .no, .no, .no] ∧
    t.ok ∧ t.plain ∧ t.size ≤ 29 ∧ t.height ≤ 14 ∧ Src 2000 a b c := by
  obtain ⟨a, b, e1, S1⟩ := source_ok ns 0 (by omega) hb
  obtain ⟨L, hL⟩ : ∃ L : D, L = .lst (ns.map D.int) := ⟨_, rfl⟩
  rw [show ((0 : Nat) : Int) = 0 from rfl, ← hL] at e1
  obtain ⟨x2, a2, c2, e2, l2, u2, S2⟩ := pick_ok S1 (n := 3) (by omega) (by omega) (by decide)
  obtain ⟨n2, rfl⟩ : ∃ j : Nat, x2 = j := ⟨x2.toNat, by omega⟩
  obtain ⟨fs, a3, c3, hf, e3, S3⟩ := fnames_ok S2 (by omega) n2
  have okf := names_take n2 (menuF_ok fs hf) (menuF_len fs hf)
  generalize fs.take n2 = fs at e3 okf
  obtain ⟨x4, a4, c4, e4, l4, u4, S4⟩ := pick_ok S3 (n := 3) (by omega) (by omega) (by decide)
  obtain ⟨n4, rfl⟩ : ∃ j : Nat, x4 = j := ⟨x4.toNat, by omega⟩
  obtain ⟨ds, a5, c5, hd, e5, S5⟩ := dnames_ok S4 (by omega) (1 + n4)
  have okd := names_take (1 + n4) (menuN_ok ds hd) (menuN_len ds hd)
  generalize ds.take (1 + n4) = ds at e5 okd
  rw [show ((1 + n4 : Nat) : Int) = 1 + (n4 : Int) by omega] at e5
  obtain ⟨x6, a6, c6, e6, l6, u6, S6⟩ := pick_ok S5 (n := 14) (by omega) (by omega) (by decide)
  obtain ⟨n6, rfl⟩ : ∃ j : Nat, x6 = j := ⟨x6.toNat, by omega⟩
  obtain ⟨t, a7, b7, c7, e7, S7, o7, p7, z7, h7⟩ := tree_ok fs ds okf okd 32 (1 + n6) (by omega) (by omega) _ _ _ _ S6 (by simp only [treeP]; omega)
  rw [show ((1 + n6 : Nat) : Int) = 1 + (n6 : Int) by omega] at e7
  refine ⟨L, a7, b7, c7, fs, ds, t, hL, ?_, o7, p7, by omega, by omega, S7.mono (by simp only [treeP]; omega)⟩
  have n1 := tl_n1 (S := [.dat L, .no, .no, .no, .no, .no, .no, .no, .no, .no, .no, .no, .no, .no, .no, .no]) (S1 := [.dat L, .own true (srcC a b 0), .no, .no, .no, .no, .no, .no, .no, .no, .no, .no, .no, .no, .no, .no]) (by
    simp [e1])
  have n2_ := tl_n2 (S := [.dat L, .own true (srcC a b 0), .no, .no, .no, .no, .no, .no, .no, .no, .no, .no, .no, .no, .no, .no]) (S1 := [.dat L, .own true (srcC a3 b c3), .dat (namesD fs), .no, .no, .no, .no, .no, .no, .no, .no, .no, .no, .no, .no, .no]) (by
    simp [e2, e3])
  have n3 := tl_n3 (S := [.dat L, .own true (srcC a3 b c3), .dat (namesD fs), .no, .no, .no, .no, .no, .no, .no, .no, .no, .no, .no, .no, .no]) (S1 := [.dat L, .own true (srcC a5 b c5), .dat (namesD fs), .dat (namesD ds), .no, .no, .no, .no, .no, .no, .no, .no, .no, .no, .no, .no]) (by
    simp [e4, e5])
  have n4_ := tl_n4 (S := [.dat L, .own true (srcC a5 b c5), .dat (namesD fs), .dat (namesD ds), .no, .no, .no, .no, .no, .no, .no, .no, .no, .no, .no, .no]) (S1 := [.dat L, .own true (srcC a7 b7 c7), .dat (namesD fs), .dat (namesD ds), .dat (t.toD false), .no, .no, .no, .no, .no, .no, .no, .no, .no, .no, .no]) (by
    simp [e6, e7])
  rw [n1, n2_, n3, n4_]
theorem menu_ok (B T1 T2 : Tree) (hB : B.ok ∧ B.plain ∧ B.size ≤ 59 ∧ B.height ≤ 14) (h1 : T1.ok ∧ T1.plain ∧ T1.size ≤ 60 ∧ T1.height ≤ 20) (h2 : T2.ok ∧ T2.plain ∧ T2.size ≤ 60 ∧ T2.height ≤ 20) :
    ∀ (j : Nat), j < 4 → ∃ t' : Tree, L2.atI [B.toD false, .tup [.str "more", B.toD false], T1.toD false, T2.toD false] (j : Int) = some (t'.toD false) ∧ t'.ok ∧ t'.plain ∧ t'.size ≤ 60 ∧ t'.height ≤ 20
  | 0, _ => ⟨B, rfl, hB.1, hB.2.1, by omega, by omega⟩
  | 1, _ => ⟨.one .more B, rfl, ⟨trivial, hB.1⟩, hB.2.1, by simp only [Tree.size]; omega, by simp only [Tree.height]; omega⟩
  | 2, _ => ⟨T1, rfl, h1⟩
  | 3, _ => ⟨T2, rfl, h2⟩
  | j + 4, h => by omega
theorem broadE : ∃ B : Tree, m__law_broad 32 [.dat (.int 59)] = .ret (.dat (B.toD false)) [.dat (.int 59)] ∧ B.ok ∧ B.plain ∧ B.size ≤ 59 ∧ B.height ≤ 14 := ⟨broadT 8 59, broad59, broadT_ok _ _, broadT_plain _ _, Nat.le_of_eq size59, height59⟩
theorem towerE1 : ∃ B : Tree, m__law_tower [.dat (.int 20), .dat (.str "each")] = .ret (.dat (B.toD false)) [.dat (.int 20), .dat (.str "each")] ∧ B.ok ∧ B.plain ∧ B.size ≤ 60 ∧ B.height ≤ 20 := ⟨towerT .each 20, tower_each, towerT_ok .each trivial _, towerT_plain _ _, by rw [towerT_size]; omega, by rw [towerT_height]; omega⟩
theorem sayYes : SayOk .yes := ⟨trivial, Nat.zero_le _, by decide⟩
theorem towerE2 : ∃ B : Tree, m__law_tower [.dat (.int 20), .dat (.str "while")] = .ret (.dat (B.toD false)) [.dat (.int 20), .dat (.str "while")] ∧ B.ok ∧ B.plain ∧ B.size ≤ 60 ∧ B.height ≤ 20 := ⟨towerT (.while .yes) 20, tower_while, towerT_ok (.while .yes) sayYes _, towerT_plain _ _, by rw [towerT_size]; omega, by rw [towerT_height]; omega⟩
theorem law1b (L : D) (a b c : Int) (fs ds : List Str) (t : Tree) (S : Src 2000 a b c) (o : t.ok) (p : t.plain) (hz : t.size ≤ 29) (hh : t.height ≤ 14) : ∃ (a' b' c' o' : Int) (t' : Tree) (m : SV),
    tl_5 [.dat L, .own true (srcC a b c), .dat (namesD fs), .dat (namesD ds), .dat (t.toD false), .no, .no, .no, .no, .no, .no, .no, .no, .no, .no, .no] =
    tl_7 [.dat L, .own true (srcC a' b' c'), .dat (namesD fs), .dat (namesD ds), (.dat (t'.toD false)), (.dat (.int o')), m, .no, .no, .no, .no, .no, .no, .no, .no, .no] ∧
    t'.ok ∧ t'.plain ∧ t'.size ≤ 60 ∧ t'.height ≤ 20 := by
  obtain ⟨x8, a8, c8, e8, l8, u8, S8⟩ := pick_ok S (n := 9) (by omega) (by omega) (by decide)
  by_cases hodd : x8 = 4
  · subst hodd
    obtain ⟨x9, a9, c9, e9, l9, u9, S9⟩ := pick_ok S8 (n := 4) (by omega) (by omega) (by decide)
    obtain ⟨j, rfl⟩ : ∃ j : Nat, x9 = j := ⟨x9.toNat, by omega⟩
    obtain ⟨B, eB, hB⟩ := broadE
    obtain ⟨T1, eT1, h1⟩ := towerE1
    obtain ⟨T2, eT2, h2⟩ := towerE2
    obtain ⟨t', et, o', p', z', h'⟩ := menu_ok B T1 T2 hB h1 h2 j (by omega)
    refine ⟨a9, b, c9, 4, t', .own true (.lst [B.toD false, .tup [.str "more", B.toD false], T1.toD false, T2.toD false]), ?_, o', p', z', h'⟩
    have n5 := tl_n5 (S := [.dat L, .own true (srcC a b c), .dat (namesD fs), .dat (namesD ds), .dat (t.toD false), .no, .no, .no, .no, .no, .no, .no, .no, .no, .no, .no]) (S1 := [.dat L, .own true (srcC a8 b c8), .dat (namesD fs), .dat (namesD ds), .dat (t.toD false), .dat (.int 4), .no, .no, .no, .no, .no, .no, .no, .no, .no, .no]) (by simp [e8])
    have n6 := tl_n6 (S := [.dat L, .own true (srcC a8 b c8), .dat (namesD fs), .dat (namesD ds), .dat (t.toD false), .dat (.int 4), .no, .no, .no, .no, .no, .no, .no, .no, .no, .no]) (S1 := [.dat L, .own true (srcC a9 b c9), .dat (namesD fs), .dat (namesD ds), (.dat (t'.toD false)), .dat (.int 4), .own true (.lst [B.toD false, .tup [.str "more", B.toD false], T1.toD false, T2.toD false]), .no, .no, .no, .no, .no, .no, .no, .no, .no]) (by simp [e9, eB, eT1, eT2, et])
    rw [n5, n6]
  · refine ⟨a8, b, c8, x8, t, .no, ?_, o, p, by omega, by omega⟩
    have n5 := tl_n5 (S := [.dat L, .own true (srcC a b c), .dat (namesD fs), .dat (namesD ds), .dat (t.toD false), .no, .no, .no, .no, .no, .no, .no, .no, .no, .no, .no]) (S1 := [.dat L, .own true (srcC a8 b c8), .dat (namesD fs), .dat (namesD ds), .dat (t.toD false), .dat (.int x8), .no, .no, .no, .no, .no, .no, .no, .no, .no, .no]) (by simp [e8])
    have n6 := tl_n6 (S := [.dat L, .own true (srcC a8 b c8), .dat (namesD fs), .dat (namesD ds), .dat (t.toD false), .dat (.int x8), .no, .no, .no, .no, .no, .no, .no, .no, .no, .no]) (S1 := [.dat L, .own true (srcC a8 b c8), .dat (namesD fs), .dat (namesD ds), .dat (t.toD false), .dat (.int x8), .no, .no, .no, .no, .no, .no, .no, .no, .no, .no]) (by simp [hodd])
    rw [n5, n6]
end G07
end M07w_text

section M07x_text
set_option maxHeartbeats 2000000
namespace G07
open PySem Pd
/-! the parts and what follows them -/
theorem law2 (L : D) (x1 x2 x3 x5 x6 : SV) (t : Tree) (o : t.ok) (p : t.plain) (hz : t.size ≤ 60) (hh : t.height ≤ 20) :
    tl_7 [.dat L, x1, x2, x3, .dat (t.toD false), x5, x6, .no, .no, .no, .no, .no, .no, .no, .no, .no] = tl_10 [.dat L, x1, x2, x3, .dat (t.toD false), x5, x6, .own true (.lst t.preD), .no, .no, .no, .no, .no, .no, .no, .no] := by
  have w := walkT_go t 0 0 p (by omega) (by omega)
  have e1 := lparts_ok t 32 p.tame (by omega) (by omega)
  have e2 := parts_ok false t o
  have e3 := parts_ok true t o
  have e4 := followers_ok false t o
  have e5 := checked_ok true t o
  rw [w] at e2 e3 e4 e5
  simp at e2 e3 e4 e5
  have e6 := lfol_ok t 32 t.size 0 p (by omega) (by omega) (by omega)
  rw [show ((0 : Nat) : Int) = 0 from rfl] at e6
  have q1 : fEq true (.tup t.preD) (.tup t.preD) = some (.dat (.bl false)) := fEq_same true (k := 40) ⟨by omega, lays_mono _ _ _ (by omega) (preD_lay t p o)⟩ (by omega)
  have q2 : fEq true (.tup (follow t (.int t.size) 0)) (.tup (follow t (.int t.size) 0)) = some (.dat (.bl false)) := fEq_same true (k := 40) ⟨by omega, lays_mono _ _ _ (by omega) (follow_lay t t.size 0)⟩ (by omega)
  have q3 : fEq true (t.toD false) (t.toD false) = some (.dat (.bl false)) := fEq_same true (k := 40) (lay_mono _ _ _ (by omega) (tree_lay false t p o)) (by omega)
  obtain ⟨sv, e7, q⟩ := lists_treeN t 32 (lisN_plain t 32 p o (by omega))
  have n7 := tl_n7 (S := [.dat L, x1, x2, x3, .dat (t.toD false), x5, x6, .no, .no, .no, .no, .no, .no, .no, .no, .no]) (S1 := [.dat L, x1, x2, x3, .dat (t.toD false), x5, x6, .own true (.lst t.preD), .no, .no, .no, .no, .no, .no, .no, .no]) (by simp [e1])
  have n8 := tl_n8 (S := [.dat L, x1, x2, x3, .dat (t.toD false), x5, x6, .own true (.lst t.preD), .no, .no, .no, .no, .no, .no, .no, .no]) (S1 := [.dat L, x1, x2, x3, .dat (t.toD false), x5, x6, .own true (.lst t.preD), .no, .no, .no, .no, .no, .no, .no, .no]) (by
    rcases q with rfl | ⟨b, c, rfl, hc⟩
    · simp [e2, e3, e7, q1]
    · simp [e2, e3, e7, q1, hc])
  have n9 := tl_n9 (S := [.dat L, x1, x2, x3, .dat (t.toD false), x5, x6, .own true (.lst t.preD), .no, .no, .no, .no, .no, .no, .no, .no]) (S1 := [.dat L, x1, x2, x3, .dat (t.toD false), x5, x6, .own true (.lst t.preD), .no, .no, .no, .no, .no, .no, .no, .no]) (by
    rcases q with rfl | ⟨b, c, rfl, hc⟩
    · simp [e4, e5, e6, e7, q2, q3, Tree.preD_len]
    · simp [e4, e5, e6, e7, q2, q3, hc, Tree.preD_len])
  rw [n7, n8, n9]
/-! a wrong part -/
theorem law3 (ns : List Int) (hb : ∀ z ∈ ns, Builtin.Int.intBits z ≤ 1048576) (L : D) (hL : L = .lst (ns.map D.int)) (x1 x2 x3 x5 x6 : SV) (t : Tree) (o : t.ok) (pl : t.plain) (hz : t.size ≤ 60) (hh : t.height ≤ 20) : ∃ (a3 b c3 w : Int) (s : Nat) (p : Tree) (q : D × D),
    tl_10 [.dat L, x1, x2, x3, .dat (t.toD false), x5, x6, .own true (.lst t.preD), .no, .no, .no, .no, .no, .no, .no, .no] = tl_15 [.dat L, x1, x2, x3, .dat (t.toD false), x5, x6, .own true (.lst t.preD), .own true (srcC a3 b c3), .dat (.int s), .dat ((putT t s (.odd q.1 q.2)).toD false), .dat (.int w), .no, .no, .no, .no] ∧ Src 3 a3 b c3 ∧ t.pre[s]? = some p ∧ s < t.size := by
  obtain ⟨a, b, e1, S0⟩ := source_ok ns 1 (by omega) hb
  rw [show ((1 : Nat) : Int) = 1 from rfl, ← hL] at e1
  have hp := size_pos t
  obtain ⟨x, a1, c1, e2, l2, u2, S1⟩ := pick_ok S0 (n := t.size) (by omega) (by omega) (by rw [Int.natAbs_natCast]; have := Nat.log2_le_self t.size; omega)
  obtain ⟨s, rfl⟩ : ∃ j : Nat, x = j := ⟨x.toNat, by omega⟩
  have hs : s < t.size := by omega
  have hp0 : s < t.pre.length := by rw [Tree.pre_len]; exact hs
  obtain ⟨p, hp1⟩ : ∃ p, t.pre[s]? = some p := ⟨_, List.getElem?_eq_getElem hp0⟩
  have hp2 : L2.atI t.preD (s : Int) = some (p.toD false) := by
    have h := at_nat t.preD s (by rw [Tree.preD_len]; exact hs)
    rw [h]
    have h2 : t.preD[s]? = some (p.toD false) := by
      unfold Tree.preD
      rw [List.getElem?_map, hp1]
      rfl
    rw [List.getElem?_eq_getElem (by rw [Tree.preD_len]; exact hs)] at h2
    exact h2
  obtain ⟨pp, ph, pz⟩ := pre_plain t pl p (List.mem_of_getElem? hp1)
  have po := pre_ok t o p (List.mem_of_getElem? hp1)
  obtain ⟨q, a2, c2, hq, e3, S2⟩ := wrong_ok S1 (by omega) (p.toD false) (p.toD true)
  have hodd := wrongs_odd _ _ (isi_tree p false pp) (isi_tree p true pp) (none_tree p false pp) (none_tree p true pp) q hq
  have hlis := wrongs_lis _ _ (p.height + 7) (by omega) (fun n hn => lists_treeN p n (lisN_plain p n pp po hn)) q hq
  have e4 := put_ok t 32 s (.odd q.1 q.2) pl.tame (by omega) (by omega) (by omega) hs
  simp only [Tree.toD] at e4
  obtain ⟨w, a3, c3, e5, l5, u5, S3⟩ := pick_ok S2 (n := 3) (by omega) (by omega) (by decide)
  have bo : (putT t s (.odd q.1 q.2)).ok := putT_ok t s _ o hodd
  have bz := putT_size t s q.1 q.2
  have bh := putT_height t s q.1 q.2
  have bw := walkT_fst (putT t s (.odd q.1 q.2)) 0 0 (by omega) (by omega)
  rw [putT_fst t s q.1 q.2 hs (by rw [fst_plain t pl]; intro j hj; cases hj)] at bw
  have r1 := refusal_ok false (putT t s (.odd q.1 q.2)) bo w
  have r2 := refusal_ok true (putT t s (.odd q.1 q.2)) bo w
  simp only [refT, bw, Nat.zero_add] at r1 r2
  obtain ⟨sv, e7, hsv⟩ := lists_treeN _ 32 (putT_lisN q.1 q.2 t s 32 p pl o hp1 (by omega) (fun m hm => hlis m (by omega)))
  refine ⟨a3, b, c3, w, s, p, q, ?_, S3, hp1, hs⟩
  have n10 := tl_n10 (S := [.dat L, x1, x2, x3, .dat (t.toD false), x5, x6, .own true (.lst t.preD), .no, .no, .no, .no, .no, .no, .no, .no]) (S1 := [.dat L, x1, x2, x3, .dat (t.toD false), x5, x6, .own true (.lst t.preD), .own true (srcC a b 0), .no, .no, .no, .no, .no, .no, .no]) (by simp [e1])
  have n11 := tl_n11 (S := [.dat L, x1, x2, x3, .dat (t.toD false), x5, x6, .own true (.lst t.preD), .own true (srcC a b 0), .no, .no, .no, .no, .no, .no, .no]) (S1 := [.dat L, x1, x2, x3, .dat (t.toD false), x5, x6, .own true (.lst t.preD), .own true (srcC a1 b c1), .dat (.int s), .no, .no, .no, .no, .no, .no]) (by simp [e2, Tree.preD_len])
  have n12 := tl_n12 (S := [.dat L, x1, x2, x3, .dat (t.toD false), x5, x6, .own true (.lst t.preD), .own true (srcC a1 b c1), .dat (.int s), .no, .no, .no, .no, .no, .no]) (S1 := [.dat L, x1, x2, x3, .dat (t.toD false), x5, x6, .own true (.lst t.preD), .own true (srcC a2 b c2), .dat (.int s), .dat ((putT t s (.odd q.1 q.2)).toD false), .no, .no, .no, .no, .no]) (by simp [hp2, e3, e4])
  have n13 := tl_n13 (S := [.dat L, x1, x2, x3, .dat (t.toD false), x5, x6, .own true (.lst t.preD), .own true (srcC a2 b c2), .dat (.int s), .dat ((putT t s (.odd q.1 q.2)).toD false), .no, .no, .no, .no, .no]) (S1 := [.dat L, x1, x2, x3, .dat (t.toD false), x5, x6, .own true (.lst t.preD), .own true (srcC a3 b c3), .dat (.int s), .dat ((putT t s (.odd q.1 q.2)).toD false), .dat (.int w), .no, .no, .no, .no]) (by simp [e5])
  generalize (putT t s (.odd q.1 q.2)).toD false = X at *
  generalize (putT t s (.odd q.1 q.2)).toD true = Y at *
  have n14 := tl_n14 (S := [.dat L, x1, x2, x3, .dat (t.toD false), x5, x6, .own true (.lst t.preD), .own true (srcC a3 b c3), .dat (.int s), .dat X, .dat (.int w), .no, .no, .no, .no]) (S1 := [.dat L, x1, x2, x3, .dat (t.toD false), x5, x6, .own true (.lst t.preD), .own true (srcC a3 b c3), .dat (.int s), .dat X, .dat (.int w), .no, .no, .no, .no]) (by
    rcases hsv with rfl | ⟨bb, cc, rfl, hc⟩
    · simp [r1, r2, e7]
    · simp [r1, r2, e7, hc])
  rw [n10, n11, n12, n13, n14]
end G07
end M07x_text

section M07y_text
set_option maxHeartbeats 2000000
namespace G07
open PySem Pd
/-! a further wrong part behind it -/
theorem later_comp (L : D) (x1 x2 x3 x5 x6 x10 : SV) (a b c w : Int) (t : Tree) (s ps : Nat) (pd : D)
    (h1 : L2.atI t.preD (s : Int) = some pd) (h2 : ∃ sv, m__law_parts 32 [.dat pd] = .ret (.own true (.lst sv)) [.dat pd] ∧ sv.length = ps) : ∀ (ks : List Nat) (acc : List D), acc.length + ks.length ≤ 1000 → ∃ ls : List Nat,
    compG (gtName 13) (gB (gBin fGt (gVar 13) (gO (gV (gBin fSub (gO (gV (gBin fAdd (gVar 9) (gO (gV (gCall fLen (gaCons (gO (gV (gCallF (m__law_parts 32) [] (gaCons (gO (gV (gBin fIxU (gVar 7) (gVar 9)))) gaNil)))) gaNil))))))) (gO (gC (.int 1)))))))) (gNam 13) [13] (ks.map fun k : Nat => D.int (k : Int)) acc [.dat L, x1, x2, x3, .dat (t.toD false), x5, x6, .own true (.lst t.preD), .own true (srcC a b c), .dat (.int s), x10, .dat (.int w), .no, .no, .no, .no] = .ok (acc ++ ls.map fun k : Nat => D.int k) [.dat L, x1, x2, x3, .dat (t.toD false), x5, x6, .own true (.lst t.preD), .own true (srcC a b c), .dat (.int s), x10, .dat (.int w), .no, .no, .no, .no] ∧ ls.length ≤ ks.length ∧ ∀ x ∈ ls, x ∈ ks ∧ s + ps ≤ x
  | [], acc, _ => ⟨[], by simp, Nat.le_refl _, by simp⟩
  | k :: ks, acc, hl => by
    simp only [List.length_cons] at hl
    obtain ⟨sv, h2, h3⟩ := h2
    have f : Fits acc.length := fits_sm (by omega)
    by_cases hk : s + ps ≤ k
    · obtain ⟨ls, e, ql, q⟩ := later_comp L x1 x2 x3 x5 x6 x10 a b c w t s ps pd h1 ⟨sv, h2, h3⟩ ks (acc ++ [.int k]) (by simp; omega)
      refine ⟨k :: ls, ?_, by simp; omega, fun x hx => ?_⟩
      · have hc : (s : Int) + ps - 1 < k := by omega
        simp only [List.append_assoc, List.singleton_append] at e
        simp [ev_comp_cons, h1, h2, h3, hc, f, e]
      · rcases List.mem_cons.mp hx with rfl | hx
        · exact ⟨List.mem_cons_self .., hk⟩
        · exact ⟨List.mem_cons_of_mem _ (q x hx).1, (q x hx).2⟩
    · obtain ⟨ls, e, ql, q⟩ := later_comp L x1 x2 x3 x5 x6 x10 a b c w t s ps pd h1 ⟨sv, h2, h3⟩ ks acc (by omega)
      refine ⟨ls, ?_, by simp; omega, fun x hx => ⟨List.mem_cons_of_mem _ (q x hx).1, (q x hx).2⟩⟩
      have hc : ¬ (s : Int) + ps - 1 < k := by omega
      simp [ev_comp_cons, h1, h2, h3, hc, e]
theorem law4 (L : D) (x1 x2 x3 x5 x6 x10 : SV) (a b c w : Int) (t : Tree) (s : Nat) (p : Tree) (S : Src 3 a b c) (o : t.ok) (pl : t.plain) (hz : t.size ≤ 60) (hh : t.height ≤ 20) (hp1 : t.pre[s]? = some p) (hs : s < t.size) :
    ∃ (a5 b5 c5 : Int) (ls : List Nat) (y14 y15 : SV), tl_15 [.dat L, x1, x2, x3, .dat (t.toD false), x5, x6, .own true (.lst t.preD), .own true (srcC a b c), .dat (.int s), x10, .dat (.int w), .no, .no, .no, .no] = tl_17 [.dat L, x1, x2, x3, .dat (t.toD false), x5, x6, .own true (.lst t.preD), .own true (srcC a5 b5 c5), .dat (.int s), x10, .dat (.int w), .own true (.lst (ls.map fun k : Nat => D.int k)), .no, y14, y15] ∧ Src 5 a5 b5 c5 := by
  have hp2 : L2.atI t.preD (s : Int) = some (p.toD false) := by
    have h := at_nat t.preD s (by rw [Tree.preD_len]; exact hs)
    rw [h]
    have h2 : t.preD[s]? = some (p.toD false) := by
      unfold Tree.preD
      rw [List.getElem?_map, hp1]
      rfl
    rw [List.getElem?_eq_getElem (by rw [Tree.preD_len]; exact hs)] at h2
    exact h2
  obtain ⟨pp, ph, pz⟩ := pre_plain t pl p (List.mem_of_getElem? hp1)
  have po := pre_ok t o p (List.mem_of_getElem? hp1)
  have hps := size_pos p
  have hsz := size_pos t
  obtain ⟨ls, e1, hll, hls⟩ := later_comp L x1 x2 x3 x5 x6 x10 a b c w t s p.size (p.toD false) hp2 ⟨p.preD, lparts_ok p 32 pp.tame (by omega) (by omega), Tree.preD_len p⟩ (List.range t.size) [] (by simp; omega)
  have hfit : Fit62 (t.size : Int) := Fit62.of (by rw [Int.natAbs_natCast]; exact Nat.lt_of_le_of_lt hz (by decide))
  have n15 := tl_n15 (S := [.dat L, x1, x2, x3, .dat (t.toD false), x5, x6, .own true (.lst t.preD), .own true (srcC a b c), .dat (.int s), x10, .dat (.int w), .no, .no, .no, .no]) (S1 := [.dat L, x1, x2, x3, .dat (t.toD false), x5, x6, .own true (.lst t.preD), .own true (srcC a b c), .dat (.int s), x10, .dat (.int w), .own true (.lst (ls.map fun k : Nat => D.int k)), .no, .no, .no]) (by
    simp only [List.nil_append] at e1
    have hr : rng 0 t.size = (List.range t.size).map fun k : Nat => D.int (k : Int) := by simp [rng]
    rw [← hr] at e1
    simp [Tree.preD_len, hfit, e1])
  by_cases hl0 : ls = []
  · refine ⟨a, b, c, ls, .no, .no, ?_, S.mono (by omega)⟩
    have n16 := tl_n16 (S := [.dat L, x1, x2, x3, .dat (t.toD false), x5, x6, .own true (.lst t.preD), .own true (srcC a b c), .dat (.int s), x10, .dat (.int w), .own true (.lst (ls.map fun k : Nat => D.int k)), .no, .no, .no]) (S1 := [.dat L, x1, x2, x3, .dat (t.toD false), x5, x6, .own true (.lst t.preD), .own true (srcC a b c), .dat (.int s), x10, .dat (.int w), .own true (.lst (ls.map fun k : Nat => D.int k)), .no, .no, .no]) (by simp [hl0])
    rw [n15, n16]
  have hl1 : 0 < ls.length := List.length_pos_iff.mpr hl0
  have hllog : ∀ x ∈ ls, x < t.size := fun x hx => List.mem_range.mp (hls x hx).1
  have hlb : (ls.length : Int).natAbs.log2 < 4000 := by
    rw [Int.natAbs_natCast]
    rw [List.length_range] at hll
    have h2 := Nat.log2_le_self ls.length
    omega
  obtain ⟨x, a4, c4, e2, l2, u2, S4⟩ := pick_ok S (n := ls.length) (by omega) (by omega) hlb
  obtain ⟨j, rfl⟩ : ∃ j : Nat, x = j := ⟨x.toNat, by omega⟩
  have hj : j < ls.length := by omega
  obtain ⟨ot, hot⟩ : ∃ ot, ot = ls[j] := ⟨_, rfl⟩
  have hmem : ot ∈ ls := by rw [hot]; exact List.getElem_mem _
  have hot1 := hllog ot hmem
  have hot2 := (hls ot hmem).2
  have e3 : L2.atI (ls.map fun k : Nat => D.int k) (j : Int) = some (.int ot) := by
    rw [at_nat _ j (by simpa using hj), List.getElem_map, hot]
  have both1 : OddOk (.tup [.str "both"]) := by
    unfold OddOk
    kernel_rfl
  have both2 : OddOk (.lst [.str "both"]) := by
    unfold OddOk
    kernel_rfl
  have both3 : ArmsNil (.tup [.str "both"]) := by
    unfold ArmsNil
    kernel_rfl
  have e4 := put_ok t 32 ot (.odd (.tup [.str "both"]) (.lst [.str "both"])) pl.tame (by omega) (by omega) (by omega) hot1
  rw [show Tree.toD false (.odd (.tup [.str "both"]) (.lst [.str "both"])) = .tup [.str "both"] from rfl] at e4
  obtain ⟨q, a5, c5, hq, e5, S5⟩ := wrong_ok S4 (by omega) (p.toD false) (p.toD true)
  have hodd := wrongs_odd _ _ (isi_tree p false pp) (isi_tree p true pp) (none_tree p false pp) (none_tree p true pp) q hq
  have ttame := putT_tame t ot (.odd (.tup [.str "both"]) (.lst [.str "both"])) pl.tame both3
  have tz := putT_size t ot (.tup [.str "both"]) (.lst [.str "both"])
  have th := putT_height t ot (.tup [.str "both"]) (.lst [.str "both"])
  have tlong := putT_long t ot (.tup [.str "both"]) (.lst [.str "both"]) hot1
  have tok := putT_ok t ot (.odd (.tup [.str "both"]) (.lst [.str "both"])) o ⟨both1, both2⟩
  have tfst := putT_fst t ot (.tup [.str "both"]) (.lst [.str "both"]) hot1 (by rw [fst_plain t pl]; intro j hj; cases hj)
  generalize hT : putT t ot (.odd (.tup [.str "both"]) (.lst [.str "both"])) = T at e4 ttame tz th tlong tok tfst
  have e6 := put_ok T 32 s (.odd q.1 q.2) ttame (by omega) (by omega) (by omega) (by omega)
  rw [show Tree.toD false (.odd q.1 q.2) = q.1 from rfl] at e6
  have bz := putT_size T s q.1 q.2
  have bh := putT_height T s q.1 q.2
  have bw := walkT_fst (putT T s (.odd q.1 q.2)) 0 0 (by omega) (by omega)
  rw [putT_fst T s q.1 q.2 (by omega) (by rw [tfst]; intro j hj; cases hj; omega)] at bw
  have r1 := refusal_ok false (putT T s (.odd q.1 q.2)) (putT_ok T s _ tok hodd) w
  simp only [refT, bw, Nat.zero_add] at r1
  refine ⟨a5, b, c5, ls, .dat (.int ot), .dat ((putT T s (.odd q.1 q.2)).toD false), ?_, S5⟩
  generalize (putT T s (.odd q.1 q.2)).toD false = X at *
  have n16 := tl_n16 (S := [.dat L, x1, x2, x3, .dat (t.toD false), x5, x6, .own true (.lst t.preD), .own true (srcC a b c), .dat (.int s), x10, .dat (.int w), .own true (.lst (ls.map fun k : Nat => D.int k)), .no, .no, .no]) (S1 := [.dat L, x1, x2, x3, .dat (t.toD false), x5, x6, .own true (.lst t.preD), .own true (srcC a5 b c5), .dat (.int s), x10, .dat (.int w), .own true (.lst (ls.map fun k : Nat => D.int k)), .no, .dat (.int ot), .dat X]) (by
    simp [hl1, e2, e3, e4, e5, e6, hp2, r1])
  rw [n15, n16]
theorem broadR : ∃ B : D, m__law_broad 32 [.dat (.int 59)] = .ret (.dat B) [.dat (.int 59)] ∧ ∀ w : Int, m__law_refusal [.dat (.int w), .dat (.tup [.str "more", .tup [.str "each", B]])] = .ret (.dat (.int 60)) [.dat (.int w), .dat (.tup [.str "more", .tup [.str "each", B]])] := by
  refine ⟨_, broad59, fun w => ?_⟩
  have h := refusal_ok false (.one .more (.one .each (broadT 8 59))) ⟨trivial, trivial, broadT_ok _ _⟩ w
  simp only [refT, walk61b] at h
  exact h
theorem towerR : ∃ B : D, m__law_tower [.dat (.int 21), .dat (.str "more")] = .ret (.dat B) [.dat (.int 21), .dat (.str "more")] ∧ ∀ w : Int, m__law_refusal [.dat (.int w), .dat B] = .ret (.dat (.int 21)) [.dat (.int w), .dat B] := by
  refine ⟨_, tower_more, fun w => ?_⟩
  have h := refusal_ok false (towerT .more 21) (towerT_ok .more trivial _) w
  simp only [refT, walk21] at h
  exact h
theorem broadR2 : ∃ B : D, m__law_broad 32 [.dat (.int 61)] = .ret (.dat B) [.dat (.int 61)] ∧ ∀ w : Int, m__law_refusal [.dat (.int w), .dat B] = .ret (.dat (.int 60)) [.dat (.int w), .dat B] := by
  refine ⟨_, broad61, fun w => ?_⟩
  have h := refusal_ok false (broadT 8 61) (broadT_ok _ _) w
  simp only [refT, walk61] at h
  exact h
theorem law5 (L : D) (x1 x2 x3 x5 x6 x10 y14 y15 : SV) (a5 b5 c5 w : Int) (t : Tree) (s : Nat) (ls : List Nat) (S : Src 5 a5 b5 c5) (o : t.ok) (pl : t.plain) (hz : t.size ≤ 60) (hh : t.height ≤ 20) :
    ∃ Z, tl_17 [.dat L, x1, x2, x3, .dat (t.toD false), x5, x6, .own true (.lst t.preD), .own true (srcC a5 b5 c5), .dat (.int s), x10, .dat (.int w), .own true (.lst (ls.map fun k : Nat => D.int k)), .no, y14, y15] = .rt (.dat (.bl true)) (.dat L :: Z) := by
  obtain ⟨x, a6, c6, e1, l1, u1, S6⟩ := pick_ok S (n := 4) (by omega) (by omega) (by decide)
  obtain ⟨B1, f1, g1⟩ := broadR
  obtain ⟨B2, f2, g2⟩ := towerR
  obtain ⟨B3, f3, g3⟩ := broadR2
  have r := refusal_ok false t o w
  simp only [refT, walkT_go t 0 0 pl (by omega) (by omega)] at r
  have n17 := tl_n17 (S := [.dat L, x1, x2, x3, .dat (t.toD false), x5, x6, .own true (.lst t.preD), .own true (srcC a5 b5 c5), .dat (.int s), x10, .dat (.int w), .own true (.lst (ls.map fun k : Nat => D.int k)), .no, y14, y15]) (S1 := [.dat L, x1, x2, x3, .dat (t.toD false), x5, x6, .own true (.lst t.preD), .own true (srcC a6 b5 c6), .dat (.int s), x10, .dat (.int w), .own true (.lst (ls.map fun k : Nat => D.int k)), .no, y14, y15]) (by
    by_cases hx : x = 2
    · subst hx
      simp [e1, f1, f2, f3, g1, g2, g3]
    · simp [e1, hx])
  rw [n17]
  have n18 : tl_a18 [.dat L, x1, x2, x3, .dat (t.toD false), x5, x6, .own true (.lst t.preD), .own true (srcC a6 b5 c6), .dat (.int s), x10, .dat (.int w), .own true (.lst (ls.map fun k : Nat => D.int k)), .no, y14, y15] = .rt (.dat (.bl true)) [.dat L, x1, x2, x3, .dat (t.toD false), x5, x6, .own true (.lst t.preD), .own true (srcC a6 b5 c6), .dat (.int s), x10, .dat (.int w), .own true (.lst (ls.map fun k : Nat => D.int k)), .no, y14, y15] := by simp [r]
  exact ⟨_, n18⟩
end G07
end M07y_text

section M07z_text
set_option maxHeartbeats 2000000
namespace G07
open PySem Pd
theorem law_ok (ns : List Int) (hl : ns.length ≤ 63) (hb : ∀ z ∈ ns, Builtin.Int.intBits z ≤ 1048576) : ∃ outs, m_law [.dat (.lst (ns.map D.int))] = .ret (.dat (.bl true)) outs := by
  obtain ⟨L, a, b, c, fs, ds, t0, hL, n1, o0, p0, z0, h0, S0⟩ := law1a ns hb
  obtain ⟨a1, b1, c1, o1, t, m, n2, o, pl, hz, hh⟩ := law1b L a b c fs ds t0 S0 o0 p0 z0 h0
  have n3 := law2 L (.own true (srcC a1 b1 c1)) (.dat (namesD fs)) (.dat (namesD ds)) (.dat (.int o1)) m t o pl hz hh
  obtain ⟨a3, b3, c3, w, s, p, q, n4, S3, hp1, hs⟩ := law3 ns hb L hL (.own true (srcC a1 b1 c1)) (.dat (namesD fs)) (.dat (namesD ds)) (.dat (.int o1)) m t o pl hz hh
  obtain ⟨a5, b5, c5, ls, y14, y15, n5, S5⟩ := law4 L (.own true (srcC a1 b1 c1)) (.dat (namesD fs)) (.dat (namesD ds)) (.dat (.int o1)) m (.dat ((putT t s (.odd q.1 q.2)).toD false)) a3 b3 c3 w t s p S3 o pl hz hh hp1 hs
  obtain ⟨Z, n6⟩ := law5 L (.own true (srcC a1 b1 c1)) (.dat (namesD fs)) (.dat (namesD ds)) (.dat (.int o1)) m (.dat ((putT t s (.odd q.1 q.2)).toD false)) y14 y15 a5 b5 c5 w t s ls S5 o pl hz hh
  rw [← hL]
  have hg : g_law [.dat L, .no, .no, .no, .no, .no, .no, .no, .no, .no, .no, .no, .no, .no, .no, .no] = .rt (.dat (.bl true)) (.dat L :: Z) := by
    rw [tl_eq, n1, n2, n3, n4, n5, n6]
  refine ⟨[.dat L], ?_⟩
  have hr : m_law [.dat L] = match g_law [.dat L, .no, .no, .no, .no, .no, .no, .no, .no, .no, .no, .no, .no, .no, .no, .no] with
    | .nx S => .ret (.dat .non) (S.take 1)
    | .rt sv S => .ret sv (S.take 1)
    | .exc e S => .exc e (S.take 1)
    | _ => .bad := rfl
  rw [hr, hg]
  rfl
end G07
end M07z_text

section H07_text
set_option maxHeartbeats 0
namespace G07
open PySem PySem.Spec PyProof.Rows Pd
open L2 (pv defArgs defBody defScope)
def clsB (s : Stmt) : List Stmt := match s with
  | .ClassDef _ _ _ b _ _ _ _ _ _ _ => b
  | _ => []
def iS (i : Nat) : Stmt := (clsB (top i)).getD 0 (.Pass ⟨0, 0, 0, 0⟩)
def dd_is_listed : He.DefD := ⟨("is_listed", none), "is_listed", "is_listed", defArgs (top 7), defBody (top 7), defScope (top 7), [], []⟩
def dd_is_letters : He.DefD := ⟨("is_letters", none), "is_letters", "is_letters", defArgs (top 8), defBody (top 8), defScope (top 8), [], []⟩
def dd_is_name : He.DefD := ⟨("is_name", none), "is_name", "is_name", defArgs (top 9), defBody (top 9), defScope (top 9), [], []⟩
def dd_told_saying : He.DefD := ⟨("told_saying", none), "told_saying", "told_saying", defArgs (top 14), defBody (top 14), defScope (top 14), [], []⟩
def dd_saying_or_none : He.DefD := ⟨("saying_or_none", none), "saying_or_none", "saying_or_none", defArgs (top 15), defBody (top 15), defScope (top 15), [], []⟩
def dd_head_of : He.DefD := ⟨("head_of", none), "head_of", "head_of", defArgs (top 20), defBody (top 20), defScope (top 20), [], []⟩
def dd_walked : He.DefD := ⟨("walked", none), "walked", "walked", defArgs (top 22), defBody (top 22), defScope (top 22), [], []⟩
def dd_checked_tree : He.DefD := ⟨("checked_tree", none), "checked_tree", "checked_tree", defArgs (top 23), defBody (top 23), defScope (top 23), [], []⟩
def dd_arms_of : He.DefD := ⟨("arms_of", none), "arms_of", "arms_of", defArgs (top 21), defBody (top 21), defScope (top 21), [], []⟩
def dd_all_parts : He.DefD := ⟨("all_parts", none), "all_parts", "all_parts", defArgs (top 24), defBody (top 24), defScope (top 24), [], []⟩
def dd_parts_of : He.DefD := ⟨("parts_of", none), "parts_of", "parts_of", defArgs (top 25), defBody (top 25), defScope (top 25), [], []⟩
def dd_inner_spots : He.DefD := ⟨("inner_spots", none), "inner_spots", "inner_spots", defArgs (top 26), defBody (top 26), defScope (top 26), [], []⟩
def dd_after_spots : He.DefD := ⟨("after_spots", none), "after_spots", "after_spots", defArgs (top 27), defBody (top 27), defScope (top 27), [], []⟩
def dd_followers : He.DefD := ⟨("followers", none), "followers", "followers", defArgs (top 28), defBody (top 28), defScope (top 28), [], []⟩
def dd__law_source : He.DefD := ⟨("_law_source", none), "_law_source", "_law_source", defArgs (top 30), defBody (top 30), defScope (top 30), [], []⟩
def dd__law_pick : He.DefD := ⟨("_law_pick", none), "_law_pick", "_law_pick", defArgs (top 31), defBody (top 31), defScope (top 31), [], []⟩
def dd__law_say : He.DefD := ⟨("_law_say", none), "_law_say", "_law_say", defArgs (top 32), defBody (top 32), defScope (top 32), [], []⟩
def dd__law_leaf : He.DefD := ⟨("_law_leaf", none), "_law_leaf", "_law_leaf", defArgs (top 33), defBody (top 33), defScope (top 33), [], []⟩
def dd__law_tree : He.DefD := ⟨("_law_tree", none), "_law_tree", "_law_tree", defArgs (top 34), defBody (top 34), defScope (top 34), [], []⟩
def dd__law_arms : He.DefD := ⟨("_law_arms", none), "_law_arms", "_law_arms", defArgs (top 35), defBody (top 35), defScope (top 35), [], []⟩
def dd__law_parts : He.DefD := ⟨("_law_parts", none), "_law_parts", "_law_parts", defArgs (top 36), defBody (top 36), defScope (top 36), [], []⟩
def dd__law_put_at : He.DefD := ⟨("_law_put_at", none), "_law_put_at", "_law_put_at", defArgs (top 37), defBody (top 37), defScope (top 37), [], []⟩
def dd__law_fact_names : He.DefD := ⟨("_law_fact_names", none), "_law_fact_names", "_law_fact_names", defArgs (top 38), defBody (top 38), defScope (top 38), [], []⟩
def dd__law_deed_names : He.DefD := ⟨("_law_deed_names", none), "_law_deed_names", "_law_deed_names", defArgs (top 39), defBody (top 39), defScope (top 39), [], []⟩
def dd__law_lists : He.DefD := ⟨("_law_lists", none), "_law_lists", "_law_lists", defArgs (top 40), defBody (top 40), defScope (top 40), [], []⟩
def dd__law_follow : He.DefD := ⟨("_law_follow", none), "_law_follow", "_law_follow", defArgs (top 41), defBody (top 41), defScope (top 41), [], []⟩
def dd__law_refusal : He.DefD := ⟨("_law_refusal", none), "_law_refusal", "_law_refusal", defArgs (top 42), defBody (top 42), defScope (top 42), [], []⟩
def dd__law_wrong : He.DefD := ⟨("_law_wrong", none), "_law_wrong", "_law_wrong", defArgs (top 43), defBody (top 43), defScope (top 43), [], []⟩
def dd__law_tower : He.DefD := ⟨("_law_tower", none), "_law_tower", "_law_tower", defArgs (top 44), defBody (top 44), defScope (top 44), [], []⟩
def dd__law_broad : He.DefD := ⟨("_law_broad", none), "_law_broad", "_law_broad", defArgs (top 45), defBody (top 45), defScope (top 45), [], []⟩
def dd_law : He.DefD := ⟨("law", none), "law", "law", defArgs (top 46), defBody (top 46), defScope (top 46), [], []⟩
def fn : List He.DefD := [dd_is_listed, dd_is_letters, dd_is_name, dd_told_saying, dd_saying_or_none, dd_head_of, dd_walked, dd_checked_tree, dd_arms_of, dd_all_parts, dd_parts_of, dd_inner_spots, dd_after_spots, dd_followers, dd__law_source, dd__law_pick, dd__law_say, dd__law_leaf, dd__law_tree, dd__law_arms, dd__law_parts, dd__law_put_at, dd__law_fact_names, dd__law_deed_names, dd__law_lists, dd__law_follow, dd__law_refusal, dd__law_wrong, dd__law_tower, dd__law_broad, dd_law]
def fa : List He.Fa := [.glo "is_listed", .glo "is_letters", .glo "is_name", .glo "told_saying", .glo "saying_or_none", .glo "head_of", .glo "walked", .glo "checked_tree", .glo "arms_of", .glo "all_parts", .glo "parts_of", .glo "inner_spots", .glo "after_spots", .glo "followers", .glo "_law_source", .glo "_law_pick", .glo "_law_say", .glo "_law_leaf", .glo "_law_tree", .glo "_law_arms", .glo "_law_parts", .glo "_law_put_at", .glo "_law_fact_names", .glo "_law_deed_names", .glo "_law_lists", .glo "_law_follow", .glo "_law_refusal", .glo "_law_wrong", .glo "_law_tower", .glo "_law_broad", .glo "law", .free "abs", .free "all", .free "enumerate", .free "int", .free "isinstance", .free "len", .free "list", .free "max", .free "range", .free "str", .free "tuple", .free "super", .glo "ARMS_sayings", .glo "ARMS_trees", .glo "DealsError", .glo "WrongNumber", .glo "BadDeal"]
def ts : List He.Tab := [(fun K => He.ga K "ARMS_sayings", ["yes", "no", "fact", "not", "and", "or"]), (fun K => He.ga K "ARMS_trees", ["pass", "lose", "win", "deed", "need", "grant", "then", "own", "other", "if", "while", "more", "each"])]
def ini : List Str := ["WrongNumber"]
def iv : List FnI := [some ("__init__", "WrongNumber.__init__", defArgs (iS 2), FuncBody.stmts (defBody (iS 2)), defScope (iS 2), mainGlobals, ["__class__"], builtinsNs)]
def ex (K : PySem.W.Frag) : Bool := [cnB K "WORDS" c_WORDS, cnB K "LONGEST_NAME" c_LONGEST_NAME, cnB K "MOST_TUPLES" c_MOST_TUPLES, cnB K "DEEPEST_sayings" c_DEEPEST_sayings, cnB K "MOST_PARTS" c_MOST_PARTS, cnB K "DEEPEST_trees" c_DEEPEST_trees, tabB K (He.ga K "ARMS_sayings") tab_ARMS_sayings, tabB K (He.ga K "ARMS_trees") tab_ARMS_trees, initB K PySem.Challenge.pw_bargainhall_k07_whole_trees.main.file "WrongNumber" "WrongNumber.__init__", supB K "BadDeal" "WrongNumber" "number", handB K "DealsError" sub_DealsError, handB K "WrongNumber" sub_WrongNumber, handB K "BadDeal" sub_BadDeal, fldB K "number" fl_number].all id
def loose : List Str := (["DealsError", "WrongNumber", "BadDeal", "WORDS", "LONGEST_NAME", "is_listed", "is_letters", "is_name", "MOST_TUPLES", "DEEPEST_sayings", "ARMS_sayings", "told_saying", "saying_or_none", "MOST_PARTS", "DEEPEST_trees", "ARMS_trees", "head_of", "arms_of", "walked", "checked_tree", "all_parts", "parts_of", "inner_spots", "after_spots", "followers", "_law_source", "_law_pick", "_law_say", "_law_leaf", "_law_tree"] : List Str) ++ (["_law_arms", "_law_parts", "_law_put_at", "_law_fact_names", "_law_deed_names", "_law_lists", "_law_follow", "_law_refusal", "_law_wrong", "_law_tower", "_law_broad"] : List Str)
abbrev R : PySem.W.OpenRow := PySem.W.OpenLaw.row PySem.Challenge.rw_bargainhall_k07_whole_trees
abbrev hk : PySem.W.Hook := hookP 5 fa fn ts ini ex iv
def ob (s : PySem.W.SharedT) : AlP := obsPG 5 fa fn ts ini ex (HandSHeadRun.getT s)
theorem ob_eq (s : PySem.W.SharedT) : ob s = hk.obs s.abs := obsPG_eq (HandSHeadRun.getT_eq s)
abbrev RP (w : World) : Prop := HandSHeadRun.RunEq R (PySem.W.view R.prog [46]) hk ob 6000 loose w
theorem runF (w : World) : RP (w.withFollow "special-get-raises" false) := by
  intro os
  kernel_rfl
theorem runT (w : World) : RP (w.withFollow "special-get-raises" true) := by
  intro os
  kernel_rfl
theorem run (w : World) : RP w := PySem.W.byRow2 "special-get-raises" (P := RP) runF runT w
abbrev PP : Program := PySem.Challenge.pw_bargainhall_k07_whole_trees
theorem exAt {K : PySem.W.Frag} {l : List Bool} (h : l.all id = true) (i : Nat) {b : Bool} (e : l[i]? = some b) : b = true := List.all_eq_true.mp h b (List.mem_of_getElem? e)
theorem txt {w : World} {K : PySem.W.Frag} {h : Heap} {mg : Str → Option Value} {base : Heap} (X : K.In h) (G : h.Ns mainGlobals mg) (c : obsP fa fn ts ini ex K = valP fn ts iv w) : Txt PP w K mg base := by
  have cd := (sp_t c).d
  have ce := sp_ex c
  have ci := sp_ini c
  have e_WrongNumber : initW K "WrongNumber" = (some ("__init__", "WrongNumber.__init__", defArgs (iS 2), FuncBody.stmts (defBody (iS 2)), defScope (iS 2), mainGlobals, [("__class__" : Str)], builtinsNs) : FnI) := by
    have z : (ini.map (initW K))[0]? = iv[0]? := by rw [ci]
    exact Option.some.inj z
  obtain ⟨cc_WrongNumber, cda_WrongNumber, fd_WrongNumber, TF_WrongNumber⟩ := initB_ok (P := PP) (exAt (K := K) ce 8 rfl) e_WrongNumber
  have F_WrongNumber : L2.FnOk PP w K mg base (L2.CX PP w) 1 (He.ma K (He.ga K "WrongNumber") "__init__") fd_WrongNumber ["self", "number"] (spSup K (He.ga K "WrongNumber") "number" okV) :=
    fn_super (k := 0) (tm := okV) TF_WrongNumber (He.free_ok X G (cd.fact 42 (f := .free "super") rfl)) (by decide +kernel) (NdefX.nscope_by (by decide +kernel)) (by decide +kernel) rfl rfl rfl rfl (fun A outer s H E y hy => ⟨_, L2.pe_joined (ts := List.map tPart ([some "the thing with the number ", none, some " is wrong"] : List (Option Str))) (.cons L2.pe_str (.cons (L2.pe_fmt (pv 1)) (.cons L2.pe_str .nil))), fun σ H1 Q hs h => tJs_ok hy hs ([some "the thing with the number ", none, some " is wrong"] : List (Option Str)) Str.empty _ (by decide +kernel) fun out => h _⟩) (fun env => ⟨_, rfl⟩) (fun _ => rfl) (fun _ => rfl) (fun _ => rfl)
  have B_WrongNumber : L2.Binds K fd_WrongNumber ["self", "number"] [] := by
    obtain ⟨oc, od, kV, doc, pm, an, ct, osl, rfl, _⟩ := TF_WrongNumber.fn
    exact L2.Binds.all fun us hl => match us, hl with | [_, _], _ => rfl
  obtain ⟨f_is_listed, D_is_listed⟩ := cd.def_ 0 (d := dd_is_listed) rfl
  obtain ⟨f_is_letters, D_is_letters⟩ := cd.def_ 1 (d := dd_is_letters) rfl
  obtain ⟨f_is_name, D_is_name⟩ := cd.def_ 2 (d := dd_is_name) rfl
  obtain ⟨f_told_saying, D_told_saying⟩ := cd.def_ 3 (d := dd_told_saying) rfl
  obtain ⟨f_saying_or_none, D_saying_or_none⟩ := cd.def_ 4 (d := dd_saying_or_none) rfl
  obtain ⟨f_head_of, D_head_of⟩ := cd.def_ 5 (d := dd_head_of) rfl
  obtain ⟨f_walked, D_walked⟩ := cd.def_ 6 (d := dd_walked) rfl
  obtain ⟨f_checked_tree, D_checked_tree⟩ := cd.def_ 7 (d := dd_checked_tree) rfl
  obtain ⟨f_arms_of, D_arms_of⟩ := cd.def_ 8 (d := dd_arms_of) rfl
  obtain ⟨f_all_parts, D_all_parts⟩ := cd.def_ 9 (d := dd_all_parts) rfl
  obtain ⟨f_parts_of, D_parts_of⟩ := cd.def_ 10 (d := dd_parts_of) rfl
  obtain ⟨f_inner_spots, D_inner_spots⟩ := cd.def_ 11 (d := dd_inner_spots) rfl
  obtain ⟨f_after_spots, D_after_spots⟩ := cd.def_ 12 (d := dd_after_spots) rfl
  obtain ⟨f_followers, D_followers⟩ := cd.def_ 13 (d := dd_followers) rfl
  obtain ⟨f__law_source, D__law_source⟩ := cd.def_ 14 (d := dd__law_source) rfl
  obtain ⟨f__law_pick, D__law_pick⟩ := cd.def_ 15 (d := dd__law_pick) rfl
  obtain ⟨f__law_say, D__law_say⟩ := cd.def_ 16 (d := dd__law_say) rfl
  obtain ⟨f__law_leaf, D__law_leaf⟩ := cd.def_ 17 (d := dd__law_leaf) rfl
  obtain ⟨f__law_tree, D__law_tree⟩ := cd.def_ 18 (d := dd__law_tree) rfl
  obtain ⟨f__law_arms, D__law_arms⟩ := cd.def_ 19 (d := dd__law_arms) rfl
  obtain ⟨f__law_parts, D__law_parts⟩ := cd.def_ 20 (d := dd__law_parts) rfl
  obtain ⟨f__law_put_at, D__law_put_at⟩ := cd.def_ 21 (d := dd__law_put_at) rfl
  obtain ⟨f__law_fact_names, D__law_fact_names⟩ := cd.def_ 22 (d := dd__law_fact_names) rfl
  obtain ⟨f__law_deed_names, D__law_deed_names⟩ := cd.def_ 23 (d := dd__law_deed_names) rfl
  obtain ⟨f__law_lists, D__law_lists⟩ := cd.def_ 24 (d := dd__law_lists) rfl
  obtain ⟨f__law_follow, D__law_follow⟩ := cd.def_ 25 (d := dd__law_follow) rfl
  obtain ⟨f__law_refusal, D__law_refusal⟩ := cd.def_ 26 (d := dd__law_refusal) rfl
  obtain ⟨f__law_wrong, D__law_wrong⟩ := cd.def_ 27 (d := dd__law_wrong) rfl
  obtain ⟨f__law_tower, D__law_tower⟩ := cd.def_ 28 (d := dd__law_tower) rfl
  obtain ⟨f__law_broad, D__law_broad⟩ := cd.def_ 29 (d := dd__law_broad) rfl
  obtain ⟨f_law, D_law⟩ := cd.def_ 30 (d := dd_law) rfl
  exact {
    b_abs := He.free_ok X G (cd.fact 31 (f := .free "abs") rfl)
    b_all := He.free_ok X G (cd.fact 32 (f := .free "all") rfl)
    b_enumerate := He.free_ok X G (cd.fact 33 (f := .free "enumerate") rfl)
    b_int := He.free_ok X G (cd.fact 34 (f := .free "int") rfl)
    b_isinstance := He.free_ok X G (cd.fact 35 (f := .free "isinstance") rfl)
    b_len := He.free_ok X G (cd.fact 36 (f := .free "len") rfl)
    b_list := He.free_ok X G (cd.fact 37 (f := .free "list") rfl)
    b_max := He.free_ok X G (cd.fact 38 (f := .free "max") rfl)
    b_range := He.free_ok X G (cd.fact 39 (f := .free "range") rfl)
    b_str := He.free_ok X G (cd.fact 40 (f := .free "str") rfl)
    b_tuple := He.free_ok X G (cd.fact 41 (f := .free "tuple") rfl)
    c_WORDS := cnB_ok X G (exAt (K := K) ce 0 rfl)
    c_LONGEST_NAME := cnB_ok X G (exAt (K := K) ce 1 rfl)
    c_MOST_TUPLES := cnB_ok X G (exAt (K := K) ce 2 rfl)
    c_DEEPEST_sayings := cnB_ok X G (exAt (K := K) ce 3 rfl)
    c_MOST_PARTS := cnB_ok X G (exAt (K := K) ce 4 rfl)
    c_DEEPEST_trees := cnB_ok X G (exAt (K := K) ce 5 rfl)
    t_ARMS_sayings := tabB_ok X G (cd.fact 43 (f := .glo "ARMS_sayings") rfl) (exAt (K := K) ce 6 rfl) ((sp_t c).tab 0 (t := (fun K => He.ga K "ARMS_sayings", ["yes", "no", "fact", "not", "and", "or"])) rfl)
    t_ARMS_trees := tabB_ok X G (cd.fact 44 (f := .glo "ARMS_trees") rfl) (exAt (K := K) ce 7 rfl) ((sp_t c).tab 1 (t := (fun K => He.ga K "ARMS_trees", ["pass", "lose", "win", "deed", "need", "grant", "then", "own", "other", "if", "while", "more", "each"])) rfl)
    x_BadDeal := xcl_of (He.glo_ok X G (cd.fact 47 (f := .glo "BadDeal") rfl)) (exAt (K := K) ce 9 rfl) F_WrongNumber B_WrongNumber okMsg_v
    h_DealsError := handB_ok X G (He.glo_ok X G (cd.fact 45 (f := .glo "DealsError") rfl)) (exAt (K := K) ce 10 rfl)
    h_WrongNumber := handB_ok X G (He.glo_ok X G (cd.fact 46 (f := .glo "WrongNumber") rfl)) (exAt (K := K) ce 11 rfl)
    h_BadDeal := handB_ok X G (He.glo_ok X G (cd.fact 47 (f := .glo "BadDeal") rfl)) (exAt (K := K) ce 12 rfl)
    f_number := fldB_ok X G (exAt (K := K) ce 13 rfl)
    d_is_listed := defOk_of X G (cd.fact 0 (f := .glo "is_listed") rfl) D_is_listed fun _ _ _ _ _ _ us hl => match us, hl with | [_], _ => rfl
    d_is_letters := defOk_of X G (cd.fact 1 (f := .glo "is_letters") rfl) D_is_letters fun _ _ _ _ _ _ us hl => match us, hl with | [_], _ => rfl
    d_is_name := defOk_of X G (cd.fact 2 (f := .glo "is_name") rfl) D_is_name fun _ _ _ _ _ _ us hl => match us, hl with | [_], _ => rfl
    d_told_saying := defOk_of X G (cd.fact 3 (f := .glo "told_saying") rfl) D_told_saying fun _ _ _ _ _ _ us hl => match us, hl with | [_, _, _], _ => rfl
    d_saying_or_none := defOk_of X G (cd.fact 4 (f := .glo "saying_or_none") rfl) D_saying_or_none fun _ _ _ _ _ _ us hl => match us, hl with | [_], _ => rfl
    d_head_of := defOk_of X G (cd.fact 5 (f := .glo "head_of") rfl) D_head_of fun _ _ _ _ _ _ us hl => match us, hl with | [_], _ => rfl
    d_walked := defOk_of X G (cd.fact 6 (f := .glo "walked") rfl) D_walked fun _ _ _ _ _ _ us hl => match us, hl with | [_, _, _], _ => rfl
    d_checked_tree := defOk_of X G (cd.fact 7 (f := .glo "checked_tree") rfl) D_checked_tree fun _ _ _ _ _ _ us hl => match us, hl with | [_], _ => rfl
    d_arms_of := defOk_of X G (cd.fact 8 (f := .glo "arms_of") rfl) D_arms_of fun _ _ _ _ _ _ us hl => match us, hl with | [_], _ => rfl
    d_all_parts := defOk_of X G (cd.fact 9 (f := .glo "all_parts") rfl) D_all_parts fun _ _ _ _ _ _ us hl => match us, hl with | [_], _ => rfl
    d_parts_of := defOk_of X G (cd.fact 10 (f := .glo "parts_of") rfl) D_parts_of fun _ _ _ _ _ _ us hl => match us, hl with | [_], _ => rfl
    d_inner_spots := defOk_of X G (cd.fact 11 (f := .glo "inner_spots") rfl) D_inner_spots fun _ _ _ _ _ _ us hl => match us, hl with | [_, _], _ => rfl
    d_after_spots := defOk_of X G (cd.fact 12 (f := .glo "after_spots") rfl) D_after_spots fun _ _ _ _ _ _ us hl => match us, hl with | [_, _], _ => rfl
    d_followers := defOk_of X G (cd.fact 13 (f := .glo "followers") rfl) D_followers fun _ _ _ _ _ _ us hl => match us, hl with | [_], _ => rfl
    d__law_source := defOk_of X G (cd.fact 14 (f := .glo "_law_source") rfl) D__law_source fun _ _ _ _ _ _ us hl => match us, hl with | [_, _], _ => rfl
    d__law_pick := defOk_of X G (cd.fact 15 (f := .glo "_law_pick") rfl) D__law_pick fun _ _ _ _ _ _ us hl => match us, hl with | [_, _], _ => rfl
    d__law_say := defOk_of X G (cd.fact 16 (f := .glo "_law_say") rfl) D__law_say fun _ _ _ _ _ _ us hl => match us, hl with | [_, _, _], _ => rfl
    d__law_leaf := defOk_of X G (cd.fact 17 (f := .glo "_law_leaf") rfl) D__law_leaf fun _ _ _ _ _ _ us hl => match us, hl with | [_, _, _], _ => rfl
    d__law_tree := defOk_of X G (cd.fact 18 (f := .glo "_law_tree") rfl) D__law_tree fun _ _ _ _ _ _ us hl => match us, hl with | [_, _, _, _], _ => rfl
    d__law_arms := defOk_of X G (cd.fact 19 (f := .glo "_law_arms") rfl) D__law_arms fun _ _ _ _ _ _ us hl => match us, hl with | [_], _ => rfl
    d__law_parts := defOk_of X G (cd.fact 20 (f := .glo "_law_parts") rfl) D__law_parts fun _ _ _ _ _ _ us hl => match us, hl with | [_], _ => rfl
    d__law_put_at := defOk_of X G (cd.fact 21 (f := .glo "_law_put_at") rfl) D__law_put_at fun _ _ _ _ _ _ us hl => match us, hl with | [_, _, _], _ => rfl
    d__law_fact_names := defOk_of X G (cd.fact 22 (f := .glo "_law_fact_names") rfl) D__law_fact_names fun _ _ _ _ _ _ us hl => match us, hl with | [_, _], _ => rfl
    d__law_deed_names := defOk_of X G (cd.fact 23 (f := .glo "_law_deed_names") rfl) D__law_deed_names fun _ _ _ _ _ _ us hl => match us, hl with | [_, _], _ => rfl
    d__law_lists := defOk_of X G (cd.fact 24 (f := .glo "_law_lists") rfl) D__law_lists fun _ _ _ _ _ _ us hl => match us, hl with | [_], _ => rfl
    d__law_follow := defOk_of X G (cd.fact 25 (f := .glo "_law_follow") rfl) D__law_follow fun _ _ _ _ _ _ us hl => match us, hl with | [_, _, _], _ => rfl
    d__law_refusal := defOk_of X G (cd.fact 26 (f := .glo "_law_refusal") rfl) D__law_refusal fun _ _ _ _ _ _ us hl => match us, hl with | [_, _], _ => rfl
    d__law_wrong := defOk_of X G (cd.fact 27 (f := .glo "_law_wrong") rfl) D__law_wrong fun _ _ _ _ _ _ us hl => match us, hl with | [_, _], _ => rfl
    d__law_tower := defOk_of X G (cd.fact 28 (f := .glo "_law_tower") rfl) D__law_tower fun _ _ _ _ _ _ us hl => match us, hl with | [_, _], _ => rfl
    d__law_broad := defOk_of X G (cd.fact 29 (f := .glo "_law_broad") rfl) D__law_broad fun _ _ _ _ _ _ us hl => match us, hl with | [_], _ => rfl
    d_law := defOk_of X G (cd.fact 30 (f := .glo "law") rfl) D_law fun _ _ _ _ _ _ us hl => match us, hl with | [_], _ => rfl
  }
theorem holds (hm : ∀ ns : List Int, ns.length ≤ 63 → (∀ z ∈ ns, Builtin.Int.intBits z ≤ 1048576) → ∃ outs, m_law [.dat (.lst (ns.map D.int))] = .ret (.dat (.bl true)) outs) : PySem.Challenge.rw_bargainhall_k07_whole_trees.Holds := by
  w_on; o_law
  refine HandSHeadRun.head_any (r := PySem.W.OpenLaw.row PySem.Challenge.rw_bargainhall_k07_whole_trees) (q := PySem.W.view (PySem.W.OpenLaw.row PySem.Challenge.rw_bargainhall_k07_whole_trees).prog [46]) (H := hk) (ob := ob) (M := 6000) (loose := loose) (d := HandSHeadRun.topDef (PySem.W.OpenLaw.row PySem.Challenge.rw_bargainhall_k07_whole_trees).prog 46) (kwd := []) ob_eq
    (by kernel_rfl) (fun s => by kernel_rfl) run (by kernel_rfl) (by kernel_rfl) (by kernel_rfl) (by rfl) (by first | assumption | decide +kernel) (by decide +kernel) ⟨rfl, rfl, rfl, rfl, rfl, by decide +kernel⟩ ?hw ?hc
  case hw => w_witness2
  case hc =>
    refine walk_EB (l := PySem.Challenge.rw_bargainhall_k07_whole_trees) (n := 63) (k := 73) (x := "script") (CX := fun w => L2.CX PP w) rfl (by decide) (by kernel_rfl) ⟨rfl, by decide, by decide⟩ ?F (fun w H s e s' z => by obtain ⟨_, _, _, _, _, _, _, _, _, _, _, _, z⟩ := z; exact z)
    intro w mg fa h Y G hmg0
    obtain ⟨K, KX, c⟩ := Y
    have hmg : mg ("law" : PySem.Str) = some (.ref fa) := by
      have e : (HandSHeadRun.topDef (PySem.W.OpenLaw.row PySem.Challenge.rw_bargainhall_k07_whole_trees).prog 46).name = ("law" : PySem.Str) := by kernel_rfl
      rw [← e]
      exact hmg0
    obtain ⟨fd, F⟩ := (sp_t c).d.def_ 30 (d := dd_law) rfl
    have e := hmg.symm.trans (He.glo_ok KX G ((sp_t c).d.fact 30 (f := .glo "law") rfl))
    cases e
    have b := L2.FunD.bindsA (ps := ["script"]) F fun _ _ _ _ _ _ us hl => match us, hl with | [_], _ => rfl
    refine ⟨K, fd, spD K mg m_law, KX, fun s v => b s [v] rfl, fun H a ns hl hb hO hS => law_sp hO hS (hm ns hl hb), fun base _ _ => ?_⟩
    exact fd_law (P := PP) (txt KX G c) F
end G07
end H07_text
set_option maxHeartbeats 0 in
theorem PySem.Challenge.cw_bargainhall_k07_whole_trees_holds : PySem.Challenge.rw_bargainhall_k07_whole_trees.Holds := by
  exact G07.holds G07.law_ok
