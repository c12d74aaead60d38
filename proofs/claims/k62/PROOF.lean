import PyProof.Rows.All
import Wide.All
import OpenK.AllK
import Wide.FinOn
import HandS.ForMost
import HandS.ForExc
import HandS.IsInst
import HandS.Wide
import HandS.SortInts
import HandS.Sort
import HandS.Flow
import HandS.CallSlots
import HandS.Defaults
import HandS.Deep
import HandS.Zip
import HandS.TupAny
import HandS.Nested
import HandS.NestedK
import HandS.EndTab
import KE.DataEq
import KE.DataFind
import KE.DataMinMax
import KE.SortData
import KE.Datum
import HandS.WideBits
import HandS.EndBits
import HandS.NoneIn
import HandS.Small
import PyProof.MaxThree
import HandS.Conv
import HandS.Rev
import HandS.SetFor
import HandS.Strs
import HandS.SetKeys
import HandS.Exc
import HandS.ExcOwn
import KE.KExcIs
import HandS.ExcInit
import HandS.Style
import HandS.More
import HandS.New0
import HandS.MakeKwOnly
import PySem.Challenge.RW_crossracks_k62_finder
set_option Elab.async false
set_option linter.all false
set_option maxRecDepth 100000
/-! VA: plain data D, how it lies in the abstract heap (Sh: shared; Own: private to a depth), cells, temporaries, slots. -/
namespace VL
open PySem L2

inductive D where
  | non | bl (b : Bool) | int (i : Int) | str (s : Str)
  | lst (xs : List D) | tup (xs : List D)
  | dK (kvs : List (Key × D)) | dT (kvs : List (List Key × D))
  | exn (cls : Str) (fs : List (Str × D))
  | dF (kvs : List (List Key × D))
  | obj (cls : Str) (fs : List (Str × Nat × D))
  | pob (cls : Str) (fs : List (Str × D))
  | clo (id : Str) (caps : List (Str × Nat × D))

/-- the tables of code objects that the row's lambdas are noted in: address, name; those of the nested defs; the nested defs by a name: statement, name, qualified name -/
class Tbs where
  T : List (Addr × Str)
  N : List NdefX.NTab := []
  B : Str → Option (Stmt × Str × Str) := fun _ => none
variable [TB : Tbs]
/-- a cell that holds v -/
def CelO (c : Addr) (v : V) : HO := .ext fun h => ∃ u, L2.RelV v u ∧ h.IsCell c (some u)
/-- the made function F is the nested def id -/
def NFid (id : Str) (F : NdefX.NF) : Prop := ∃ st name qual, TB.B id = some (st, name, qual) ∧ F = NdefX.NF.of st name qual F.cl F.c
/-- its captured names: each once, all told -/
def CapN (cl : List (Str × Addr)) (vs : List (Str × V)) : Prop := (∀ y c, cl.lookup y = some c → y ∈ vs.map (·.1)) ∧ ∀ x y c, cl.lookup x = some c → cl.lookup y = some c → x = y

/-- fields without their depths -/
def fldsD (fs : List (Str × Nat × D)) : List (Str × D) := fs.map fun p => (p.1, p.2.2)
abbrev Hl := List (Addr × HO)
/-- a caught exception: an object of the class cls with the dict d -/
def ExK (cls : Value) (d : Option Addr) (a : Addr) : HO := .ext fun h => ∃ (oe : Obj) (vs : Array Value), h.get? a = some oe ∧ Zc cls d oe ∧ oe.data = .fields vs

section
variable (K : PySem.W.Frag) (S : Hp)
mutual
inductive Sh : V → D → Prop
  | non : Sh .non .non
  | bl (b : Bool) : Sh (.bl b) (.bl b)
  | int (i : Int) : Sh (.int i) (.int i)
  | str (s : Str) : Sh (.str s) (.str s)
  | lst {a : Addr} {vs : List V} {ds : List D} : SqL K S a vs → ShA vs ds → Sh (.ref a) (.lst ds)
  | tup {a : Addr} {vs : List V} {ds : List D} : S a = some (.tup vs) → ShA vs ds → Sh (.ref a) (.tup ds)
  | dK {a : Addr} {kvs : List (Key × V)} {es : List (Key × D)} : Rd S a (.dK kvs) → ShE Key kvs es → Sh (.ref a) (.dK es)
  | dT {a : Addr} {kvs : List (List Key × V)} {es : List (List Key × D)} : Rd S a (.dT kvs) → ShE (List Key) kvs es → Sh (.ref a) (.dT es)
  | exn {a C : Addr} {d : Option Addr} {cls : Str} {vs : List (Str × V)} {fs : List (Str × D)} : PySem.W.nsIn K mainGlobals cls = some (some (.ref C)) → S a = some (ExK (.ref C) d a) → ((d = none ∧ vs = []) ∨ ∃ b, d = some b ∧ S b = some (.xd vs)) → ShE Str vs fs → Sh (.ref a) (.exn cls fs)
  | dF {a : Addr} {o : Obj} {kvs : List (List Key × V)} {es : List (List Key × D)} : S a = some (.frz o (.dT kvs)) → ShE (List Key) kvs es → Sh (.ref a) (.dF es)
  | obj {a C dx : Addr} {cls : Str} {vs : List (Str × V)} {fs : List (Str × Nat × D)} : PySem.W.nsIn K mainGlobals cls = some (some (.ref C)) → S a = some (.ins C dx vs) → ShE Str vs (fldsD fs) → Sh (.ref a) (.obj cls fs)
  | pob {a C dx : Addr} {cls : Str} {vs ws : List (Str × V)} {fs : List (Str × D)} : PySem.W.nsIn K mainGlobals cls = some (some (.ref C)) → S a = some (.ins C dx vs) → (∀ p ∈ ws, vs.lookup p.1 = some p.2) → ShE Str ws fs → Sh (.ref a) (.pob cls fs)
  | clo {f : Addr} {F : NdefX.NF} {id : Str} {vs : List (Str × V)} {caps : List (Str × Nat × D)} : NFid id F → S f = some (NdefX.FnO f F) → S F.c = some (LamX.CodeO F.c F.qual) → CapN F.cl vs → (∀ p ∈ vs, ∃ c oc, F.cl.lookup p.1 = some c ∧ S c = some (.frz oc (CelO c p.2))) → ShE Str vs (fldsD caps) → Sh (.ref f) (.clo id caps)
inductive ShA : List V → List D → Prop
  | nil : ShA [] []
  | cons {v : V} {vs : List V} {d : D} {ds : List D} : Sh v d → ShA vs ds → ShA (v :: vs) (d :: ds)
inductive ShE : (κ : Type) → List (κ × V) → List (κ × D) → Prop
  | nil {κ : Type} : ShE κ [] []
  | cons {κ : Type} {k : κ} {v : V} {kvs : List (κ × V)} {d : D} {es : List (κ × D)} : Sh v d → ShE κ kvs es → ShE κ ((k, v) :: kvs) ((k, d) :: es)
end

mutual
/-- private to the depth n: the containers of the upper n levels stand in the heaplet alone -/
inductive Own : Nat → V → D → Hl → Prop
  | sh {v : V} {d : D} : Sh K S v d → Own 0 v d []
  | non {n : Nat} : Own (n + 1) .non .non []
  | bl {n : Nat} (b : Bool) : Own (n + 1) (.bl b) (.bl b) []
  | int {n : Nat} (i : Int) : Own (n + 1) (.int i) (.int i) []
  | str {n : Nat} (s : Str) : Own (n + 1) (.str s) (.str s) []
  | lst {n : Nat} {a : Addr} {vs : List V} {ds : List D} {L : Hl} : vs.length ≤ sizeLine → OwnA n vs ds L → Own (n + 1) (.ref a) (.lst ds) ((a, .lst vs) :: L)
  | tup {n : Nat} {a : Addr} {vs : List V} {ds : List D} {L : Hl} : OwnA n vs ds L → Own (n + 1) (.ref a) (.tup ds) ((a, .tup vs) :: L)
  | dK {n : Nat} {a : Addr} {kvs : List (Key × V)} {es : List (Key × D)} {L : Hl} : OwnE Key n kvs es L → Own (n + 1) (.ref a) (.dK es) ((a, .dK kvs) :: L)
  | dT {n : Nat} {a : Addr} {kvs : List (List Key × V)} {es : List (List Key × D)} {L : Hl} : OwnE (List Key) n kvs es L → Own (n + 1) (.ref a) (.dT es) ((a, .dT kvs) :: L)
  | obj {n : Nat} {a C dx : Addr} {cls : Str} {vs : List (Str × V)} {fs : List (Str × Nat × D)} {L : Hl} : PySem.W.nsIn K mainGlobals cls = some (some (.ref C)) → OwnF vs fs L → Own (n + 1) (.ref a) (.obj cls fs) ((a, .ins C dx vs) :: L)
  | pob {n : Nat} {a C dx : Addr} {cls : Str} {vs ws : List (Str × V)} {fs : List (Str × D)} : PySem.W.nsIn K mainGlobals cls = some (some (.ref C)) → (∀ p ∈ ws, vs.lookup p.1 = some p.2) → ShE K S Str ws fs → Own (n + 1) (.ref a) (.pob cls fs) [(a, .ins C dx vs)]
  | clo {n : Nat} {f : Addr} {F : NdefX.NF} {id : Str} {vs : List (Str × V)} {caps : List (Str × Nat × D)} {M L : Hl} : NFid id F → S f = some (NdefX.FnO f F) → S F.c = some (LamX.CodeO F.c F.qual) → CapN F.cl vs → (∀ p ∈ vs, ∃ c oc, F.cl.lookup p.1 = some c ∧ (c, .frz oc (CelO c p.2)) ∈ M) → (∀ q ∈ M, ∃ y, F.cl.lookup y = some q.1) → OwnF vs caps L → Own (n + 1) (.ref f) (.clo id caps) (M ++ L)
/-- fields, each to a depth of its own -/
inductive OwnF : List (Str × V) → List (Str × Nat × D) → Hl → Prop
  | nil : OwnF [] [] []
  | cons {k : Str} {n : Nat} {v : V} {kvs : List (Str × V)} {d : D} {es : List (Str × Nat × D)} {L1 L2 : Hl} : Own n v d L1 → OwnF kvs es L2 → OwnF ((k, v) :: kvs) ((k, n, d) :: es) (L1 ++ L2)
inductive OwnA : Nat → List V → List D → Hl → Prop
  | nil {n : Nat} : OwnA n [] [] []
  | cons {n : Nat} {v : V} {vs : List V} {d : D} {ds : List D} {L1 L2 : Hl} : Own n v d L1 → OwnA n vs ds L2 → OwnA n (v :: vs) (d :: ds) (L1 ++ L2)
inductive OwnE : (κ : Type) → Nat → List (κ × V) → List (κ × D) → Hl → Prop
  | nil {κ : Type} {n : Nat} : OwnE κ n [] [] []
  | cons {κ : Type} {n : Nat} {k : κ} {v : V} {kvs : List (κ × V)} {d : D} {es : List (κ × D)} {L1 L2 : Hl} : Own n v d L1 → OwnE κ n kvs es L2 → OwnE κ n ((k, v) :: kvs) ((k, d) :: es) (L1 ++ L2)
end
end

/-! ### monotone -/
theorem Rd.ex {S S' : Hp} {a : Addr} {u : HO} (e : Same S S') (h : Rd S a u) : Rd S' a u := by
  rcases h with h | ⟨o, h⟩
  · exact .inl (e _ _ h)
  · exact .inr ⟨o, e _ _ h⟩
theorem SqL.ex {K : PySem.W.Frag} {S S' : Hp} {a : Addr} {vs : List V} (e : Same S S') (h : SqL K S a vs) : SqL K S' a vs := h.imp (Rd.ex e) id
theorem SqT.ex {K : PySem.W.Frag} {S S' : Hp} {a : Addr} {vs : List V} (e : Same S S') (h : SqT K S a vs) : SqT K S' a vs := h.imp (Rd.ex e) id
section
variable {K : PySem.W.Frag} {S S' : Hp}
mutual
theorem Sh.ex (e : Same S S') : ∀ {v : V} {d : D}, Sh K S v d → Sh K S' v d
  | _, _, .non => .non
  | _, _, .bl b => .bl b
  | _, _, .int i => .int i
  | _, _, .str s => .str s
  | _, _, .lst h t => .lst (SqL.ex e h) (ShA.ex e t)
  | _, _, .tup h t => .tup (e _ _ h) (ShA.ex e t)
  | _, _, .dK h t => .dK (Rd.ex e h) (ShE.ex e t)
  | _, _, .dT h t => .dT (Rd.ex e h) (ShE.ex e t)
  | _, _, .dF h t => .dF (e _ _ h) (ShE.ex e t)
  | _, _, .exn n h o t => .exn n (e _ _ h) (o.imp id fun ⟨b, x, y⟩ => ⟨b, x, e _ _ y⟩) (ShE.ex e t)
  | _, _, .obj n h t => .obj n (e _ _ h) (ShE.ex e t)
  | _, _, .pob n h w t => .pob n (e _ _ h) w (ShE.ex e t)
  | _, _, .clo i h c g w t => .clo i (e _ _ h) (e _ _ c) g (fun p hp => let ⟨c, oc, x, y⟩ := w p hp; ⟨c, oc, x, e _ _ y⟩) (ShE.ex e t)
theorem ShA.ex (e : Same S S') : ∀ {vs : List V} {ds : List D}, ShA K S vs ds → ShA K S' vs ds
  | _, _, .nil => .nil
  | _, _, .cons h t => .cons (Sh.ex e h) (ShA.ex e t)
theorem ShE.ex (e : Same S S') : ∀ {κ : Type} {vs : List (κ × V)} {ds : List (κ × D)}, ShE K S κ vs ds → ShE K S' κ vs ds
  | _, _, _, .nil => .nil
  | _, _, _, .cons h t => .cons (Sh.ex e h) (ShE.ex e t)
end
mutual
theorem Own.ex (e : Same S S') : ∀ {n : Nat} {v : V} {d : D} {L : Hl}, Own K S n v d L → Own K S' n v d L
  | _, _, _, _, .sh h => .sh (h.ex e)
  | _, _, _, _, .non => .non
  | _, _, _, _, .bl b => .bl b
  | _, _, _, _, .int i => .int i
  | _, _, _, _, .str s => .str s
  | _, _, _, _, .lst z t => .lst z (OwnA.ex e t)
  | _, _, _, _, .tup t => .tup (OwnA.ex e t)
  | _, _, _, _, .dK t => .dK (OwnE.ex e t)
  | _, _, _, _, .dT t => .dT (OwnE.ex e t)
  | _, _, _, _, .obj n t => .obj n (OwnF.ex e t)
  | _, _, _, _, .pob n w t => .pob n w (ShE.ex e t)
  | _, _, _, _, .clo i h c g w u t => .clo i (e _ _ h) (e _ _ c) g w u (OwnF.ex e t)
theorem OwnF.ex (e : Same S S') : ∀ {v : List (Str × V)} {d : List (Str × Nat × D)} {L : Hl}, OwnF K S v d L → OwnF K S' v d L
  | _, _, _, .nil => .nil
  | _, _, _, .cons h t => .cons (Own.ex e h) (OwnF.ex e t)
theorem OwnA.ex (e : Same S S') : ∀ {n : Nat} {v : List V} {d : List D} {L : Hl}, OwnA K S n v d L → OwnA K S' n v d L
  | _, _, _, _, .nil => .nil
  | _, _, _, _, .cons h t => .cons (Own.ex e h) (OwnA.ex e t)
theorem OwnE.ex (e : Same S S') : ∀ {κ : Type} {n : Nat} {v : List (κ × V)} {d : List (κ × D)} {L : Hl}, OwnE K S κ n v d L → OwnE K S' κ n v d L
  | _, _, _, _, _, .nil => .nil
  | _, _, _, _, _, .cons h t => .cons (Own.ex e h) (OwnE.ex e t)
end
/-! what is private is shared over a heap that has its heaplet -/
mutual
theorem Own.sh' (e : Same S S') : ∀ {n : Nat} {v : V} {d : D} {L : Hl}, Own K S n v d L → (∀ p ∈ L, S' p.1 = some p.2) → Sh K S' v d
  | _, _, _, _, .sh h, _ => h.ex e
  | _, _, _, _, .non, _ => .non
  | _, _, _, _, .bl b, _ => .bl b
  | _, _, _, _, .int i, _ => .int i
  | _, _, _, _, .str s, _ => .str s
  | _, _, _, _, .lst z t, h => .lst (SqL.of (h _ List.mem_cons_self)) (OwnA.sh' e t fun p hp => h p (List.mem_cons_of_mem _ hp))
  | _, _, _, _, .tup t, h => .tup (h _ List.mem_cons_self) (OwnA.sh' e t fun p hp => h p (List.mem_cons_of_mem _ hp))
  | _, _, _, _, .dK t, h => .dK (.inl (h _ List.mem_cons_self)) (OwnE.sh' e t fun p hp => h p (List.mem_cons_of_mem _ hp))
  | _, _, _, _, .dT t, h => .dT (.inl (h _ List.mem_cons_self)) (OwnE.sh' e t fun p hp => h p (List.mem_cons_of_mem _ hp))
  | _, _, _, _, .obj n t, h => .obj n (h _ List.mem_cons_self) (OwnF.sh' e t fun p hp => h p (List.mem_cons_of_mem _ hp))
  | _, _, _, _, .pob n w t, h => .pob n (h _ List.mem_cons_self) w (ShE.ex e t)
  | _, _, _, _, .clo i f c g w u t, h => .clo i (e _ _ f) (e _ _ c) g (fun p hp => let ⟨c, oc, x, y⟩ := w p hp; ⟨c, oc, x, h _ (List.mem_append_left _ y)⟩) (OwnF.sh' e t fun p hp => h p (List.mem_append_right _ hp))
theorem OwnF.sh' (e : Same S S') : ∀ {v : List (Str × V)} {d : List (Str × Nat × D)} {L : Hl}, OwnF K S v d L → (∀ p ∈ L, S' p.1 = some p.2) → ShE K S' Str v (fldsD d)
  | _, _, _, .nil, _ => .nil
  | _, _, _, .cons h t, hl => .cons (Own.sh' e h fun p hp => hl p (List.mem_append_left _ hp)) (OwnF.sh' e t fun p hp => hl p (List.mem_append_right _ hp))
theorem OwnA.sh' (e : Same S S') : ∀ {n : Nat} {v : List V} {d : List D} {L : Hl}, OwnA K S n v d L → (∀ p ∈ L, S' p.1 = some p.2) → ShA K S' v d
  | _, _, _, _, .nil, _ => .nil
  | _, _, _, _, .cons h t, hl => .cons (Own.sh' e h fun p hp => hl p (List.mem_append_left _ hp)) (OwnA.sh' e t fun p hp => hl p (List.mem_append_right _ hp))
theorem OwnE.sh' (e : Same S S') : ∀ {κ : Type} {n : Nat} {v : List (κ × V)} {d : List (κ × D)} {L : Hl}, OwnE K S κ n v d L → (∀ p ∈ L, S' p.1 = some p.2) → ShE K S' κ v d
  | _, _, _, _, _, .nil, _ => .nil
  | _, _, _, _, _, .cons h t, hl => .cons (Own.sh' e h fun p hp => hl p (List.mem_append_left _ hp)) (OwnE.sh' e t fun p hp => hl p (List.mem_append_right _ hp))
end
/-! ### items -/
theorem ShA.length : ∀ {vs : List V} {ds : List D}, ShA K S vs ds → vs.length = ds.length
  | _, _, .nil => rfl
  | _, _, .cons _ t => congrArg (· + 1) (ShA.length t)
theorem OwnA.length : ∀ {n : Nat} {vs : List V} {ds : List D} {L : Hl}, OwnA K S n vs ds L → vs.length = ds.length
  | _, _, _, _, .nil => rfl
  | _, _, _, _, .cons _ t => congrArg (· + 1) (OwnA.length t)
theorem OwnE.length : ∀ {κ : Type} {n : Nat} {vs : List (κ × V)} {ds : List (κ × D)} {L : Hl}, OwnE K S κ n vs ds L → vs.length = ds.length
  | _, _, _, _, _, .nil => rfl
  | _, _, _, _, _, .cons _ t => congrArg (· + 1) (OwnE.length t)
theorem ShE.length : ∀ {κ : Type} {vs : List (κ × V)} {ds : List (κ × D)}, ShE K S κ vs ds → vs.length = ds.length
  | _, _, _, .nil => rfl
  | _, _, _, .cons _ t => congrArg (· + 1) (ShE.length t)
theorem ShA.get : ∀ {vs : List V} {ds : List D}, ShA K S vs ds → ∀ {i : Nat} {d : D}, ds[i]? = some d → ∃ v, vs[i]? = some v ∧ Sh K S v d
  | _, _, .nil, i, d, h => by simp at h
  | _, _, .cons h _, 0, d, e => by simp at e; subst e; exact ⟨_, rfl, h⟩
  | _, _, .cons _ t, i + 1, d, e => by
    obtain ⟨v, h1, h2⟩ := ShA.get t (i := i) (d := d) (by simpa using e)
    exact ⟨v, by simpa using h1, h2⟩
theorem ShA.get' : ∀ {vs : List V} {ds : List D}, ShA K S vs ds → ∀ {i : Nat} {v : V}, vs[i]? = some v → ∃ d, ds[i]? = some d ∧ Sh K S v d
  | _, _, .nil, i, d, h => by simp at h
  | _, _, .cons h _, 0, d, e => by simp at e; subst e; exact ⟨_, rfl, h⟩
  | _, _, .cons _ t, i + 1, d, e => by
    obtain ⟨v, h1, h2⟩ := ShA.get' t (i := i) (v := d) (by simpa using e)
    exact ⟨v, by simpa using h1, h2⟩
theorem OwnA.get : ∀ {n : Nat} {vs : List V} {ds : List D} {L : Hl}, OwnA K S n vs ds L → ∀ {i : Nat} {d : D}, ds[i]? = some d → ∃ v L1, vs[i]? = some v ∧ Own K S n v d L1 ∧ L1.Sublist L
  | _, _, _, _, .nil, i, d, h => by simp at h
  | _, _, _, _, .cons h _, 0, d, e => by simp at e; subst e; exact ⟨_, _, rfl, h, List.sublist_append_left _ _⟩
  | _, _, _, _, .cons _ t, i + 1, d, e => by
    obtain ⟨v, L1, h1, h2, h3⟩ := OwnA.get t (i := i) (d := d) (by simpa using e)
    exact ⟨v, L1, by simpa using h1, h2, h3.trans (List.sublist_append_right _ _)⟩
theorem ShA.append : ∀ {vs ws : List V} {ds es : List D}, ShA K S vs ds → ShA K S ws es → ShA K S (vs ++ ws) (ds ++ es)
  | _, _, _, _, .nil, h => h
  | _, _, _, _, .cons h t, q => .cons h (ShA.append t q)
theorem OwnA.append : ∀ {n : Nat} {vs ws : List V} {ds es : List D} {L L' : Hl}, OwnA K S n vs ds L → OwnA K S n ws es L' → OwnA K S n (vs ++ ws) (ds ++ es) (L ++ L')
  | _, _, _, _, _, _, _, .nil, h => h
  | _, _, _, _, _, _, _, .cons h t, q => by
    rw [List.append_assoc]
    exact .cons h (OwnA.append t q)
theorem OwnA.of_sh : ∀ {vs : List V} {ds : List D}, ShA K S vs ds → OwnA K S 0 vs ds []
  | _, _, .nil => .nil
  | _, _, .cons h t => .cons (L1 := []) (.sh h) (OwnA.of_sh t)
theorem OwnA.to_sh : ∀ {vs : List V} {ds : List D} {L : Hl}, OwnA K S 0 vs ds L → ShA K S vs ds ∧ L = []
  | _, _, _, .nil => ⟨.nil, rfl⟩
  | _, _, _, .cons (.sh h) t => ⟨.cons h (OwnA.to_sh t).1, by rw [(OwnA.to_sh t).2]; rfl⟩
theorem OwnE.of_sh : ∀ {κ : Type} {vs : List (κ × V)} {ds : List (κ × D)}, ShE K S κ vs ds → OwnE K S κ 0 vs ds []
  | _, _, _, .nil => .nil
  | _, _, _, .cons h t => .cons (L1 := []) (.sh h) (OwnE.of_sh t)
theorem OwnE.to_sh : ∀ {κ : Type} {vs : List (κ × V)} {ds : List (κ × D)} {L : Hl}, OwnE K S κ 0 vs ds L → ShE K S κ vs ds ∧ L = []
  | _, _, _, _, .nil => ⟨.nil, rfl⟩
  | _, _, _, _, .cons (.sh h) t => ⟨.cons h (OwnE.to_sh t).1, by rw [(OwnE.to_sh t).2]; rfl⟩
end

/-- neither a table nor a code object -/
def NT (o : HO) : Prop := (∀ ps, o ≠ .tbl ps) ∧ ∀ c q, o ≠ LamX.CodeO c q
/-! ### heaps in parts: shared, private -/
structure HRel (S : Hp) (L : Hl) (H : Hp) : Prop where
  sh : Same S H
  pr : ∀ p ∈ L, H p.1 = some p.2 ∧ (S p.1 = none ∨ ∃ vs, p.2 = .tup vs)
  nd : (L.map (·.1)).Nodup
  tb : LamX.Tabs TB.T H
  tn : NdefX.TabsN TB.N H
  ns : ∀ b ps, S b ≠ some (.tbl ps)
  nl : ∀ p ∈ L, NT p.2
namespace HRel
variable {S S' H H' : Hp} {L L' : Hl} {p : Addr} {o o' : HO}
theorem perm (h : HRel S L H) (q : L.Perm L') : HRel S L' H := ⟨h.sh, fun p hp => h.pr p (q.mem_iff.mpr hp), (q.map _).nodup_iff.mp h.nd, h.tb, h.tn, h.ns, fun p hp => h.nl p (q.mem_iff.mpr hp)⟩
theorem sub (h : HRel S L H) (q : L'.Sublist L) : HRel S L' H := ⟨h.sh, fun p hp => h.pr p (q.subset hp), h.nd.sublist (q.map _), h.tb, h.tn, h.ns, fun p hp => h.nl p (q.subset hp)⟩
theorem laid (h : HRel S L H) (hp : H p = none) (nt : ∀ ps, o ≠ .tbl ps := by exact fun _ z => (by first | (cases z; done) | (unfold ExK at z; cases z; done) | (unfold L2.SetO at z; cases z; done))) : HRel (upd S p o) L (upd H p o) := by
  refine ⟨fun b u e => ?_, fun q hq => ?_, h.nd, h.tb.ext fun b u e => (by rw [upd_ne (ne_of_none e hp)]; exact e), h.tn.ext fun b u e => (by rw [upd_ne (ne_of_none e hp)]; exact e), fun b ps e => ?_, h.nl⟩
  rotate_left 2
  · by_cases hb : b = p
    · subst hb; rw [upd_same] at e; exact nt ps (Option.some.inj e)
    · rw [upd_ne hb] at e; exact h.ns b ps e
  · by_cases hb : b = p
    · subst hb; rw [upd_same] at e ⊢; exact e
    · rw [upd_ne hb] at e ⊢; exact h.sh b u e
  · obtain ⟨h1, h2⟩ := h.pr q hq
    have : q.1 ≠ p := ne_of_none h1 hp
    exact ⟨by rw [upd_ne this]; exact h1, by rw [upd_ne this]; exact h2⟩
theorem none_of (h : HRel S L H) (hp : H p = none) : S p = none := by
  cases e : S p with
  | none => rfl
  | some u => rw [h.sh _ _ e] at hp; cases hp
theorem not_mem (h : HRel S L H) (hp : H p = none) : p ∉ L.map (·.1) := fun hm => by
  obtain ⟨q, hq, e⟩ := List.mem_map.mp hm
  have := (h.pr q hq).1
  rw [e, hp] at this; cases this
theorem lay (h : HRel S L H) (hp : H p = none) (nt : NT o := by exact ⟨fun _ z => (by cases z), fun _ _ z => (by unfold LamX.CodeO at z; cases z)⟩) : HRel S ((p, o) :: L) (upd H p o) := by
  refine ⟨fun b u e => ?_, fun q hq => ?_, List.nodup_cons.mpr ⟨h.not_mem hp, h.nd⟩, h.tb.ext fun b u e => (by rw [upd_ne (ne_of_none e hp)]; exact e), h.tn.ext fun b u e => (by rw [upd_ne (ne_of_none e hp)]; exact e), h.ns, fun q hq => (List.mem_cons.mp hq).elim (fun z => by rw [z]; exact nt) (h.nl q)⟩
  · rw [upd_ne (ne_of_none (h.sh b u e) hp)]; exact h.sh b u e
  · rcases List.mem_cons.mp hq with rfl | hq
    · exact ⟨upd_same, .inl (h.none_of hp)⟩
    · obtain ⟨h1, h2⟩ := h.pr q hq
      exact ⟨by rw [upd_ne (ne_of_none h1 hp)]; exact h1, h2⟩
theorem put (h : HRel S ((p, o) :: L) H) (nt2 : NT o' := by exact ⟨fun _ z => (by cases z), fun _ _ z => (by unfold LamX.CodeO at z; cases z)⟩) (nu : ∀ vs, o ≠ .tup vs := by exact fun _ z => (by cases z)) : HRel S ((p, o') :: L) (upd H p o') := by
  have hn := (List.nodup_cons.mp h.nd).1
  obtain ⟨h1, h2⟩ := h.pr _ List.mem_cons_self
  have h2 : S p = none := h2.resolve_right fun ⟨vs, z⟩ => nu vs z
  have nt : NT o := h.nl _ List.mem_cons_self
  have tb' : LamX.Tabs TB.T (upd H p o') := fun t ht => by
    obtain ⟨ps, e1, e2, e3⟩ := h.tb t ht
    have n1 : t.1 ≠ p := fun z => by
      rw [z, h1] at e1
      exact nt.1 ps (Option.some.inj e1)
    refine ⟨ps, by rw [upd_ne n1]; exact e1, e2, fun pos cv hc => ?_⟩
    obtain ⟨c, f1, f2⟩ := e3 pos cv hc
    refine ⟨c, f1, ?_⟩
    rw [upd_ne fun z => ?_]
    · exact f2
    · rw [z, h1] at f2
      exact nt.2 _ _ (Option.some.inj f2)
  have tn' : NdefX.TabsN TB.N (upd H p o') := fun t ht => by
    obtain ⟨ps, e1, e2, e3⟩ := h.tn t ht
    have n1 : t.1 ≠ p := fun z => by
      rw [z, h1] at e1
      exact nt.1 ps (Option.some.inj e1)
    refine ⟨ps, by rw [upd_ne n1]; exact e1, e2, fun pos cv hc => ?_⟩
    obtain ⟨c, f1, f2⟩ := e3 pos cv hc
    refine ⟨c, f1, ?_⟩
    rw [upd_ne fun z => ?_]
    · exact f2
    · rw [z, h1] at f2
      exact nt.2 _ _ (Option.some.inj f2)
  refine ⟨fun b u e => ?_, fun q hq => ?_, h.nd, tb', tn', h.ns, fun q hq => (List.mem_cons.mp hq).elim (fun z => by rw [z]; exact nt2) fun z => h.nl q (List.mem_cons_of_mem _ z)⟩
  · have : b ≠ p := by rintro rfl; rw [h2] at e; cases e
    rw [upd_ne this]; exact h.sh b u e
  · rcases List.mem_cons.mp hq with rfl | hq
    · exact ⟨upd_same, .inl h2⟩
    · obtain ⟨h3, h4⟩ := h.pr q (List.mem_cons_of_mem _ hq)
      have : q.1 ≠ p := fun z => hn (List.mem_map.mpr ⟨q, hq, z⟩)
      exact ⟨by rw [upd_ne this]; exact h3, h4⟩
/-- the heaplet L is shared from now on -/
def addl (S : Hp) (L : Hl) : Hp := fun a => match L.find? (fun p => p.1 == a) with
  | some p => some p.2
  | none => S a
theorem addl_mem {q : Addr × HO} (nd : (L.map (·.1)).Nodup) (hq : q ∈ L) : addl S L q.1 = some q.2 := by
  unfold addl
  have : L.find? (fun p => p.1 == q.1) = some q := by
    induction L with
    | nil => cases hq
    | cons r t ih =>
      rw [List.map_cons, List.nodup_cons] at nd
      rcases List.mem_cons.mp hq with rfl | hq'
      · simp
      · have hne : r.1 ≠ q.1 := fun z => nd.1 (z ▸ List.mem_map.mpr ⟨q, hq', rfl⟩)
        rw [List.find?_cons_of_neg (by simpa using hne)]
        exact ih nd.2 hq'
  rw [this]
theorem addl_not {a : Addr} (h : a ∉ L.map (·.1)) : addl S L a = S a := by
  unfold addl
  have : L.find? (fun p => p.1 == a) = none := List.find?_eq_none.mpr fun q hq z => h (List.mem_map.mpr ⟨q, hq, by simpa using z⟩)
  rw [this]
theorem freeze (h : HRel S (L ++ L') H) : HRel (addl S L) L' H ∧ Same S (addl S L) ∧ ∀ q ∈ L, addl S L q.1 = some q.2 := by
  have nd := h.nd
  rw [List.map_append, List.nodup_append] at nd
  have g : ∀ q ∈ L, addl S L q.1 = some q.2 := fun q hq => addl_mem nd.1 hq
  have e : Same S (addl S L) := fun b u eb => by
    by_cases hm : b ∈ L.map (·.1)
    · obtain ⟨q, hq, z⟩ := List.mem_map.mp hm
      have h1 := (h.pr q (List.mem_append_left _ hq)).1
      have h2 := g q hq
      rw [z] at h1 h2
      rw [h2, ← h1, h.sh b u eb]
    · rw [addl_not hm]
      exact eb
  refine ⟨⟨fun b u eb => ?_, fun q hq => ?_, nd.2.1, h.tb, h.tn, fun b ps eb => ?_, fun q hq => h.nl q (List.mem_append_right _ hq)⟩, e, g⟩
  rotate_left 2
  · by_cases hm : b ∈ L.map (·.1)
    · obtain ⟨q, hq, z⟩ := List.mem_map.mp hm
      have h1 := g q hq
      rw [z, eb] at h1
      exact (h.nl q (List.mem_append_left _ hq)).1 ps (Option.some.inj h1).symm
    · rw [addl_not hm] at eb
      exact h.ns b ps eb
  · by_cases hm : b ∈ L.map (·.1)
    · obtain ⟨q, hq, z⟩ := List.mem_map.mp hm
      have h1 := g q hq
      rw [z, eb] at h1
      cases h1
      rw [← z]
      exact (h.pr q (List.mem_append_left _ hq)).1
    · rw [addl_not hm] at eb
      exact h.sh b u eb
  · obtain ⟨h1, h2⟩ := h.pr q (List.mem_append_right _ hq)
    refine ⟨h1, ?_⟩
    rw [addl_not]
    · exact h2
    · intro hm
      exact nd.2.2 _ hm _ (List.mem_map.mpr ⟨q, hq, rfl⟩) rfl
/-- a tuple of the heap is shared from now on -/
theorem adopt (h : HRel S L H) {q : Addr} {vs : List V} (e : H q = some (.tup vs)) : ∃ S', Same S S' ∧ HRel S' L H ∧ S' q = some (.tup vs) := by
  cases hS : S q with
  | some u =>
    have := h.sh q u hS
    rw [e] at this
    exact ⟨S, Same.refl S, h, by rw [hS]; exact this.symm⟩
  | none =>
    have e1 : Same S (upd S q (.tup vs)) := fun b u z => by rw [upd_ne (ne_of_none z hS)]; exact z
    refine ⟨upd S q (.tup vs), e1, ⟨fun b u z => ?_, fun p hp => ?_, h.nd, h.tb, h.tn, fun b ps z => ?_, h.nl⟩, upd_same⟩
    · by_cases hb : b = q
      · subst hb; rw [upd_same] at z; rw [← z]; exact e
      · rw [upd_ne hb] at z; exact h.sh b u z
    · obtain ⟨h1, h2⟩ := h.pr p hp
      refine ⟨h1, ?_⟩
      by_cases hb : p.1 = q
      · rw [hb, e] at h1
        exact .inr ⟨vs, (Option.some.inj h1).symm⟩
      · rw [upd_ne hb]; exact h2
    · by_cases hb : b = q
      · subst hb; rw [upd_same] at z; cases z
      · rw [upd_ne hb] at z; exact h.ns b ps z
theorem all (h : HRel S L H) : ∀ p ∈ L, H p.1 = some p.2 := fun p hp => (h.pr p hp).1
end HRel
end VL
set_option maxRecDepth 100000
/-! VB: cells, temporaries, slots; what a reading says of cells (ExprOk, TestOk, ArgsOk, StmtOk). -/
namespace VL
open PySem L2
variable [TB : Tbs]

/-- whose a cell is: its holder's own; a view of a local's; a view of what was lent; what the j-th argument handed in to be changed -/
inductive Bm where
  | o | l | p | m (j : Nat)
structure Cell where
  b : Bm
  n : Nat
  d : D
abbrev sh (d : D) : Cell := ⟨.o, 0, d⟩
abbrev own (n : Nat) (d : D) : Cell := ⟨.o, n, d⟩
abbrev lent (n : Nat) (d : D) : Cell := ⟨.p, n, d⟩
/-- how a slot's cell is seen by an expression -/
def Cell.view : Cell → Cell
  | ⟨.o, 0, d⟩ => ⟨.o, 0, d⟩
  | ⟨.o, n + 1, d⟩ => ⟨.l, n + 1, d⟩
  | ⟨.m _, 0, d⟩ => ⟨.o, 0, d⟩
  | ⟨.m _, n + 1, d⟩ => ⟨.l, n + 1, d⟩
  | c => c
/-- how an argument is seen by a callee -/
def Cell.lend : Cell → Cell
  | ⟨_, 0, d⟩ => ⟨.o, 0, d⟩
  | ⟨_, n + 1, d⟩ => ⟨.p, n + 1, d⟩
abbrev Env := List (Option Cell)
/-- an exception: its class by name, its fields -/
structure Exn where
  cls : Str
  fs : List (Str × D)

section
variable (K : PySem.W.Frag) (S : Hp) (Fl F : Hl)
inductive CellOk : Cell → V → Hl → Prop
  | o {n : Nat} {d : D} {v : V} {L : Hl} : Own K S n v d L → CellOk ⟨.o, n, d⟩ v L
  | l {n : Nat} {d : D} {v : V} {L : Hl} : L.Sublist Fl → Own K S n v d L → CellOk ⟨.l, n, d⟩ v []
  | p {n : Nat} {d : D} {v : V} {L : Hl} : L.Sublist F → Own K S n v d L → CellOk ⟨.p, n, d⟩ v []
  | m {j n : Nat} {d : D} {v : V} {L : Hl} : Own K S n v d L → CellOk ⟨.m j, n, d⟩ v L
inductive Tmp : List Cell → List V → Hl → Prop
  | nil : Tmp [] [] []
  | cons {c : Cell} {cs : List Cell} {v : V} {vs : List V} {L1 L2 : Hl} : CellOk K S Fl F c v L1 → Tmp cs vs L2 → Tmp (c :: cs) (v :: vs) (L1 ++ L2)
def Rel (H : Hp) (cs : List Cell) (vs : List V) : Prop := ∃ L, Tmp K S Fl F cs vs L ∧ HRel S (L ++ (Fl ++ F)) H
structure EnvV (ρ : Env) (σ : St) : Prop where
  len : σ.length = ρ.length
  get : ∀ (i : Nat) (c : Cell), ρ[i]? = some (some c) → ∃ v, σ[i]? = some (some v) ∧ CellOk K S Fl F c.view v []
inductive Slots (A : Nat → V) : Env → St → Hl → Prop
  | nil : Slots A [] [] []
  | no {cs : Env} {vs : St} {x : Option V} {L : Hl} : Slots A cs vs L → Slots A (none :: cs) (x :: vs) L
  | yes {c : Cell} {cs : Env} {v : V} {vs : St} {L1 L2 : Hl} : CellOk K S [] F c v L1 → (∀ j, c.b = .m j → v = A j) → Slots A cs vs L2 → Slots A (some c :: cs) (some v :: vs) (L1 ++ L2)
def SRel (A : Nat → V) (H : Hp) (ρ : Env) (σ : St) : Prop := ∃ L, Slots K S F A ρ σ L ∧ HRel S (L ++ F) H
end

section
variable {K : PySem.W.Frag} {S S' : Hp} {Fl F Fl' F' : Hl} {H H' : Hp} {c : Cell} {cs : List Cell} {v : V} {vs : List V} {L : Hl} {d : D}
theorem CellOk.ex (e : Same S S') : CellOk K S Fl F c v L → CellOk K S' Fl F c v L
  | .o h => .o (h.ex e)
  | .l q h => .l q (h.ex e)
  | .p q h => .p q (h.ex e)
  | .m h => .m (h.ex e)
theorem Tmp.ex (e : Same S S') : ∀ {cs : List Cell} {vs : List V} {L : Hl}, Tmp K S Fl F cs vs L → Tmp K S' Fl F cs vs L
  | _, _, _, .nil => .nil
  | _, _, _, .cons h t => .cons (h.ex e) (Tmp.ex e t)
theorem Slots.ex {A : Nat → V} (e : Same S S') : ∀ {cs : Env} {vs : St} {L : Hl}, Slots K S F A cs vs L → Slots K S' F A cs vs L
  | _, _, _, .nil => .nil
  | _, _, _, .no t => .no (Slots.ex e t)
  | _, _, _, .yes h g t => .yes (h.ex e) g (Slots.ex e t)
theorem EnvV.ex {ρ : Env} {σ : St} (h : EnvV K S Fl F ρ σ) (e : Same S S') : EnvV K S' Fl F ρ σ := ⟨h.len, fun i c hc =>
  let ⟨v, a, b⟩ := h.get i c hc
  ⟨v, a, b.ex e⟩⟩
theorem Own.pos_of {n : Nat} (h : Own K S n v d L) : n = 0 → L = [] := fun e => by
  subst e
  cases h
  rfl
/-- every cell is shared data over the whole heap -/
theorem CellOk.shH {X : Hl} (h : CellOk K S Fl F c v L) (e : Same S H) (hp : ∀ p ∈ L ++ (X ++ (Fl ++ F)), H p.1 = some p.2) : Sh K H v c.d := by
  cases h with
  | o q => exact q.sh' e fun p hm => hp p (List.mem_append_left _ hm)
  | l q r => exact r.sh' e fun p hm => hp p (List.mem_append_right _ (List.mem_append_right _ (List.mem_append_left _ (q.subset hm))))
  | p q r => exact r.sh' e fun p hm => hp p (List.mem_append_right _ (List.mem_append_right _ (List.mem_append_right _ (q.subset hm))))
  | m q => exact q.sh' e fun p hm => hp p (List.mem_append_left _ hm)
theorem Rel.sh (h : Rel K S Fl F H (c :: cs) (v :: vs)) : Sh K H v c.d := by
  obtain ⟨_, t, r⟩ := h
  cases t with
  | cons a b => exact a.shH (X := _) r.sh fun p hp => r.all p (by rw [List.append_assoc]; exact hp)
theorem Rel.tail (h : Rel K S Fl F H (c :: cs) (v :: vs)) : Rel K S Fl F H cs vs := by
  obtain ⟨_, t, r⟩ := h
  cases t with
  | cons a b => exact ⟨_, b, r.sub (by rw [List.append_assoc]; exact List.sublist_append_right _ _)⟩
theorem Rel.sh2 {c' : Cell} {v' : V} (h : Rel K S Fl F H (c' :: c :: cs) (v' :: v :: vs)) : Sh K H v c.d := h.tail.sh
theorem Tmp.length : ∀ {cs : List Cell} {vs : List V} {L : Hl}, Tmp K S Fl F cs vs L → cs.length = vs.length
  | _, _, _, .nil => rfl
  | _, _, _, .cons _ t => congrArg (· + 1) (Tmp.length t)
theorem Rel.length (h : Rel K S Fl F H cs vs) : cs.length = vs.length := by
  obtain ⟨L, t, _⟩ := h
  exact t.length
theorem Rel.toVs {cs : List Cell} (h : Rel K S Fl F H (c :: cs) vs) : ∃ v ws, vs = v :: ws := by
  cases vs with
  | nil => exact absurd h.length (by simp)
  | cons v ws => exact ⟨v, ws, rfl⟩
theorem Rel.base (h : Rel K S Fl F H cs vs) : HRel S (Fl ++ F) H := by
  obtain ⟨L, _, r⟩ := h
  exact r.sub (List.sublist_append_right _ _)
theorem Rel.same (h : Rel K S Fl F H cs vs) : Same S H := h.base.sh
/-- a shared cell ahead -/
theorem Rel.push (h : Rel K S Fl F H cs vs) (q : Sh K S v d) : Rel K S Fl F H (VL.sh d :: cs) (v :: vs) := by
  obtain ⟨L, t, r⟩ := h
  exact ⟨[] ++ L, .cons (.o (.sh q)) t, r⟩
theorem Rel.pushV (h : Rel K S Fl F H cs vs) (q : CellOk K S Fl F c v []) : Rel K S Fl F H (c :: cs) (v :: vs) := by
  obtain ⟨L, t, r⟩ := h
  exact ⟨[] ++ L, .cons q t, r⟩
/-- a new shared object -/
theorem Rel.laid {p : Addr} {o : HO} (h : Rel K S Fl F H cs vs) (hp : H p = none) (nt : ∀ ps, o ≠ .tbl ps := by exact fun _ z => (by first | (cases z; done) | (unfold ExK at z; cases z; done) | (unfold L2.SetO at z; cases z; done))) : Rel K (upd S p o) Fl F (upd H p o) cs vs ∧ Same S (upd S p o) := by
  obtain ⟨L, t, r⟩ := h
  have e : Same S (upd S p o) := fun b u e => by rw [upd_ne (ne_of_none e (r.none_of hp))]; exact e
  exact ⟨⟨L, t.ex e, r.laid hp nt⟩, e⟩
/-- a new private object, empty of private ones -/
theorem Rel.lay {p : Addr} {o : HO} {n : Nat} (h : Rel K S Fl F H cs vs) (hp : H p = none) (q : Own K S n (.ref p) d [(p, o)]) (nt : NT o := by exact ⟨fun _ z => (by cases z), fun _ _ z => (by unfold LamX.CodeO at z; cases z)⟩) : Rel K S Fl F (upd H p o) (own n d :: cs) (.ref p :: vs) := by
  obtain ⟨L, t, r⟩ := h
  exact ⟨[(p, o)] ++ L, .cons (.o q) t, r.lay hp nt⟩
theorem Tmp.swap {c' : Cell} {v' : V} : ∀ {cs : List Cell} {vs : List V} {L : Hl}, Tmp K S Fl F (c :: c' :: cs) (v :: v' :: vs) L → ∃ L', Tmp K S Fl F (c' :: c :: cs) (v' :: v :: vs) L' ∧ L.Perm L'
  | _, _, _, .cons (L1 := L1) a (.cons (L1 := L2) (L2 := L3) b t) => ⟨_, .cons b (.cons a t), by
      rw [← List.append_assoc, ← List.append_assoc]
      exact List.Perm.append_right _ List.perm_append_comm⟩
theorem Rel.swap {c' : Cell} {v' : V} (h : Rel K S Fl F H (c :: c' :: cs) (v :: v' :: vs)) : Rel K S Fl F H (c' :: c :: cs) (v' :: v :: vs) := by
  obtain ⟨L, t, r⟩ := h
  obtain ⟨L', t', p⟩ := t.swap
  exact ⟨L', t', r.perm (p.append_right _)⟩
theorem Tmp.append : ∀ {cs ds : List Cell} {vs ws : List V} {L M : Hl}, Tmp K S Fl F cs vs L → Tmp K S Fl F ds ws M → Tmp K S Fl F (cs ++ ds) (vs ++ ws) (L ++ M)
  | _, _, _, _, _, _, .nil, h => h
  | _, _, _, _, _, _, .cons a t, h => by rw [List.append_assoc]; exact .cons a (Tmp.append t h)
theorem Tmp.split : ∀ {cs ds : List Cell} {vs ws : List V} {L : Hl}, cs.length = vs.length → Tmp K S Fl F (cs ++ ds) (vs ++ ws) L → ∃ L1 L2, L = L1 ++ L2 ∧ Tmp K S Fl F cs vs L1 ∧ Tmp K S Fl F ds ws L2
  | [], _, [], _, L, _, h => ⟨[], L, rfl, .nil, h⟩
  | _ :: _, _, _ :: _, _, _, e, .cons (L1 := L1) a t => by
    obtain ⟨M1, M2, rfl, h1, h2⟩ := Tmp.split (by simpa using e) t
    exact ⟨L1 ++ M1, M2, (List.append_assoc _ _ _).symm, .cons a h1, h2⟩
/-- a cell from within to the front -/
theorem Rel.front {ds : List Cell} {ws : List V} (e : cs.length = vs.length) (h : Rel K S Fl F H (cs ++ c :: ds) (vs ++ v :: ws)) : Rel K S Fl F H (c :: (cs ++ ds)) (v :: (vs ++ ws)) := by
  obtain ⟨L, t, r⟩ := h
  obtain ⟨L1, L2, rfl, h1, h2⟩ := Tmp.split e t
  cases h2 with
  | @cons _ _ _ _ M1 M2 a b =>
    refine ⟨M1 ++ (L1 ++ M2), .cons a (h1.append b), r.perm ?_⟩
    refine List.Perm.append_right _ ?_
    rw [← List.append_assoc, ← List.append_assoc]
    exact List.Perm.append_right _ List.perm_append_comm
end

/-! ### what readings say of cells -/
abbrev XQ := Exn → Prop
abbrev WE := Env → (Cell → Prop) → XQ → Prop
abbrev WT := Env → (Bool → Prop) → XQ → Prop
abbrev WA := Env → (List Cell → Prop) → XQ → Prop
structure WEnds where
  nx : Env → Prop
  rt : Cell → Env → Prop
  bk : Env → Prop
  ct : Env → Prop
  ex : Exn → Env → Prop
abbrev WS := WEnds → Env → Prop

inductive FldOk (K : PySem.W.Frag) (S : Hp) : List (Str × D) → List (Str × V) → Prop
  | nil : FldOk K S [] []
  | cons {f : Str} {d : D} {v : V} {ds : List (Str × D)} {vs : List (Str × V)} : Sh K S v d → FldOk K S ds vs → FldOk K S ((f, d) :: ds) ((f, v) :: vs)
def ExnOk (K : PySem.W.Frag) (mg : Str → Option Value) (S : Hp) (x : Exn) (cls : Value) (d : Option Addr) : Prop :=
  ∃ C, mg x.cls = some (.ref C) ∧ cls = .ref C ∧ ((x.fs = [] ∧ d = none) ∨ ∃ a fs, d = some a ∧ S a = some (.xd fs) ∧ FldOk K S x.fs fs)

section
variable (K : PySem.W.Frag) (mg : Str → Option Value) (W : WX)
/-- the exception way out -/
def XW (S : Hp) (F : Hl) (σ : St) (X : XQ) : Prop := ∀ x cls d S' H', X x → Same S S' → ExnOk K mg S' x cls d → HRel S' F H' → W cls d σ H'
def ExprOk (t : TE) (w : WE) : Prop := ∀ ρ Q X, w ρ Q X → ∀ S Fl F H σ tc tv Q', EnvV K S Fl F ρ σ → Rel K S Fl F H tc tv →
  (∀ c v S' H', Q c → Same S S' → Rel K S' Fl F H' (c :: tc) (v :: tv) → Q' v H') → XW K mg W S (Fl ++ F) σ X → t σ H Q'
def TestOk (t : TT) (w : WT) : Prop := ∀ ρ Q X, w ρ Q X → ∀ S Fl F H σ tc tv Q', EnvV K S Fl F ρ σ → Rel K S Fl F H tc tv →
  (∀ b S' H', Q b → Same S S' → Rel K S' Fl F H' tc tv → Q' b H') → XW K mg W S (Fl ++ F) σ X → t σ H Q'
def ArgsOk (t : TA) (w : WA) : Prop := ∀ ρ Q X, w ρ Q X → ∀ S Fl F H σ tc tv Q', EnvV K S Fl F ρ σ → Rel K S Fl F H tc tv →
  (∀ cs vs S' H', Q cs → cs.length = vs.length → Same S S' → Rel K S' Fl F H' (cs ++ tc) (vs ++ tv) → Q' vs H') → XW K mg W S (Fl ++ F) σ X → t σ H Q'
structure EndsOk (S : Hp) (F : Hl) (A : Nat → V) (n : Nat) (D : WEnds) (De : Ends) : Prop where
  nx : ∀ ρ σ S' H', D.nx ρ → σ.length = n → ρ.length = n → Same S S' → SRel K S' F A H' ρ σ → De.nx σ H'
  rt : ∀ c v ρ σ Lc Le S' H', D.rt c ρ → Same S S' → CellOk K S' [] F c v Lc → Slots K S' F A ρ σ Le → HRel S' (Lc ++ (Le ++ F)) H' → De.rt v H'
  bk : ∀ ρ σ S' H', D.bk ρ → σ.length = n → ρ.length = n → Same S S' → SRel K S' F A H' ρ σ → De.bk σ H'
  ct : ∀ ρ σ S' H', D.ct ρ → σ.length = n → ρ.length = n → Same S S' → SRel K S' F A H' ρ σ → De.ct σ H'
  ex : ∀ x cls d ρ σ S' H', D.ex x ρ → σ.length = n → ρ.length = n → Same S S' → ExnOk K mg S' x cls d → SRel K S' F A H' ρ σ → W cls d σ H'
def StmtOk (t : TS) (w : WS) : Prop := ∀ D ρ, w D ρ → ∀ S F A H σ De, σ.length = ρ.length → SRel K S F A H ρ σ → EndsOk K mg W S F A ρ.length D De → t De σ H
end
section
variable {K : PySem.W.Frag} {mg : Str → Option Value} {W : WX} {S S' S'' : Hp} {F : Hl} {A : Nat → V} {σ : St} {X : XQ} {n : Nat} {D : WEnds} {De : Ends}
theorem XW.ex (h : XW K mg W S F σ X) (e : Same S S') : XW K mg W S' F σ X := fun x cls d S2 H2 hx e2 => h x cls d S2 H2 hx (e.trans e2)
theorem EndsOk.up (h : EndsOk K mg W S F A n D De) (e : Same S S') : EndsOk K mg W S' F A n D De :=
  ⟨fun ρ σ S2 H2 a l1 l2 e2 => h.nx ρ σ S2 H2 a l1 l2 (e.trans e2), fun c v ρ σ Lc Le S2 H2 a e2 => h.rt c v ρ σ Lc Le S2 H2 a (e.trans e2), fun ρ σ S2 H2 a l1 l2 e2 => h.bk ρ σ S2 H2 a l1 l2 (e.trans e2),
    fun ρ σ S2 H2 a l1 l2 e2 => h.ct ρ σ S2 H2 a l1 l2 (e.trans e2), fun x cls d ρ σ S2 H2 a l1 l2 e2 => h.ex x cls d ρ σ S2 H2 a l1 l2 (e.trans e2)⟩
theorem EndsOk.nxt {nx : Env → Prop} {nx' : St → Hp → Prop} (h : EndsOk K mg W S F A n D De) (q : ∀ ρ σ S' H', nx ρ → σ.length = n → ρ.length = n → Same S S' → SRel K S' F A H' ρ σ → nx' σ H') :
    EndsOk K mg W S F A n { D with nx := nx } { De with nx := nx' } := ⟨q, h.rt, h.bk, h.ct, h.ex⟩
/-! ### slots -/
theorem Slots.length {ρ : Env} {F : Hl} : ∀ {σ : St} {L : Hl}, Slots K S F A ρ σ L → σ.length = ρ.length := by
  intro σ L h
  induction h with
  | nil => rfl
  | no _ ih => exact congrArg (· + 1) ih
  | yes _ _ _ ih => exact congrArg (· + 1) ih
theorem Slots.viewG {ρ : Env} {F : Hl} : ∀ {σ : St} {L : Hl}, Slots K S F A ρ σ L → ∀ {Fl : Hl}, L.Sublist Fl → ∀ (i : Nat) (c : Cell), ρ[i]? = some (some c) → ∃ v, σ[i]? = some (some v) ∧ CellOk K S Fl F c.view v [] := by
  intro σ L h
  induction h with
  | nil => intro Fl _ i c e; simp at e
  | no t ih =>
    intro Fl hs i c e
    cases i with
    | zero => simp at e
    | succ i =>
      obtain ⟨v, a, b⟩ := ih hs i c (by simpa using e)
      exact ⟨v, by simpa using a, b⟩
  | @yes c0 cs v0 vs L1 L2 a ga t ih =>
    intro Fl hs i c e
    cases i with
    | zero =>
      simp at e
      subst e
      refine ⟨v0, rfl, ?_⟩
      cases a with
      | @o n d v L q =>
        cases n with
        | zero => cases q with | sh q => exact .o (.sh q)
        | succ n => exact .l ((List.sublist_append_left _ _).trans hs) q
      | l q r => exact .l (q.trans (List.nil_sublist _)) r
      | p q r => exact .p q r
      | @m j n d v L q =>
        cases n with
        | zero => cases q with | sh q => exact .o (.sh q)
        | succ n => exact .l ((List.sublist_append_left _ _).trans hs) q
    | succ i =>
      obtain ⟨v, a, b⟩ := ih ((List.sublist_append_right _ _).trans hs) i c (by simpa using e)
      exact ⟨v, by simpa using a, b⟩
theorem Slots.view {ρ : Env} {F : Hl} {σ : St} {L : Hl} (h : Slots K S F A ρ σ L) {Fl : Hl} (q : L.Sublist Fl) : EnvV K S Fl F ρ σ := ⟨h.length, h.viewG q⟩
/-- the i-th slot filled anew -/
theorem Slots.set {ρ : Env} {F : Hl} {c : Cell} {v : V} {M : Hl} (a : CellOk K S [] F c v M) (ga : ∀ j, c.b = .m j → v = A j) : ∀ {σ : St} {L : Hl} {i : Nat}, i < ρ.length → Slots K S F A ρ σ L → ∃ L', Slots K S F A (ρ.set i (some c)) (σ.set i (some v)) L' ∧ ∃ R, L'.Perm (M ++ R) ∧ R.Sublist L := by
  intro σ L i hi h
  induction h generalizing i with
  | nil => simp at hi
  | no t ih =>
    cases i with
    | zero => exact ⟨_, .yes a ga t, _, List.Perm.refl _, List.Sublist.refl _⟩
    | succ i =>
      obtain ⟨L', h1, R, h2, h3⟩ := ih (i := i) (by simpa using hi)
      exact ⟨L', .no h1, R, h2, h3⟩
  | @yes c0 cs v0 vs L1 L2 b gb t ih =>
    cases i with
    | zero => exact ⟨_, .yes a ga t, _, List.Perm.refl _, List.sublist_append_right _ _⟩
    | succ i =>
      obtain ⟨L', h1, R, h2, h3⟩ := ih (i := i) (by simpa using hi)
      refine ⟨_, .yes b gb h1, L1 ++ R, ?_, (List.Sublist.refl L1).append h3⟩
      refine (h2.append_left L1).trans ?_
      rw [← List.append_assoc, ← List.append_assoc]
      exact List.Perm.append_right _ List.perm_append_comm
theorem Slots.drop {ρ : Env} {F : Hl} : ∀ {σ : St} {L : Hl} {i : Nat}, Slots K S F A ρ σ L → ∃ L', Slots K S F A (ρ.set i none) σ L' ∧ L'.Sublist L := by
  intro σ L i h
  induction h generalizing i with
  | nil => exact ⟨_, .nil, List.Sublist.refl _⟩
  | no t ih =>
    cases i with
    | zero => exact ⟨_, .no t, List.Sublist.refl _⟩
    | succ i =>
      obtain ⟨L', h1, h2⟩ := ih (i := i)
      exact ⟨L', .no h1, h2⟩
  | @yes c0 cs v0 vs L1 L2 b gb t ih =>
    cases i with
    | zero => exact ⟨_, .no t, List.sublist_append_right _ _⟩
    | succ i =>
      obtain ⟨L', h1, h2⟩ := ih (i := i)
      exact ⟨_, .yes b gb h1, (List.Sublist.refl L1).append h2⟩
end
end VL
set_option maxRecDepth 100000
/-! VC: expressions over cells. -/
namespace VL
open PySem L2
variable [TB : Tbs]

/-! ### judgements -/
structure CE (X : Cx) (W : WX) (e : Expr) (t : TE) (w : WE) : Prop where
  p : PE X e t
  s : ExprOk X.K X.mg W t w
structure CT (X : Cx) (W : WX) (e : Expr) (t : TT) (w : WT) : Prop where
  p : PT X e t
  s : TestOk X.K X.mg W t w
structure CA (X : Cx) (W : WX) (es : List Expr) (t : TA) (w : WA) : Prop where
  p : PA X es t
  s : ArgsOk X.K X.mg W t w

/-! ### names, constants -/
def wVar (i : Nat) : WE := fun ρ Q _ => ∃ c, ρ[i]? = some (some c) ∧ Q c.view
def wC (d : D) : WE := fun _ Q _ => Q (sh d)
section
variable {X : Cx} {W : WX}
theorem ce_var (i : Nat) {x : Str} {pos : Pos} (h : PE X (.Name x pos) (tVar i)) : CE X W (.Name x pos) (tVar i) (wVar i) := by
  refine ⟨h, ?_⟩
  rintro ρ Q XQ ⟨c, hc, q⟩ S Fl F H σ tc tv Q' ev r k _
  obtain ⟨v, hv, ok⟩ := ev.get i c hc
  exact ⟨v, hv, k _ v S H q (Same.refl S) (r.pushV ok)⟩
theorem ce_c {e : Expr} {v : V} {d : D} (h : PE X e (tC v)) (q : ∀ S, Sh X.K S v d) : CE X W e (tC v) (wC d) := by
  refine ⟨h, ?_⟩
  intro ρ Q XQ w S Fl F H σ tc tv Q' ev r k _
  exact k _ v S H w (Same.refl S) (r.push (q S))
theorem ce_int {i : Int} {j pos} : CE X W (.Constant (.int i) j pos) (tC (.int i)) (wC (.int i)) := ce_c pe_int fun _ => .int i
theorem ce_bl {b : Bool} {j pos} : CE X W (.Constant (.bool b) j pos) (tC (.bl b)) (wC (.bl b)) := ce_c pe_bl fun _ => .bl b
theorem ce_non {j pos} : CE X W (.Constant .none j pos) (tC .non) (wC .non) := ce_c pe_non fun _ => .non
theorem ce_str {x : Str} {j pos} : CE X W (.Constant (.str x) j pos) (tC (.str x)) (wC (.str x)) := ce_c pe_str fun _ => .str x
end

/-! ### argument lists -/
def wNil : WA := fun _ Q _ => Q []
def wCons (we : WE) (wr : WA) : WA := fun ρ Q X => we ρ (fun c => wr ρ (fun cs => Q (c :: cs)) X) X
section
variable {X : Cx} {W : WX} {e : Expr} {es : List Expr} {te : TE} {tr : TA} {we : WE} {wr : WA}
theorem ca_nil : CA X W [] tNil wNil := by
  refine ⟨pa_nil, ?_⟩
  intro ρ Q XQ w S Fl F H σ tc tv Q' ev r k _
  exact k [] [] S H w rfl (Same.refl S) r
theorem ca_cons (ha : CE X W e te we) (hr : CA X W es tr wr) (hs : starEach (e :: es) X.env = (false, eval e X.env) :: starEach es X.env := by rfl) : CA X W (e :: es) (tCons te tr) (wCons we wr) := by
  obtain ⟨a1, a2⟩ := ha
  obtain ⟨b1, b2⟩ := hr
  refine ⟨pa_cons a1 b1 hs, ?_⟩
  intro ρ Q XQ w S Fl F H σ tc tv Q' ev r k kx
  refine a2 ρ _ XQ w S Fl F H σ tc tv _ ev r (fun c v S1 H1 q e1 r1 => ?_) kx
  refine b2 ρ _ XQ q S1 Fl F H1 σ _ _ _ (ev.ex e1) r1 (fun cs vs S2 H2 q2 hl e2 r2 => ?_) (kx.ex e1)
  exact k (c :: cs) (v :: vs) S2 H2 q2 (congrArg (· + 1) hl) (e1.trans e2) (r2.front hl)
end

/-! ### operations by values -/
abbrev WO := Cell → Cell → (Cell → Prop) → Prop
/-- a two-place operation by cells; the second operand lies on top -/
def OpOk (K : PySem.W.Frag) (r : R2) (wo : WO) : Prop := ∀ c1 c2 Q, wo c1 c2 Q → ∀ S Fl F H v1 v2 tc tv Q', Rel K S Fl F H (c2 :: c1 :: tc) (v2 :: v1 :: tv) →
  (∀ c v S' H', Q c → Same S S' → Rel K S' Fl F H' (c :: tc) (v :: tv) → Q' v H') → r v1 v2 H Q'
abbrev WU := Cell → (Cell → Prop) → Prop
def UnOk (K : PySem.W.Frag) (r : V → Hp → VK → Prop) (wo : WU) : Prop := ∀ c1 Q, wo c1 Q → ∀ S Fl F H v1 tc tv Q', Rel K S Fl F H (c1 :: tc) (v1 :: tv) →
  (∀ c v S' H', Q c → Same S S' → Rel K S' Fl F H' (c :: tc) (v :: tv) → Q' v H') → r v1 H Q'
abbrev WF := List Cell → (Cell → Prop) → Prop
def CallOk (K : PySem.W.Frag) (r : List V → Hp → VK → Prop) (wc : WF) : Prop := ∀ cs Q, wc cs Q → ∀ S Fl F H vs tc tv Q', cs.length = vs.length → Rel K S Fl F H (cs ++ tc) (vs ++ tv) →
  (∀ c v S' H', Q c → Same S S' → Rel K S' Fl F H' (c :: tc) (v :: tv) → Q' v H') → r vs H Q'
def wOp (wo : WO) (wa wb : WE) : WE := fun ρ Q X => wa ρ (fun x => wb ρ (fun y => wo x y Q) X) X
def wUn (wo : WU) (wa : WE) : WE := fun ρ Q X => wa ρ (fun x => wo x Q) X
def wCB (wc : WF) (ws : WA) : WE := fun ρ Q X => ws ρ (fun cs => wc cs Q) X
section
variable {K : PySem.W.Frag} {mg : Str → Option Value} {W : WX} {ta tb : TE} {tA : TA} {wa wb : WE} {ws : WA}
theorem op_sound {r : R2} {wo : WO} (h : OpOk K r wo) (ha : ExprOk K mg W ta wa) (hb : ExprOk K mg W tb wb) : ExprOk K mg W (tOp r ta tb) (wOp wo wa wb) := by
  intro ρ Q XQ w S Fl F H σ tc tv Q' ev r0 k kx
  refine ha ρ _ XQ w S Fl F H σ tc tv _ ev r0 (fun c1 v1 S1 H1 q e1 r1 => ?_) kx
  refine hb ρ _ XQ q S1 Fl F H1 σ _ _ _ (ev.ex e1) r1 (fun c2 v2 S2 H2 q2 e2 r2 => ?_) (kx.ex e1)
  exact h c1 c2 Q q2 S2 Fl F H2 v1 v2 tc tv Q' r2 fun c v S3 H3 qc e3 r3 => k c v S3 H3 qc ((e1.trans e2).trans e3) r3
theorem un_sound {r : V → Hp → VK → Prop} {wo : WU} (h : UnOk K r wo) (ha : ExprOk K mg W ta wa) : ExprOk K mg W (tUn r ta) (wUn wo wa) := by
  intro ρ Q XQ w S Fl F H σ tc tv Q' ev r0 k kx
  refine ha ρ _ XQ w S Fl F H σ tc tv _ ev r0 (fun c1 v1 S1 H1 q e1 r1 => ?_) kx
  exact h c1 Q q S1 Fl F H1 v1 tc tv Q' r1 fun c v S3 H3 qc e3 r3 => k c v S3 H3 qc (e1.trans e3) r3
theorem cb_sound {r : List V → Hp → VK → Prop} {wc : WF} (h : CallOk K r wc) (ha : ArgsOk K mg W tA ws) : ExprOk K mg W (tCB r tA) (wCB wc ws) := by
  intro ρ Q XQ w S Fl F H σ tc tv Q' ev r0 k kx
  refine ha ρ _ XQ w S Fl F H σ tc tv _ ev r0 (fun cs vs S1 H1 q hl e1 r1 => ?_) kx
  exact h cs Q q S1 Fl F H1 vs tc tv Q' hl r1 fun c v S3 H3 qc e3 r3 => k c v S3 H3 qc (e1.trans e3) r3
end
section
variable {X : Cx} {W : WX} {a b : Expr} {ta tb : TE} {wa wb : WE} {pos : Pos}
theorem ce_op {op : Operator} {r : R2} {wo : WO} (ho : OpR X (binaryOp op) r) (h : OpOk X.K r wo) (ha : CE X W a ta wa) (hb : CE X W b tb wb) : CE X W (.BinOp a op b pos) (tOp r ta tb) (wOp wo wa wb) := by
  obtain ⟨a1, a2⟩ := ha
  obtain ⟨b1, b2⟩ := hb
  exact ⟨pe_op ho a1 b1, op_sound h a2 b2⟩
theorem ce_un {op : UnaryOp} {r : V → Hp → VK → Prop} {wo : WU} (ho : UnR X (unaryOp op) r) (h : UnOk X.K r wo) (ha : CE X W a ta wa) : CE X W (.UnaryOp op a pos) (tUn r ta) (wUn wo wa) := by
  obtain ⟨a1, a2⟩ := ha
  exact ⟨pe_un ho a1, un_sound h a2⟩
theorem ce_cmp {op : CmpOp} {r : R2} {wo : WO} (ho : OpR X (compareOp op) r) (h : OpOk X.K r wo) (ha : CE X W a ta wa) (hb : CE X W b tb wb) (hm : behindInMarks op b = false) : CE X W (.Compare a [op] [b] pos) (tOp r ta tb) (wOp wo wa wb) := by
  obtain ⟨a1, a2⟩ := ha
  obtain ⟨b1, b2⟩ := hb
  exact ⟨pe_cmpR ho a1 b1 hm, op_sound h a2 b2⟩
theorem ce_ix {r : R2} {wo : WO} (ho : IxR X r) (h : OpOk X.K r wo) (ha : CE X W a ta wa) (hb : CE X W b tb wb) (hs : PlainIx b) : CE X W (.Subscript a b pos) (tOp r ta tb) (wOp wo wa wb) := by
  obtain ⟨a1, a2⟩ := ha
  obtain ⟨b1, b2⟩ := hb
  exact ⟨pe_ix ho a1 b1 hs, op_sound h a2 b2⟩
end

/-! ### tests -/
def wTst (we : WE) : WT := fun ρ Q X => we ρ (fun c => ∃ b, c.d = .bl b ∧ Q b) X
def wAnd (w u : WT) : WT := fun ρ Q X => w ρ (fun b => if b = true then u ρ Q X else Q false) X
def wOr (w u : WT) : WT := fun ρ Q X => w ρ (fun b => if b = true then Q true else u ρ Q X) X
def wNot (w : WT) : WT := fun ρ Q X => w ρ (fun b => Q (!b)) X
/-- a test as a value -/
def wVal (w : WT) : WE := fun ρ Q X => w ρ (fun b => Q (sh (.bl b))) X
def wIf (w : WT) (wa wb : WE) : WE := fun ρ Q X => w ρ (fun b => if b = true then wa ρ Q X else wb ρ Q X) X
theorem Sh.blE {K : PySem.W.Frag} {S : Hp} {v : V} {b : Bool} (h : Sh K S v (.bl b)) : v = .bl b := by cases h; rfl
theorem Sh.intE {K : PySem.W.Frag} {S : Hp} {v : V} {b : Int} (h : Sh K S v (.int b)) : v = .int b := by cases h; rfl
theorem Sh.strE {K : PySem.W.Frag} {S : Hp} {v : V} {b : Str} (h : Sh K S v (.str b)) : v = .str b := by cases h; rfl
theorem Sh.nonE {K : PySem.W.Frag} {S : Hp} {v : V} (h : Sh K S v .non) : v = .non := by cases h; rfl
section
variable {X : Cx} {W : WX} {a b c : Expr} {rest : List Expr} {ta tb : TE} {sa sb sc : TT} {wa wb : WE} {ua ub uc : WT} {pos : Pos}
theorem ct_val {e : Expr} {te : TE} {we : WE} (h : CE X W e te we) (he : ∀ whole, isTrue e X.env whole = (do let v ← whole; standAt e.pos; holding [v] (truthy v)) := by intro _; rfl) : CT X W e (tB te) (wTst we) := by
  obtain ⟨a1, a2⟩ := h
  refine ⟨pt_val a1 he, ?_⟩
  intro ρ Q XQ w S Fl F H σ tc tv Q' ev r0 k kx
  refine a2 ρ _ XQ w S Fl F H σ tc tv _ ev r0 (fun c1 v1 S1 H1 q e1 r1 => ?_) kx
  obtain ⟨bb, hb, q⟩ := q
  have hv := r1.sh
  rw [hb] at hv
  exact ⟨bb, hv.blE, k bb S1 H1 q e1 r1.tail⟩
theorem ct_cmp {op : CmpOp} {r : R2} {wo : WO} (ho : OpR X (compareOp op) r) (h : OpOk X.K r wo) (ha : CE X W a ta wa) (hb : CE X W b tb wb) (hm : behindInMarks op b = false) : CT X W (.Compare a [op] [b] pos) (tTest (tOp r ta tb)) (wTst (wOp wo wa wb)) := by
  obtain ⟨a1, a2⟩ := ha
  obtain ⟨b1, b2⟩ := hb
  refine ⟨pt_cmpR ho a1 b1 hm, ?_⟩
  intro ρ Q XQ w S Fl F H σ tc tv Q' ev r0 k kx
  refine op_sound h a2 b2 ρ _ XQ w S Fl F H σ tc tv _ ev r0 (fun c1 v1 S1 H1 q e1 r1 => ?_) kx
  obtain ⟨bb, hb, q⟩ := q
  have hv := r1.sh
  rw [hb] at hv
  exact ⟨bb, hv.blE, k bb S1 H1 q e1 r1.tail⟩
theorem ct_not (ha : CT X W a sa ua) : CT X W (.UnaryOp .Not a pos) (tNot sa) (wNot ua) := by
  obtain ⟨a1, a2⟩ := ha
  refine ⟨pt_not a1, ?_⟩
  intro ρ Q XQ w S Fl F H σ tc tv Q' ev r0 k kx
  exact a2 ρ _ XQ w S Fl F H σ tc tv _ ev r0 (fun c1 S1 H1 q e1 r1 => k _ S1 H1 q e1 r1) kx
/-- a chain of and, or as a test -/
structure CW (X : Cx) (W : WX) (e : Expr) (t : TT) (w : WT) : Prop where
  p : PW X e t
  s : TestOk X.K X.mg W t w
theorem cw_and (ha : CT X W a sa ua) (hb : CW X W (.BoolOp .And (b :: rest) pos) sb ub) : CW X W (.BoolOp .And (a :: b :: rest) pos) (tAnd sa sb) (wAnd ua ub) := by
  obtain ⟨a1, a2⟩ := ha
  obtain ⟨b1, b2⟩ := hb
  refine ⟨pw_and a1 b1, ?_⟩
  intro ρ Q XQ w S Fl F H σ tc tv Q' ev r0 k kx
  refine a2 ρ _ XQ w S Fl F H σ tc tv _ ev r0 (fun c1 S1 H1 q e1 r1 => ?_) kx
  cases c1 with
  | true => exact iteT (b2 ρ Q XQ (by simpa using q) S1 Fl F H1 σ tc tv Q' (ev.ex e1) r1 (fun c S2 H2 q2 e2 r2 => k c S2 H2 q2 (e1.trans e2) r2) (kx.ex e1))
  | false => exact iteF (k false S1 H1 (by simpa using q) e1 r1)
theorem cw_or (ha : CT X W a sa ua) (hb : CW X W (.BoolOp .Or (b :: rest) pos) sb ub) : CW X W (.BoolOp .Or (a :: b :: rest) pos) (tOr sa sb) (wOr ua ub) := by
  obtain ⟨a1, a2⟩ := ha
  obtain ⟨b1, b2⟩ := hb
  refine ⟨pw_or a1 b1, ?_⟩
  intro ρ Q XQ w S Fl F H σ tc tv Q' ev r0 k kx
  refine a2 ρ _ XQ w S Fl F H σ tc tv _ ev r0 (fun c1 S1 H1 q e1 r1 => ?_) kx
  cases c1 with
  | true => exact iteT (k true S1 H1 (by simpa using q) e1 r1)
  | false => exact iteF (b2 ρ Q XQ (by simpa using q) S1 Fl F H1 σ tc tv Q' (ev.ex e1) r1 (fun c S2 H2 q2 e2 r2 => k c S2 H2 q2 (e1.trans e2) r2) (kx.ex e1))
theorem cw_and1 (ha : CT X W a sa ua) : CW X W (.BoolOp .And [a] pos) sa ua := by
  obtain ⟨a1, a2⟩ := ha
  exact ⟨pw_and1 a1, a2⟩
theorem cw_or1 (ha : CT X W a sa ua) : CW X W (.BoolOp .Or [a] pos) sa ua := by
  obtain ⟨a1, a2⟩ := ha
  exact ⟨pw_or1 a1, a2⟩
theorem CW.ct {e : Expr} {t : TT} {w : WT} (h : CW X W e t w) : CT X W e t w := by
  obtain ⟨a1, a2⟩ := h
  exact ⟨a1.pt, a2⟩
/-! and, or, not as values of truth -/
theorem ce_one {op} (h : CE X W a ta wa) : CE X W (.BoolOp op [a] pos) ta wa := by
  obtain ⟨a1, a2⟩ := h
  exact ⟨pe_one a1, a2⟩
def wAndV (wa wb : WE) : WE := fun ρ Q X => wa ρ (fun c => ∃ b, c.d = .bl b ∧ if b = true then wb ρ Q X else Q (sh (.bl false))) X
def wOrV (wa wb : WE) : WE := fun ρ Q X => wa ρ (fun c => ∃ b, c.d = .bl b ∧ if b = true then Q (sh (.bl true)) else wb ρ Q X) X
def wNotV (wa : WE) : WE := fun ρ Q X => wa ρ (fun c => ∃ b, c.d = .bl b ∧ Q (sh (.bl (!b)))) X
theorem ce_and (ha : CE X W a ta wa) (hb : CE X W (.BoolOp .And (b :: rest) pos) tb wb) : CE X W (.BoolOp .And (a :: b :: rest) pos) (tAndV ta tb) (wAndV wa wb) := by
  obtain ⟨a1, a2⟩ := ha
  obtain ⟨b1, b2⟩ := hb
  refine ⟨pe_and a1 b1, ?_⟩
  intro ρ Q XQ w S Fl F H σ tc tv Q' ev r0 k kx
  refine a2 ρ _ XQ w S Fl F H σ tc tv _ ev r0 (fun c1 v1 S1 H1 q e1 r1 => ?_) kx
  obtain ⟨bb, hb, q⟩ := q
  have hv := r1.sh
  rw [hb] at hv
  refine ⟨bb, hv.blE, ?_⟩
  cases bb with
  | true => exact iteT (b2 ρ Q XQ (by simpa using q) S1 Fl F H1 σ tc tv Q' (ev.ex e1) r1.tail (fun c v S2 H2 q2 e2 r2 => k c v S2 H2 q2 (e1.trans e2) r2) (kx.ex e1))
  | false => exact iteF (k _ _ S1 H1 (by simpa using q) e1 (r1.tail.push (.bl false)))
theorem ce_or (ha : CE X W a ta wa) (hb : CE X W (.BoolOp .Or (b :: rest) pos) tb wb) : CE X W (.BoolOp .Or (a :: b :: rest) pos) (tOrV ta tb) (wOrV wa wb) := by
  obtain ⟨a1, a2⟩ := ha
  obtain ⟨b1, b2⟩ := hb
  refine ⟨pe_or a1 b1, ?_⟩
  intro ρ Q XQ w S Fl F H σ tc tv Q' ev r0 k kx
  refine a2 ρ _ XQ w S Fl F H σ tc tv _ ev r0 (fun c1 v1 S1 H1 q e1 r1 => ?_) kx
  obtain ⟨bb, hb, q⟩ := q
  have hv := r1.sh
  rw [hb] at hv
  refine ⟨bb, hv.blE, ?_⟩
  cases bb with
  | true => exact iteT (k _ _ S1 H1 (by simpa using q) e1 (r1.tail.push (.bl true)))
  | false => exact iteF (b2 ρ Q XQ (by simpa using q) S1 Fl F H1 σ tc tv Q' (ev.ex e1) r1.tail (fun c v S2 H2 q2 e2 r2 => k c v S2 H2 q2 (e1.trans e2) r2) (kx.ex e1))
theorem ce_not (ha : CE X W a ta wa) : CE X W (.UnaryOp .Not a pos) (tNotV ta) (wNotV wa) := by
  obtain ⟨a1, a2⟩ := ha
  refine ⟨pe_not a1, ?_⟩
  intro ρ Q XQ w S Fl F H σ tc tv Q' ev r0 k kx
  refine a2 ρ _ XQ w S Fl F H σ tc tv _ ev r0 (fun c1 v1 S1 H1 q e1 r1 => ?_) kx
  obtain ⟨bb, hb, q⟩ := q
  have hv := r1.sh
  rw [hb] at hv
  exact ⟨bb, hv.blE, k _ _ S1 H1 q e1 (r1.tail.push (.bl _))⟩
theorem ce_if (hc : CT X W c sc uc) (ha : CE X W a ta wa) (hb : CE X W b tb wb) : CE X W (.IfExp c a b pos) (tIf sc ta tb) (wIf uc wa wb) := by
  obtain ⟨c1, c2⟩ := hc
  obtain ⟨a1, a2⟩ := ha
  obtain ⟨b1, b2⟩ := hb
  refine ⟨pe_ifExp c1 a1 b1, ?_⟩
  intro ρ Q XQ w S Fl F H σ tc tv Q' ev r0 k kx
  refine c2 ρ _ XQ w S Fl F H σ tc tv _ ev r0 (fun bb S1 H1 q e1 r1 => ?_) kx
  cases bb with
  | true => exact iteT (a2 ρ Q XQ (by simpa using q) S1 Fl F H1 σ tc tv Q' (ev.ex e1) r1 (fun c v S2 H2 q2 e2 r2 => k c v S2 H2 q2 (e1.trans e2) r2) (kx.ex e1))
  | false => exact iteF (b2 ρ Q XQ (by simpa using q) S1 Fl F H1 σ tc tv Q' (ev.ex e1) r1 (fun c v S2 H2 q2 e2 r2 => k c v S2 H2 q2 (e1.trans e2) r2) (kx.ex e1))
end

/-! ### whole numbers -/
def oI (C : Int → Int → Prop) (f : Int → Int → Int) : WO := fun x y Q => ∃ i j, x.d = .int i ∧ y.d = .int j ∧ C i j ∧ Q (sh (.int (f i j)))
def oI0 (f : Int → Int → Int) : WO := fun x y Q => ∃ i j, x.d = .int i ∧ y.d = .int j ∧ Q (sh (.int (f i j)))
def oB0 (f : Int → Int → Bool) : WO := fun x y Q => ∃ i j, x.d = .int i ∧ y.d = .int j ∧ Q (sh (.bl (f i j)))
def uI (f : Int → Int) : WU := fun x Q => ∃ i, x.d = .int i ∧ Q (sh (.int (f i)))
section
variable {K : PySem.W.Frag}
theorem ok_I {C : Int → Int → Prop} {f : Int → Int → Int} : OpOk K (rI C fun i j => .int (f i j)) (oI C f) := by
  rintro c1 c2 Q ⟨i, j, h1, h2, hc, q⟩ S Fl F H v1 v2 tc tv Q' r k
  have a := r.sh2; have b := r.sh
  rw [h1] at a; rw [h2] at b
  exact ⟨i, j, a.intE, b.intE, hc, k _ _ S H q (Same.refl S) (r.tail.tail.push (.int _))⟩
theorem ok_I0 {f : Int → Int → Int} : OpOk K (rI0 fun i j => .int (f i j)) (oI0 f) := by
  rintro c1 c2 Q ⟨i, j, h1, h2, q⟩ S Fl F H v1 v2 tc tv Q' r k
  have a := r.sh2; have b := r.sh
  rw [h1] at a; rw [h2] at b
  exact ⟨i, j, a.intE, b.intE, k _ _ S H q (Same.refl S) (r.tail.tail.push (.int _))⟩
theorem ok_B0 {f : Int → Int → Bool} : OpOk K (rI0 fun i j => .bl (f i j)) (oB0 f) := by
  rintro c1 c2 Q ⟨i, j, h1, h2, q⟩ S Fl F H v1 v2 tc tv Q' r k
  have a := r.sh2; have b := r.sh
  rw [h1] at a; rw [h2] at b
  exact ⟨i, j, a.intE, b.intE, k _ _ S H q (Same.refl S) (r.tail.tail.push (.bl _))⟩
theorem ok_uI {f : Int → Int} : UnOk K (rU fun i => .int (f i)) (uI f) := by
  rintro c1 Q ⟨i, h1, q⟩ S Fl F H v1 tc tv Q' r k
  have a := r.sh
  rw [h1] at a
  exact ⟨i, a.intE, k _ _ S H q (Same.refl S) (r.tail.push (.int _))⟩
end
abbrev oAdd : WO := oI0 fun i j => i + j
abbrev oSub : WO := oI0 fun i j => i - j
abbrev oMul : WO := oI CMulW fun i j => i * j
abbrev oDiv : WO := oI CDivW fun i j => i / j
abbrev oMod : WO := oI (fun _ j => 0 < j) fun i j => i % j
abbrev oPow : WO := oI CPow fun i j => i ^ j.toNat
abbrev oShl : WO := oI CPow fun i j => i * 2 ^ j.toNat
abbrev oShr : WO := oI (fun _ j => 0 ≤ j) fun i j => i / 2 ^ j.toNat
abbrev oAndB : WO := oI0 fun i j => Builtin.bitAnd i j
abbrev oOrB : WO := oI0 fun i j => Builtin.bitOr i j
abbrev oXorB : WO := oI0 fun i j => Builtin.bitXor i j
abbrev oLt : WO := oB0 fun i j => decide (i < j)
abbrev oLe : WO := oB0 fun i j => decide (i ≤ j)
abbrev oGt : WO := oB0 fun i j => decide (j < i)
abbrev oGe : WO := oB0 fun i j => decide (j ≤ i)
end VL
set_option maxRecDepth 100000
/-! VD: data as the library's PyData; equality, membership; storing cells; displays; items; calls of built-ins. -/
namespace VL
open PySem L2
variable [TB : Tbs]

mutual
def D.py : D → PyData
  | .non => .none | .bl b => .bool b | .int i => .int i | .str s => .str s
  | .lst xs => .list (pyA xs) | .tup xs => .tuple (pyA xs)
  | .dK _ => .dict [] | .dT _ => .dict []
  | .exn _ _ => .dict []
  | .dF _ => .dict []
  | .obj _ _ => .dict []
  | .pob _ _ => .dict []
  | .clo _ _ => .dict []
def pyA : List D → List PyData
  | [] => []
  | x :: xs => x.py :: pyA xs
end
/-- plain data, at most n deep -/
def D.pl : Nat → D → Bool
  | _, .non => true | _, .bl _ => true | _, .int _ => true | _, .str _ => true
  | n + 1, .lst xs => xs.all (D.pl n) | n + 1, .tup xs => xs.all (D.pl n)
  | _, _ => false
theorem pyA_map : ∀ xs : List D, pyA xs = xs.map D.py
  | [] => rfl
  | x :: xs => by rw [pyA, List.map_cons, pyA_map xs]
theorem plA_plain {n : Nat} (h : ∀ d, D.pl n d = true → d.py.plain = true ∧ d.py.depth ≤ n) : ∀ xs : List D, xs.all (D.pl n) = true → PyData.plainAll (pyA xs) = true ∧ PyData.depthAll (pyA xs) ≤ n
  | [], _ => ⟨rfl, Nat.zero_le _⟩
  | x :: xs, q => by
    rw [List.all_cons, Bool.and_eq_true] at q
    obtain ⟨h1, h2⟩ := h x q.1
    obtain ⟨h3, h4⟩ := plA_plain h xs q.2
    refine ⟨?_, ?_⟩
    · rw [pyA, PyData.plainAll, h1, h3]; rfl
    · rw [pyA, PyData.depthAll]; exact Nat.max_le.mpr ⟨h2, h4⟩
theorem pl_plain : ∀ (n : Nat) (d : D), D.pl n d = true → d.py.plain = true ∧ d.py.depth ≤ n
  | n, .non, _ => ⟨rfl, by simp only [D.py, PyData.depth]; exact Nat.zero_le _⟩
  | n, .bl _, _ => ⟨rfl, by simp only [D.py, PyData.depth]; exact Nat.zero_le _⟩
  | n, .int _, _ => ⟨rfl, by simp only [D.py, PyData.depth]; exact Nat.zero_le _⟩
  | n, .str _, _ => ⟨rfl, by simp only [D.py, PyData.depth]; exact Nat.zero_le _⟩
  | 0, .lst _, h => by simp [D.pl] at h
  | 0, .tup _, h => by simp [D.pl] at h
  | n, .dK _, h => by cases n <;> simp [D.pl] at h
  | n, .dT _, h => by cases n <;> simp [D.pl] at h
  | n, .exn _ _, h => by cases n <;> simp [D.pl] at h
  | n, .dF _, h => by cases n <;> simp [D.pl] at h
  | n, .obj _ _, h => by cases n <;> simp [D.pl] at h
  | n, .pob _ _, h => by cases n <;> simp [D.pl] at h
  | n, .clo _ _, h => by cases n <;> simp [D.pl] at h
  | n + 1, .lst xs, h => by
    rw [D.pl] at h
    obtain ⟨a, b⟩ := plA_plain (pl_plain n) xs h
    refine ⟨?_, ?_⟩
    · rw [D.py, PyData.plain]; exact a
    · rw [D.py, PyData.depth]; exact Nat.succ_le_succ b
  | n + 1, .tup xs, h => by
    rw [D.pl] at h
    obtain ⟨a, b⟩ := plA_plain (pl_plain n) xs h
    refine ⟨?_, ?_⟩
    · rw [D.py, PyData.plain]; exact a
    · rw [D.py, PyData.depth]; exact Nat.succ_le_succ b
section
variable {K : PySem.W.Frag} {H : Hp}
mutual
theorem Sh.dp : ∀ {v : V} {d : D}, Sh K H v d → d.py.plain = true → Dp K H v d.py
  | _, _, .non, _ => .non
  | _, _, .bl b, _ => .bl b
  | _, _, .int i, _ => .int i
  | _, _, .str s, _ => .str s
  | _, _, .lst h t, p => .lst h (ShA.dp t (by rw [D.py, PyData.plain] at p; exact p))
  | _, _, .tup h t, p => .tup (SqT.of h) (ShA.dp t (by rw [D.py, PyData.plain] at p; exact p))
  | _, _, .dK h t, p => by rw [D.py, PyData.plain] at p; cases p
  | _, _, .dT h t, p => by rw [D.py, PyData.plain] at p; cases p
  | _, _, .dF _ _, p => by rw [D.py, PyData.plain] at p; cases p
  | _, _, .obj _ _ _, p => by rw [D.py, PyData.plain] at p; cases p
  | _, _, .pob _ _ _ _, p => by rw [D.py, PyData.plain] at p; cases p
  | _, _, .clo _ _ _ _ _ _, p => by rw [D.py, PyData.plain] at p; cases p
  | _, _, .exn _ _ _ _, p => by rw [D.py, PyData.plain] at p; cases p
theorem ShA.dp : ∀ {vs : List V} {ds : List D}, ShA K H vs ds → PyData.plainAll (pyA ds) = true → DpAll K H vs (pyA ds)
  | _, _, .nil, _ => .nil
  | _, _, .cons h t, p => by
    rw [pyA, PyData.plainAll, Bool.and_eq_true] at p
    exact .cons (Sh.dp h p.1) (ShA.dp t p.2)
end
end

/-! ### == and in over plain data -/
def D.eqv (a b : D) : Bool := PyData.eqv a.py b.py
def rEqP (K : PySem.W.Frag) (neg : Bool) : R2 := fun x y H Q => ∃ d e : D, Sh K H x d ∧ Sh K H y e ∧ D.pl 60 d = true ∧ D.pl 60 e = true ∧ Q (.bl (xor neg (d.eqv e))) H
theorem op_eqP {X : Cx} (hu : X.A.units + 64 < cLine) : OpR X (compareOp .Eq) (rEqP X.K false) := by
  intro pins s σ H x y v u Q I rx ry h
  obtain ⟨d, e, hd, he, sd, se, q⟩ := h
  obtain ⟨p1, q1⟩ := pl_plain 60 d sd
  obtain ⟨p2, q2⟩ := pl_plain 60 e se
  obtain ⟨as, r1⟩ := Dp.reads I _ x v (hd.dp p1) rx
  obtain ⟨bs, r2⟩ := Dp.reads I _ y u (he.dp p2) ry
  exact PySem.SeqAt.eq_plain r1 r2 p1 p2 (by have := Nat.min_le_left d.py.depth e.py.depth; omega) ⟨.bl _, H, I, rfl, by simpa [D.eqv] using q⟩
theorem op_neP {X : Cx} (hu : X.A.units + 64 < cLine) : OpR X (compareOp .NotEq) (rEqP X.K true) := by
  intro pins s σ H x y v u Q I rx ry h
  obtain ⟨d, e, hd, he, sd, se, q⟩ := h
  obtain ⟨p1, q1⟩ := pl_plain 60 d sd
  obtain ⟨p2, q2⟩ := pl_plain 60 e se
  obtain ⟨as, r1⟩ := Dp.reads I _ x v (hd.dp p1) rx
  obtain ⟨bs, r2⟩ := Dp.reads I _ y u (he.dp p2) ry
  exact PySem.SeqAt.ne_plain r1 r2 p1 p2 (by have := Nat.min_le_left d.py.depth e.py.depth; omega) ⟨.bl _, H, I, rfl, by simpa [D.eqv] using q⟩
def oEq (neg : Bool) : WO := fun x y Q => D.pl 60 x.d = true ∧ D.pl 60 y.d = true ∧ Q (sh (.bl (xor neg (x.d.eqv y.d))))
theorem ok_eq {K : PySem.W.Frag} {neg : Bool} : OpOk K (rEqP K neg) (oEq neg) := by
  rintro c1 c2 Q ⟨h1, h2, q⟩ S Fl F H v1 v2 tc tv Q' r k
  exact ⟨c1.d, c2.d, r.sh2, r.sh, h1, h2, k _ _ S H q (Same.refl S) (r.tail.tail.push (.bl _))⟩
/-- x in xs: xs a list or a tuple -/
def D.items : D → Option (List D)
  | .lst xs => some xs
  | .tup xs => some xs
  | _ => none
def D.mem (x : D) (ys : List D) : Bool := ys.any fun y => y.eqv x
def rInP (K : PySem.W.Frag) (neg : Bool) : R2 := fun x y H Q => ∃ (d e : D) (ys : List D), Sh K H x d ∧ Sh K H y e ∧ e.items = some ys ∧ D.pl 60 d = true ∧ D.pl 60 e = true ∧ Q (.bl (xor neg (d.mem ys))) H
theorem mem_py (d : D) : ∀ ys : List D, ((pyA ys).any fun y => PyData.eqv y d.py) = d.mem ys
  | [] => rfl
  | y :: ys => by
    have ih := mem_py d ys
    unfold D.mem at ih ⊢
    rw [pyA, List.any_cons, List.any_cons, ih]
    rfl
theorem in_sound {X : Cx} (hu : X.A.units + 64 < cLine) (neg : Bool) {pins : List (Addr × Obj)} {σ : St} {H : Hp} {s : Shared} {x y : V} {v u : Value} {Q : VK} (I : Inv X pins σ H s) (rx : RelV x v) (ry : RelV y u) (h : rInP X.K neg x y H Q) :
    wpAny (model X.prog X.w) X.A (compareOp (if neg then .NotIn else .In) v u) (EP X pins σ Q) X.xe s := by
  obtain ⟨d, e, ys, hd, he, hy, sd, se, q⟩ := h
  obtain ⟨p1, q1⟩ := pl_plain 60 d sd
  obtain ⟨p2, q2⟩ := pl_plain 60 e se
  obtain ⟨as, r1⟩ := Dp.reads I _ x v (hd.dp p1) rx
  obtain ⟨bs, r2⟩ := Dp.reads I _ y u (he.dp p2) ry
  have hm := Nat.min_le_right (PyData.depthAll (pyA ys)) d.py.depth
  cases e with
  | lst es =>
    cases hy
    rw [D.py] at r2 p2
    rw [PyData.plain] at p2
    cases neg with
    | true => exact PySem.SeqAt.notIn_list_data r2 r1 p2 p1 (by omega) (by rw [mem_py]; exact ⟨.bl _, H, I, rfl, by simpa using q⟩)
    | false => exact PySem.SeqAt.in_list_data r2 r1 p2 p1 (by omega) (by rw [mem_py]; exact ⟨.bl _, H, I, rfl, by simpa using q⟩)
  | tup es =>
    cases hy
    rw [D.py] at r2 p2
    rw [PyData.plain] at p2
    cases neg with
    | true => exact PySem.SeqAt.notIn_tuple_data r2 r1 p2 p1 (by omega) (by rw [mem_py]; exact ⟨.bl _, H, I, rfl, by simpa using q⟩)
    | false => exact PySem.SeqAt.in_tuple_data r2 r1 p2 p1 (by omega) (by rw [mem_py]; exact ⟨.bl _, H, I, rfl, by simpa using q⟩)
  | _ => cases hy
theorem op_inP {X : Cx} (hu : X.A.units + 64 < cLine) : OpR X (compareOp .In) (rInP X.K false) := fun pins s σ H x y v u Q I rx ry h => in_sound hu false I rx ry h
theorem op_ninP {X : Cx} (hu : X.A.units + 64 < cLine) : OpR X (compareOp .NotIn) (rInP X.K true) := fun pins s σ H x y v u Q I rx ry h => in_sound hu true I rx ry h
def oIn (neg : Bool) : WO := fun x y Q => ∃ ys, y.d.items = some ys ∧ D.pl 60 x.d = true ∧ D.pl 60 y.d = true ∧ Q (sh (.bl (xor neg (x.d.mem ys))))
theorem ok_in {K : PySem.W.Frag} {neg : Bool} : OpOk K (rInP K neg) (oIn neg) := by
  rintro c1 c2 Q ⟨ys, h0, h1, h2, q⟩ S Fl F H v1 v2 tc tv Q' r k
  exact ⟨c1.d, c2.d, ys, r.sh2, r.sh, h0, h1, h2, k _ _ S H q (Same.refl S) (r.tail.tail.push (.bl _))⟩

/-! ### storing -/
def D.scal : D → Bool
  | .non => true | .bl _ => true | .int _ => true | .str _ => true
  | _ => false
/-- a cell may be laid into a container whose items are private to the depth n -/
def Cell.fits (n : Nat) (c : Cell) : Bool := c.d.scal || (match c.b with
  | .o => n == 0 || c.n == n
  | .m _ => n == 0 || c.n == n
  | _ => n == 0 && c.n == 0)
section
variable {K : PySem.W.Frag} {S S' : Hp} {Fl F : Hl} {H : Hp}
theorem Sh.own_scal {v : V} {d : D} (h : Sh K S v d) (q : d.scal = true) : ∀ (S' : Hp) (n : Nat), Own K S' n v d [] := by
  intro S' n
  cases h with
  | non => cases n with | zero => exact .sh .non | succ n => exact .non
  | bl b => cases n with | zero => exact .sh (.bl b) | succ n => exact .bl b
  | int b => cases n with | zero => exact .sh (.int b) | succ n => exact .int b
  | str b => cases n with | zero => exact .sh (.str b) | succ n => exact .str b
  | _ => cases q
theorem CellOk.scal {c : Cell} {v : V} {L : Hl} (h : CellOk K S Fl F c v L) (q : c.d.scal = true) : Sh K S v c.d ∧ L = [] := by
  cases h with
  | @o n d v L h =>
    cases h with
    | sh h => exact ⟨h, rfl⟩
    | non => exact ⟨.non, rfl⟩
    | bl b => exact ⟨.bl b, rfl⟩
    | int b => exact ⟨.int b, rfl⟩
    | str b => exact ⟨.str b, rfl⟩
    | _ => cases q
  | @l n d v L _ h =>
    cases h with
    | sh h => exact ⟨h, rfl⟩
    | non => exact ⟨.non, rfl⟩
    | bl b => exact ⟨.bl b, rfl⟩
    | int b => exact ⟨.int b, rfl⟩
    | str b => exact ⟨.str b, rfl⟩
    | _ => cases q
  | @p n d v L _ h =>
    cases h with
    | sh h => exact ⟨h, rfl⟩
    | non => exact ⟨.non, rfl⟩
    | bl b => exact ⟨.bl b, rfl⟩
    | int b => exact ⟨.int b, rfl⟩
    | str b => exact ⟨.str b, rfl⟩
    | _ => cases q
  | @m j n d v L h =>
    cases h with
    | sh h => exact ⟨h, rfl⟩
    | non => exact ⟨.non, rfl⟩
    | bl b => exact ⟨.bl b, rfl⟩
    | int b => exact ⟨.int b, rfl⟩
    | str b => exact ⟨.str b, rfl⟩
    | _ => cases q
theorem CellOk.zero {b : Bm} {d : D} {v : V} {L : Hl} (h : CellOk K S Fl F ⟨b, 0, d⟩ v L) : Sh K S v d ∧ L = [] := by
  cases h with
  | o h => cases h with | sh h => exact ⟨h, rfl⟩
  | l _ h => cases h with | sh h => exact ⟨h, rfl⟩
  | p _ h => cases h with | sh h => exact ⟨h, rfl⟩
  | m h => cases h with | sh h => exact ⟨h, rfl⟩
/-- one cell becomes content of depth n; M: other private parts ahead -/
theorem store1 {c : Cell} {v : V} {L M R : Hl} {n : Nat} (h : CellOk K S Fl F c v L) (r : HRel S (M ++ (L ++ R)) H) (q : c.fits n = true) :
    ∃ S' L', Same S S' ∧ Own K S' n v c.d L' ∧ HRel S' (M ++ (L' ++ R)) H := by
  by_cases hs : c.d.scal = true
  · obtain ⟨a, rfl⟩ := h.scal hs
    exact ⟨S, [], Same.refl S, a.own_scal hs S n, r⟩
  · have q : (match c.b with | .o => n == 0 || c.n == n | .m _ => n == 0 || c.n == n | _ => n == 0 && c.n == 0) = true := by
      unfold Cell.fits at q
      rw [Bool.eq_false_iff.mpr hs] at q
      simpa using q
    by_cases hn : c.n = 0
    · obtain ⟨b, m, d⟩ := c
      obtain rfl : m = 0 := hn
      obtain ⟨a, rfl⟩ := h.zero
      have n0 : n = 0 := by
        cases b <;> simp at q <;> omega
      subst n0
      exact ⟨S, [], Same.refl S, .sh a, r⟩
    · obtain ⟨b, m, d⟩ := c
      cases b with
      | l => simp at q; exact absurd q.2 hn
      | p => simp at q; exact absurd q.2 hn
      | o =>
        cases h with
        | o h =>
          by_cases hm : m = n
          · subst hm
            exact ⟨S, L, Same.refl S, h, r⟩
          · have n0 : n = 0 := by simp at q; omega
            subst n0
            have r' : HRel S (L ++ (M ++ R)) H := r.perm (by
              rw [← List.append_assoc, ← List.append_assoc]
              exact List.Perm.append_right _ List.perm_append_comm)
            obtain ⟨f1, f2, f3⟩ := r'.freeze
            exact ⟨_, [], f2, .sh (h.sh' f2 f3), f1⟩
      | m j =>
        cases h with
        | m h =>
          by_cases hm : m = n
          · subst hm
            exact ⟨S, L, Same.refl S, h, r⟩
          · have n0 : n = 0 := by simp at q; omega
            subst n0
            have r' : HRel S (L ++ (M ++ R)) H := r.perm (by
              rw [← List.append_assoc, ← List.append_assoc]
              exact List.Perm.append_right _ List.perm_append_comm)
            obtain ⟨f1, f2, f3⟩ := r'.freeze
            exact ⟨_, [], f2, .sh (h.sh' f2 f3), f1⟩
theorem storeA {n : Nat} : ∀ {cs tc : List Cell} {vs tv : List V} {S : Hp} {L M R : Hl}, cs.length = vs.length → Tmp K S Fl F (cs ++ tc) (vs ++ tv) L → HRel S (M ++ (L ++ R)) H → (∀ c ∈ cs, c.fits n = true) →
    ∃ S' L1 L2, Same S S' ∧ OwnA K S' n vs (cs.map Cell.d) L1 ∧ Tmp K S' Fl F tc tv L2 ∧ HRel S' (M ++ (L1 ++ (L2 ++ R))) H
  | [], tc, [], tv, S, L, M, R, _, t, r, _ => ⟨S, [], L, Same.refl S, .nil, t, r⟩
  | c :: cs, tc, v :: vs, tv, S, _, M, R, e, .cons (L1 := La) (L2 := Lb) a t, r, q => by
    have r0 : HRel S (M ++ (La ++ (Lb ++ R))) H := by rw [List.append_assoc] at r; exact r
    obtain ⟨S1, L', e1, o1, r1⟩ := store1 a r0 (q c List.mem_cons_self)
    have r2 : HRel S1 ((M ++ L') ++ (Lb ++ R)) H := by rw [List.append_assoc]; exact r1
    obtain ⟨S2, L1, L2, e2, o2, t2, r3⟩ := storeA (by simpa using e) (t.ex e1) r2 fun c hc => q c (List.mem_cons_of_mem _ hc)
    refine ⟨S2, L' ++ L1, L2, e1.trans e2, .cons (o1.ex e2) o2, t2, ?_⟩
    rw [List.append_assoc] at r3 ⊢
    exact r3
end

/-! ### displays -/
def wLst (n : Nat) (ws : WA) : WE := fun ρ Q X => ws ρ (fun cs => cs.all (Cell.fits n) = true ∧ cs.length ≤ sizeLine ∧ Q (own (n + 1) (.lst (cs.map Cell.d)))) X
def wTup (n : Nat) (ws : WA) : WE := fun ρ Q X => ws ρ (fun cs => cs.all (Cell.fits n) = true ∧ cs.length ≤ sizeLine ∧ Q (match n with | 0 => sh (.tup (cs.map Cell.d)) | n + 1 => own (n + 2) (.tup (cs.map Cell.d)))) X
section
variable {X : Cx} {W : WX} {es : List Expr} {ts : TA} {ws : WA} {pos : Pos}
theorem ce_lst (n : Nat) (h : CA X W es ts ws) : CE X W (.List es pos) (tLst ts) (wLst n ws) := by
  obtain ⟨a1, a2⟩ := h
  refine ⟨pe_lst a1, ?_⟩
  intro ρ Q XQ w S Fl F H σ tc tv Q' ev r0 k kx
  refine a2 ρ _ XQ w S Fl F H σ tc tv _ ev r0 (fun cs vs S1 H1 q hl e1 r1 => ?_) kx
  obtain ⟨q1, q2, q3⟩ := q
  refine ⟨by rw [← hl]; exact q2, fun p hp => ?_⟩
  obtain ⟨L, t, hr⟩ := r1
  obtain ⟨S2, L1, L2, e2, o2, t2, r2⟩ := storeA (n := n) (M := []) hl t hr (fun c hc => List.all_eq_true.mp q1 c hc)
  refine k _ _ S2 _ q3 (e1.trans e2) ⟨_, .cons (.o (.lst (by rw [← hl]; exact q2) o2)) t2, ?_⟩
  have := r2.lay (o := .lst vs) hp
  show HRel S2 ((p, HO.lst vs) :: L1 ++ L2 ++ (Fl ++ F)) _
  simpa [List.append_assoc] using this
theorem ce_tup {x1} (n : Nat) (h : CA X W es ts ws) : CE X W (.Tuple es x1 pos) (tTup ts) (wTup n ws) := by
  obtain ⟨a1, a2⟩ := h
  refine ⟨pe_tup a1, ?_⟩
  intro ρ Q XQ w S Fl F H σ tc tv Q' ev r0 k kx
  refine a2 ρ _ XQ w S Fl F H σ tc tv _ ev r0 (fun cs vs S1 H1 q hl e1 r1 => ?_) kx
  obtain ⟨q1, q2, q3⟩ := q
  refine ⟨by rw [← hl]; exact q2, fun p hp => ?_⟩
  obtain ⟨L, t, hr⟩ := r1
  obtain ⟨S2, L1, L2, e2, o2, t2, r2⟩ := storeA (n := n) (M := []) hl t hr (fun c hc => List.all_eq_true.mp q1 c hc)
  cases n with
  | zero =>
    obtain ⟨sa, rfl⟩ := o2.to_sh
    have rr : Rel X.K S2 Fl F H1 tc tv := ⟨L2, t2, r2⟩
    obtain ⟨r3, e3⟩ := Rel.laid (o := HO.tup vs) ⟨L2, t2, by simpa using r2⟩ hp
    exact k _ _ _ _ q3 ((e1.trans e2).trans e3) (r3.push (.tup upd_same (sa.ex e3)))
  | succ n =>
    refine k _ _ S2 _ q3 (e1.trans e2) ⟨_, .cons (.o (.tup o2)) t2, ?_⟩
    have := r2.lay (o := .tup vs) hp
    show HRel S2 ((p, HO.tup vs) :: L1 ++ L2 ++ (Fl ++ F)) _
    simpa [List.append_assoc] using this
end
end VL
set_option maxRecDepth 100000
/-! VE: statements over cells. -/
namespace VL
open PySem L2
variable [TB : Tbs]

structure CS (X : Cx) (W : WX) (st : Stmt) (t : TS) (w : WS) : Prop where
  p : PS X st t
  s : StmtOk X.K X.mg W t w
structure CSs (X : Cx) (W : WX) (st : List Stmt) (t : TS) (w : WS) : Prop where
  p : PSs X st t
  s : StmtOk X.K X.mg W t w

/-! ### from expressions to statements -/
section
variable {K : PySem.W.Frag} {mg : Str → Option Value} {W : WX} {S S' : Hp} {Fl F : Hl} {H H' : Hp} {ρ : Env} {σ : St} {c : Cell} {v : V} {L : Hl} {D : WEnds} {De : Ends} {A : Nat → V}
/-- what may stand in a slot -/
def Cell.noL (c : Cell) : Bool := match c.b with | .o => true | .p => true | _ => false
theorem Cell.noL_ne {c : Cell} (h : c.noL = true) : c.b ≠ .l := fun e => by unfold Cell.noL at h; rw [e] at h; cases h
theorem Cell.noL_m {c : Cell} (h : c.noL = true) {v : V} {A : Nat → V} : ∀ j, c.b = .m j → v = A j := fun j e => by unfold Cell.noL at h; rw [e] at h; cases h
theorem CellOk.lf {Fl' : Hl} (h : CellOk K S Fl F c v L) (q : c.b ≠ .l) : CellOk K S Fl' F c v L := by
  cases h with
  | m h => exact .m h
  | o h => exact .o h
  | l _ _ => exact absurd rfl q
  | p a h => exact .p a h
/-- run an expression at a statement -/
theorem expr_at {t : TE} {w : WE} {Q : Cell → Prop} {X : XQ} {Q' : VK} (h : ExprOk K mg W t w) (hw : w ρ Q X) (hl : σ.length = ρ.length) (r : SRel K S F A H ρ σ)
    (k : ∀ c v S' H' Le, Q c → Same S S' → Slots K S' F A ρ σ Le → Rel K S' Le F H' [c] [v] → Q' v H') (kx : ∀ x cls d S' H', X x → Same S S' → ExnOk K mg S' x cls d → SRel K S' F A H' ρ σ → W cls d σ H') : t σ H Q' := by
  obtain ⟨Le, sl, hr⟩ := r
  refine h ρ Q X hw S Le F H σ [] [] Q' (sl.view (List.Sublist.refl _)) ⟨[], .nil, hr⟩ (fun c v S1 H1 q e r1 => k c v S1 H1 Le q e (sl.ex e) r1) ?_
  intro x cls d S1 H1 hx e ex hr1
  exact kx x cls d S1 H1 hx e ex ⟨Le, sl.ex e, hr1⟩
theorem test_at {t : TT} {w : WT} {Q : Bool → Prop} {X : XQ} {Q' : Bool → Hp → Prop} (h : TestOk K mg W t w) (hw : w ρ Q X) (hl : σ.length = ρ.length) (r : SRel K S F A H ρ σ)
    (k : ∀ b S' H', Q b → Same S S' → SRel K S' F A H' ρ σ → Q' b H') (kx : ∀ x cls d S' H', X x → Same S S' → ExnOk K mg S' x cls d → SRel K S' F A H' ρ σ → W cls d σ H') : t σ H Q' := by
  obtain ⟨Le, sl, hr⟩ := r
  refine h ρ Q X hw S Le F H σ [] [] Q' (sl.view (List.Sublist.refl _)) ⟨[], .nil, hr⟩ (fun b S1 H1 q e r1 => ?_) ?_
  · exact k b S1 H1 q e ⟨Le, sl.ex e, r1.base⟩
  intro x cls d S1 H1 hx e ex hr1
  exact kx x cls d S1 H1 hx e ex ⟨Le, sl.ex e, hr1⟩
/-- the value into a slot -/
theorem slot_set {i : Nat} {Le : Hl} (hb : c.noL = true) (hi : i < ρ.length) (sl : Slots K S F A ρ σ Le) (r : Rel K S Le F H [c] [v]) : SRel K S F A H (ρ.set i (some c)) (σ.set i (some v)) := by
  obtain ⟨L, t, hr⟩ := r
  cases t with
  | cons a t0 =>
    cases t0
    rename_i L1
    obtain ⟨L', s1, R, p1, p2⟩ := Slots.set (a.lf (Cell.noL_ne hb)) (Cell.noL_m hb) hi sl
    refine ⟨L', s1, ?_⟩
    have h1 : HRel S (L1 ++ (R ++ F)) H := hr.sub (by
      rw [List.append_nil]
      exact (List.Sublist.refl L1).append (p2.append (List.Sublist.refl F)))
    refine h1.perm ?_
    rw [← List.append_assoc]
    exact List.Perm.append_right _ p1.symm
end
/-- the exception's way out of a statement -/
abbrev WEnds.x (D : WEnds) (ρ : Env) : XQ := fun x => D.ex x ρ
section
variable {K : PySem.W.Frag} {mg : Str → Option Value} {W : WX} {S S' : Hp} {F : Hl} {H : Hp} {ρ : Env} {σ : St} {D : WEnds} {De : Ends} {A : Nat → V}
theorem EndsOk.xs (h : EndsOk K mg W S F A ρ.length D De) (hl : σ.length = ρ.length) : ∀ x cls d S' H', D.x ρ x → Same S S' → ExnOk K mg S' x cls d → SRel K S' F A H' ρ σ → W cls d σ H' :=
  fun x cls d S' H' hx e ex r => h.ex x cls d ρ σ S' H' hx hl rfl e ex r
end

/-! ### blocks -/
def wNext : WS := fun D ρ => D.nx ρ
def wSeq (w u : WS) : WS := fun D ρ => w { D with nx := u D } ρ
def wBreak : WS := fun D ρ => D.bk ρ
def wCont : WS := fun D ρ => D.ct ρ
def wRetN : WS := fun D ρ => D.rt (sh .non) ρ
def Cell.ret : Cell → Option Cell
  | ⟨.p, 0, d⟩ => some ⟨.o, 0, d⟩
  | ⟨.p, _ + 1, _⟩ => none
  | ⟨_, n, d⟩ => some ⟨.o, n, d⟩
/-- what is left of the slots where a view of one is handed back -/
def Cell.left (c : Cell) (ρ : Env) : Env := match c with
  | ⟨.l, _ + 1, _⟩ => []
  | _ => ρ
def wRet (we : WE) : WS := fun D ρ => we ρ (fun c => ∃ c', c.ret = some c' ∧ D.rt c' (c.left ρ)) (D.x ρ)
def wDrop (we : WE) : WS := fun D ρ => we ρ (fun _ => D.nx ρ) (D.x ρ)
def wIfS (w : WT) (a b : WS) : WS := fun D ρ => w ρ (fun c => if c = true then a D ρ else b D ρ) (D.x ρ)
section
variable {X : Cx} {W : WX} {st : Stmt} {rest : List Stmt} {t t2 : TS} {te : TE} {w u : WS} {pos : Pos} {e : Expr} {we : WE}
theorem css_nil : CSs X W [] tNext wNext := by
  refine ⟨pss_nil, ?_⟩
  intro D ρ hw S F A H σ De hl r en
  exact en.nx ρ σ S H hw hl rfl (Same.refl S) r
theorem css_cons (h1 : CS X W st t w) (h2 : CSs X W rest t2 u) : CSs X W (st :: rest) (tSeq t t2) (wSeq w u) := by
  obtain ⟨a1, a2⟩ := h1
  obtain ⟨b1, b2⟩ := h2
  refine ⟨pss_cons a1 b1, ?_⟩
  intro D ρ hw S F A H σ De hl r en
  refine a2 _ ρ hw S F A H σ _ hl r (en.nxt fun ρ' σ' S' H' q l1 l2 e r' => ?_)
  refine b2 D ρ' q S' F A H' σ' De (l1.trans l2.symm) r' ?_
  rw [l2]
  exact en.up e
theorem css_one (h1 : CS X W st t w) : CSs X W [st] t w := by
  obtain ⟨a1, a2⟩ := h1
  exact ⟨pss_one a1, a2⟩
theorem cs_pass : CS X W (.Pass pos) tNext wNext := by
  refine ⟨ps_pass, ?_⟩
  intro D ρ hw S F A H σ De hl r en
  exact en.nx ρ σ S H hw hl rfl (Same.refl S) r
theorem cs_doc {x j p p'} : CS X W (.Expr (.Constant (.str x) j p) p') tNext wNext := by
  refine ⟨ps_doc, ?_⟩
  intro D ρ hw S F A H σ De hl r en
  exact en.nx ρ σ S H hw hl rfl (Same.refl S) r
theorem cs_break : CS X W (.Break pos) tBreak wBreak := by
  refine ⟨ps_break, ?_⟩
  intro D ρ hw S F A H σ De hl r en
  exact en.bk ρ σ S H hw hl rfl (Same.refl S) r
theorem cs_cont : CS X W (.Continue pos) tCont wCont := by
  refine ⟨ps_continue, ?_⟩
  intro D ρ hw S F A H σ De hl r en
  exact en.ct ρ σ S H hw hl rfl (Same.refl S) r
theorem cs_retN : CS X W (.Return none pos) tRetN wRetN := by
  refine ⟨ps_retN, ?_⟩
  intro D ρ hw S F A H σ De hl r en
  obtain ⟨L, sl, hr⟩ := r
  exact en.rt _ _ _ σ [] L S H hw (Same.refl S) (.o (.sh .non)) sl hr
theorem cs_ret (h : CE X W e te we) : CS X W (.Return (some e) pos) (tRet te) (wRet we) := by
  obtain ⟨a1, a2⟩ := h
  refine ⟨ps_ret a1, ?_⟩
  intro D ρ hw S F A H σ De hl r en
  refine expr_at a2 hw hl r (fun c v S' H' Le q e sl r1 => ?_) (en.xs hl)
  obtain ⟨c', hc, q⟩ := q
  obtain ⟨L, t, hr⟩ := r1
  cases t with
  | cons a t0 =>
    cases t0
    rename_i L1
    rw [List.append_nil] at hr
    cases a with
    | @o n d v L h =>
      cases hc
      exact en.rt _ v ρ σ _ _ S' H' q e (.o h) sl hr
    | @m j n d v L h =>
      cases hc
      exact en.rt _ v ρ σ _ _ S' H' q e (.o h) sl hr
    | @l n d v L q1 h =>
      cases hc
      cases n with
      | zero =>
        cases h with
        | sh h => exact en.rt _ v ρ σ [] _ S' H' q e (.o (.sh h)) sl hr
      | succ n =>
        exact en.rt _ v [] [] _ [] S' H' q e (.o h) .nil (hr.sub (by
          rw [List.nil_append, List.nil_append]
          exact q1.append (List.Sublist.refl F)))
    | @p n d v L q1 h =>
      cases n with
      | zero =>
        cases hc
        cases h with
        | sh h => exact en.rt _ v ρ σ [] _ S' H' q e (.o (.sh h)) sl hr
      | succ n => cases hc
theorem cs_expr (h : CE X W e te we) (hs : swapsWith e none pos.line X.env = pure false := by rfl) : CS X W (.Expr e pos) (tDrop te) (wDrop we) := by
  obtain ⟨a1, a2⟩ := h
  refine ⟨ps_expr a1 hs, ?_⟩
  intro D ρ hw S F A H σ De hl r en
  exact expr_at a2 hw hl r (fun c v S' H' Le q e sl r1 => en.nx ρ σ S' H' q hl rfl e ⟨Le, sl, r1.base⟩) (en.xs hl)
theorem cs_if {c : Expr} {a b : List Stmt} {tc : TT} {wc : WT} (hc : CT X W c tc wc) (ha : CSs X W a t w) (hb : CSs X W b t2 u) : CS X W (.If c a b pos) (tIfS tc t t2) (wIfS wc w u) := by
  obtain ⟨a1, a2⟩ := hc
  obtain ⟨b1, b2⟩ := ha
  obtain ⟨c1, c2⟩ := hb
  refine ⟨ps_if a1 b1 c1, ?_⟩
  intro D ρ hw S F A H σ De hl r en
  refine test_at a2 hw hl r (fun b S' H' q e r1 => ?_) (en.xs hl)
  cases b with
  | true => exact iteT (b2 D ρ (by simpa using q) S' F A H' σ De hl r1 (en.up e))
  | false => exact iteF (c2 D ρ (by simpa using q) S' F A H' σ De hl r1 (en.up e))
end

/-! ### the items of a list or tuple -/
def Cell.item (c : Cell) (d : D) : Cell := match c.n with
  | 0 => sh d
  | 1 => sh d
  | m + 2 => ⟨match c.b with | .m _ => .o | b => b, m + 1, d⟩
/-- what stands at an address, as a sequence -/
def SeqP (K : PySem.W.Frag) (H : Hp) (d : D) (a : Addr) (vs : List V) : Prop := match d with
  | .lst _ => SqL K H a vs
  | .tup _ => SqT K H a vs
  | _ => False
section
variable {K : PySem.W.Frag} {S S' : Hp} {Fl F : Hl} {H : Hp} {c : Cell} {v : V} {L : Hl} {ds : List D}
theorem ShA.tmp : ∀ {vs : List V} {ds : List D}, ShA K S vs ds → Tmp K S Fl F (ds.map sh) vs []
  | _, _, .nil => .nil
  | _, _, .cons h t => .cons (L1 := []) (.o (.sh h)) (ShA.tmp t)
theorem OwnA.tmpO {n : Nat} : ∀ {vs : List V} {ds : List D} {L : Hl}, OwnA K S (n + 1) vs ds L → Tmp K S Fl F (ds.map fun d => (⟨.o, n + 1, d⟩ : Cell)) vs L
  | _, _, _, .nil => .nil
  | _, _, _, .cons h t => .cons (.o h) (OwnA.tmpO t)
theorem OwnA.tmpP {n : Nat} : ∀ {vs : List V} {ds : List D} {L : Hl}, OwnA K S (n + 1) vs ds L → L.Sublist F → Tmp K S Fl F (ds.map fun d => (⟨.p, n + 1, d⟩ : Cell)) vs []
  | _, _, _, .nil, _ => .nil
  | _, _, _, .cons h t, q => .cons (L1 := []) (.p ((List.sublist_append_left _ _).trans q) h) (OwnA.tmpP t ((List.sublist_append_right _ _).trans q))
theorem OwnA.tmpL {n : Nat} : ∀ {vs : List V} {ds : List D} {L : Hl}, OwnA K S (n + 1) vs ds L → L.Sublist Fl → Tmp K S Fl F (ds.map fun d => (⟨.l, n + 1, d⟩ : Cell)) vs []
  | _, _, _, .nil, _ => .nil
  | _, _, _, .cons h t, q => .cons (L1 := []) (.l ((List.sublist_append_left _ _).trans q) h) (OwnA.tmpL t ((List.sublist_append_right _ _).trans q))
theorem Own.seq {b : Bm} {n : Nat} {d : D} {Lo : Hl} (h : Own K S n v d L) (hd : d.items = some ds) (e : Same S H) (hp : ∀ p ∈ L, H p.1 = some p.2)
    (ho : b = .o → L.Sublist Lo) (hl : b = .l → L.Sublist Fl) (hpp : b = .p → L.Sublist F) (hm : ∀ j, b ≠ .m j) :
    ∃ a vs L', v = .ref a ∧ SeqP K H d a vs ∧ vs.length = ds.length ∧ Tmp K S Fl F (ds.map (Cell.item ⟨b, n, d⟩)) vs L' ∧ (b = .o → L'.Sublist Lo) ∧ (b ≠ .o → L' = []) := by
  cases h with
  | sh h =>
    cases h with
    | @lst a vs ds' h t => cases hd; exact ⟨a, vs, [], rfl, SqL.ex e h, t.length, t.tmp, fun _ => List.nil_sublist _, fun _ => rfl⟩
    | @tup a vs ds' h t => cases hd; exact ⟨a, vs, [], rfl, SqT.of (e _ _ h), t.length, t.tmp, fun _ => List.nil_sublist _, fun _ => rfl⟩
    | _ => cases hd
  | @lst n a vs ds' L1 z t =>
    cases hd
    have hq : SqL K H a vs := SqL.of (hp _ List.mem_cons_self)
    cases n with
    | zero => obtain ⟨t', rfl⟩ := t.to_sh; exact ⟨a, vs, [], rfl, hq, t.length, t'.tmp, fun _ => List.nil_sublist _, fun _ => rfl⟩
    | succ n =>
      cases b with
      | o => exact ⟨a, vs, L1, rfl, hq, t.length, t.tmpO, fun _ => (List.sublist_cons_self _ _).trans (ho rfl), fun q => absurd rfl q⟩
      | l => exact ⟨a, vs, [], rfl, hq, t.length, t.tmpL ((List.sublist_cons_self _ _).trans (hl rfl)), fun q => (nomatch q), fun _ => rfl⟩
      | p => exact ⟨a, vs, [], rfl, hq, t.length, t.tmpP ((List.sublist_cons_self _ _).trans (hpp rfl)), fun q => (nomatch q), fun _ => rfl⟩
      | m j => exact absurd rfl (hm j)
  | @tup n a vs ds' L1 t =>
    cases hd
    have hq : SqT K H a vs := SqT.of (hp _ List.mem_cons_self)
    cases n with
    | zero => obtain ⟨t', rfl⟩ := t.to_sh; exact ⟨a, vs, [], rfl, hq, t.length, t'.tmp, fun _ => List.nil_sublist _, fun _ => rfl⟩
    | succ n =>
      cases b with
      | o => exact ⟨a, vs, L1, rfl, hq, t.length, t.tmpO, fun _ => (List.sublist_cons_self _ _).trans (ho rfl), fun q => absurd rfl q⟩
      | l => exact ⟨a, vs, [], rfl, hq, t.length, t.tmpL ((List.sublist_cons_self _ _).trans (hl rfl)), fun q => (nomatch q), fun _ => rfl⟩
      | p => exact ⟨a, vs, [], rfl, hq, t.length, t.tmpP ((List.sublist_cons_self _ _).trans (hpp rfl)), fun q => (nomatch q), fun _ => rfl⟩
      | m j => exact absurd rfl (hm j)
  | _ => cases hd
theorem CellOk.seq (h : CellOk K S Fl F c v L) (hd : c.d.items = some ds) (e : Same S H) (hp : ∀ p ∈ L ++ (Fl ++ F), H p.1 = some p.2) :
    ∃ a vs L', v = .ref a ∧ SeqP K H c.d a vs ∧ vs.length = ds.length ∧ Tmp K S Fl F (ds.map c.item) vs L' ∧ L'.Sublist L := by
  cases h with
  | @o n d v L h =>
    obtain ⟨a, vs, L', h1, h2, h3, h4, h5, _⟩ := Own.seq (Fl := Fl) (F := F) (b := .o) (Lo := L) h hd e (fun p hm => hp p (List.mem_append_left _ hm)) (fun _ => List.Sublist.refl _) (fun q => nomatch q) (fun q => nomatch q) (fun _ q => nomatch q)
    exact ⟨a, vs, L', h1, h2, h3, h4, h5 rfl⟩
  | @m j n d v L h =>
    obtain ⟨a, vs, L', h1, h2, h3, h4, h5, _⟩ := Own.seq (Fl := Fl) (F := F) (b := .o) (Lo := L) h hd e (fun p hm => hp p (List.mem_append_left _ hm)) (fun _ => List.Sublist.refl _) (fun q => nomatch q) (fun q => nomatch q) (fun _ q => nomatch q)
    refine ⟨a, vs, L', h1, h2, h3, ?_, h5 rfl⟩
    have he : ∀ x, Cell.item ⟨.m j, n, d⟩ x = Cell.item ⟨.o, n, d⟩ x := fun x => by
      match n with
      | 0 => rfl
      | 1 => rfl
      | _ + 2 => rfl
    rw [show Cell.item ⟨.m j, n, d⟩ = Cell.item ⟨.o, n, d⟩ from funext he]
    exact h4
  | @l n d v L q h =>
    obtain ⟨a, vs, L', h1, h2, h3, h4, _, h6⟩ := Own.seq (Fl := Fl) (F := F) (b := .l) (Lo := []) h hd e (fun p hm => hp p (by rw [List.nil_append]; exact List.mem_append_left _ (q.subset hm))) (fun q => nomatch q) (fun _ => q) (fun q => nomatch q) (fun _ q => nomatch q)
    exact ⟨a, vs, L', h1, h2, h3, h4, by rw [h6 (fun z => nomatch z)]; exact List.Sublist.refl _⟩
  | @p n d v L q h =>
    obtain ⟨a, vs, L', h1, h2, h3, h4, _, h6⟩ := Own.seq (Fl := Fl) (F := F) (b := .p) (Lo := []) h hd e (fun p hm => hp p (by rw [List.nil_append]; exact List.mem_append_right _ (q.subset hm))) (fun q => nomatch q) (fun q => nomatch q) (fun _ => q) (fun _ q => nomatch q)
    exact ⟨a, vs, L', h1, h2, h3, h4, by rw [h6 (fun z => nomatch z)]; exact List.Sublist.refl _⟩
theorem Tmp.get : ∀ {cs : List Cell} {vs : List V} {L : Hl}, Tmp K S Fl F cs vs L → ∀ {i : Nat} {c : Cell}, cs[i]? = some c → ∃ v L', vs[i]? = some v ∧ CellOk K S Fl F c v L' ∧ L'.Sublist L
  | _, _, _, .nil, i, c, h => by simp at h
  | _, _, _, .cons a t, 0, c, h => by simp at h; subst h; exact ⟨_, _, rfl, a, List.sublist_append_left _ _⟩
  | _, _, _, .cons a t, i + 1, c, h => by
    obtain ⟨v, L', h1, h2, h3⟩ := Tmp.get t (i := i) (c := c) (by simpa using h)
    exact ⟨v, L', by simpa using h1, h2, h3.trans (List.sublist_append_right _ _)⟩
end

/-! ### targets -/
abbrev WG := Cell → Env → (Env → Prop) → Prop
abbrev WGs := List Cell → Env → (Env → Prop) → Prop
def GOk (K : PySem.W.Frag) (g : TG) (w : WG) : Prop := ∀ c ρ Q, w c ρ Q → ∀ S F A H M Lc Le σ v Q', σ.length = ρ.length → Slots K S F A ρ σ Le → CellOk K S [] F c v Lc → HRel S (M ++ (Lc ++ (Le ++ F))) H →
  (∀ ρ' σ' Le' S' H', Q ρ' → σ'.length = ρ.length → ρ'.length = ρ.length → Same S S' → Slots K S' F A ρ' σ' Le' → HRel S' (M ++ (Le' ++ F)) H' → Q' σ' H') → g v σ H Q'
def GsOk (K : PySem.W.Frag) (g : TGs) (w : WGs) : Prop := ∀ cs ρ Q, w cs ρ Q → ∀ S F A H M Lc Le σ vs Q', σ.length = ρ.length → Slots K S F A ρ σ Le → Tmp K S [] F cs vs Lc → HRel S (M ++ (Lc ++ (Le ++ F))) H →
  (∀ ρ' σ' Le' S' H', Q ρ' → σ'.length = ρ.length → ρ'.length = ρ.length → Same S S' → Slots K S' F A ρ' σ' Le' → HRel S' (M ++ (Le' ++ F)) H' → Q' σ' H') → g vs σ H Q'
structure CG (X : Cx) (e : Expr) (g : TG) (w : WG) : Prop where
  p : PG X e g
  s : GOk X.K g w
structure CGs (X : Cx) (es : List Expr) (g : TGs) (w : WGs) : Prop where
  p : PGs X es g
  s : GsOk X.K g w
def wgName (i : Nat) : WG := fun c ρ Q => i < ρ.length ∧ c.noL = true ∧ Q (ρ.set i (some c))
def wgNil : WGs := fun cs ρ Q => cs = [] ∧ Q ρ
def wgCons (w : WG) (u : WGs) : WGs := fun cs ρ Q => ∃ c r, cs = c :: r ∧ w c ρ (fun ρ' => u r ρ' Q)
def wgTup (n : Nat) (u : WGs) : WG := fun c ρ Q => ∃ ds, c.d = .tup ds ∧ ds.length = n ∧ u (ds.map c.item) ρ Q
section
variable {X : Cx}
theorem cg_name {i : Nat} {x : Str} {pos : Pos} (h : PG X (.Name x pos) (gName i)) : CG X (.Name x pos) (gName i) (wgName i) := by
  refine ⟨h, ?_⟩
  rintro c ρ Q ⟨hi, hb, q⟩ S F A H M Lc Le σ v Q' hl sl a hr k
  obtain ⟨L', s1, R, p1, p2⟩ := Slots.set a (Cell.noL_m hb) hi sl
  refine k _ _ L' S H q (by rw [List.length_set]; exact hl) (List.length_set ..) (Same.refl S) s1 ?_
  have h1 : HRel S (M ++ (Lc ++ (R ++ F))) H := hr.sub ((List.Sublist.refl M).append ((List.Sublist.refl Lc).append (p2.append (List.Sublist.refl F))))
  refine h1.perm (List.Perm.append_left M ?_)
  rw [← List.append_assoc]
  exact List.Perm.append_right _ p1.symm
theorem cgs_nil : CGs X [] gNil wgNil := by
  refine ⟨pgs_nil, ?_⟩
  rintro cs ρ Q ⟨rfl, q⟩ S F A H M Lc Le σ vs Q' hl sl a hr k
  cases a
  exact ⟨rfl, k ρ σ Le S H q hl rfl (Same.refl S) sl hr⟩
theorem cgs_cons {e : Expr} {es : List Expr} {g : TG} {gs : TGs} {w : WG} {u : WGs} (h1 : CG X e g w) (h2 : CGs X es gs u)
    (hs : (assignEach (e :: es) X.env).map (·.2) = assign e X.env :: (assignEach es X.env).map (·.2) := by rfl) : CGs X (e :: es) (gCons g gs) (wgCons w u) := by
  obtain ⟨a1, a2⟩ := h1
  obtain ⟨b1, b2⟩ := h2
  refine ⟨pgs_cons a1 b1 hs, ?_⟩
  rintro cs ρ Q ⟨c, r, rfl, q⟩ S F A H M Lc Le σ vs Q' hl sl a hr k
  cases a with
  | @cons _ _ v vs' L1 L2 s1 s2 =>
    refine ⟨_, _, rfl, a2 c ρ _ q S F A H (M ++ L2) L1 Le σ v _ hl sl s1 (hr.perm ?_) fun ρ1 σ1 Le1 S1 H1 q1 l1 l2 e1 sl1 hr1 => ?_⟩
    · simpa only [List.append_assoc] using List.Perm.append_left M (List.Perm.append_right (Le ++ F) (List.perm_append_comm (l₁ := L1) (l₂ := L2)))
    · refine b2 r ρ1 Q q1 S1 F A H1 M L2 Le1 σ1 vs' Q' (l1.trans l2.symm) sl1 (s2.ex e1) (by rw [← List.append_assoc]; exact hr1) fun ρ2 σ2 Le2 S2 H2 q2 m1 m2 e2 sl2 hr2 => k ρ2 σ2 Le2 S2 H2 q2 (m1.trans l2) (m2.trans l2) (e1.trans e2) sl2 hr2
theorem cg_tup {es : List Expr} {k : Nat} {n : Nat} {pos : Pos} {gs : TGs} {u : WGs} (h : CGs X es gs u) (hc : X.calm = true)
    (hn : (assignEach es X.env).length = n := by rfl) (hst : (assignEach es X.env).findIdx? (·.1) = none := by rfl) : CG X (.Tuple es k pos) (gTup X.K n gs) (wgTup n u) := by
  obtain ⟨a1, a2⟩ := h
  refine ⟨pg_tup hc a1 hn hst, ?_⟩
  rintro c ρ Q ⟨ds, hd, hlen, q⟩ S F A H M Lc Le σ v Q' hl sl a hr k
  have hall : ∀ p ∈ Lc ++ ([] ++ F), H p.1 = some p.2 := fun p hp => hr.all p (by
    rw [List.nil_append] at hp
    rcases List.mem_append.mp hp with hp | hp
    · exact List.mem_append_right _ (List.mem_append_left _ hp)
    · exact List.mem_append_right _ (List.mem_append_right _ (List.mem_append_right _ hp)))
  obtain ⟨ad, vs, L', hv, hq, hl2, ht, hs⟩ := a.seq (ds := ds) (by rw [hd]; rfl) hr.sh hall
  rw [hd] at hq
  refine ⟨ad, vs, hv, hq, hl2.trans hlen, ?_⟩
  exact a2 _ ρ Q q S F A H M L' Le σ vs Q' hl sl ht (hr.sub ((List.Sublist.refl M).append (hs.append (List.Sublist.refl _)))) k
end

/-! ### assignments -/
def wAsg (we : WE) (g : WG) : WS := fun D ρ => we ρ (fun c => c.noL = true ∧ g c ρ D.nx) (D.x ρ)
section
variable {X : Cx} {W : WX} {e tg : Expr} {te : TE} {gt : TG} {we : WE} {g : WG} {pos : Pos}
theorem asg_sound {K : PySem.W.Frag} {mg : Str → Option Value} {t : TE} {gt : TG} (a2 : ExprOk K mg W t we) (b2 : GOk K gt g) : StmtOk K mg W (tAsg t gt) (wAsg we g) := by
  intro D ρ hw S F A H σ De hl r en
  refine expr_at a2 hw hl r (fun c v S' H' Le q e sl r1 => ?_) (en.xs hl)
  obtain ⟨hb, q⟩ := q
  obtain ⟨L, t, hr⟩ := r1
  cases t with
  | cons a t0 =>
    cases t0
    rename_i L1
    rw [List.append_nil] at hr
    exact b2 c ρ D.nx q S' F A H' [] L1 Le σ v _ hl sl (a.lf (Cell.noL_ne hb)) hr fun ρ' σ' Le' S2 H2 q' l1 l2 e2 sl' hr' => en.nx ρ' σ' S2 H2 q' l1 l2 (e.trans e2) ⟨Le', sl', hr'⟩
theorem cs_asg (he : CE X W e te we) (hg : CG X tg gt g) (hs : swapsWithSole [tg] e pos.line X.env = pure false := by rfl) (hw : swappedStores [tg] e X.env = pure none := by rfl)
    (h1 : (assignEach [tg] X.env).map (·.2) = [assign tg X.env] := by rfl) : CS X W (.Assign [tg] e pos) (tAsg te gt) (wAsg we g) := by
  obtain ⟨a1, a2⟩ := he
  obtain ⟨b1, b2⟩ := hg
  exact ⟨ps_asg a1 b1 hs hw h1, asg_sound a2 b2⟩
/-- a statement whose reading stands already -/
theorem cs_set {i : Nat} {st : Stmt} (a2 : ExprOk X.K X.mg W te we) (h : PS X st (tAsg te (gName i))) : CS X W st (tAsg te (gName i)) (wAsg we (wgName i)) := by
  refine ⟨h, asg_sound a2 ?_⟩
  rintro c ρ Q ⟨hi, hb, q⟩ S F A H M Lc Le σ v Q' hl sl a hr k
  obtain ⟨L', s1, R, p1, p2⟩ := Slots.set a (Cell.noL_m hb) hi sl
  refine k _ _ L' S H q (by rw [List.length_set]; exact hl) (List.length_set ..) (Same.refl S) s1 ?_
  have h1 : HRel S (M ++ (Lc ++ (R ++ F))) H := hr.sub ((List.Sublist.refl M).append ((List.Sublist.refl Lc).append (p2.append (List.Sublist.refl F))))
  refine h1.perm (List.Perm.append_left M ?_)
  rw [← List.append_assoc]
  exact List.Perm.append_right _ p1.symm
end
end VL
set_option maxRecDepth 100000
/-! VF: what is changed in place: receivers, mutators, stores; freezing. -/
namespace VL
open PySem L2
variable [TB : Tbs]

theorem perm_abc {α : Type} (A B C : List α) : (A ++ (B ++ C)).Perm (B ++ (A ++ C)) := by
  rw [← List.append_assoc, ← List.append_assoc]
  exact List.Perm.append_right _ List.perm_append_comm
abbrev WEf := Env → (Cell → Env → Prop) → XQ → Prop
def EffOk (K : PySem.W.Frag) (mg : Str → Option Value) (W : WX) (t : TE) (w : WEf) : Prop := ∀ ρ Q X, w ρ Q X → ∀ S F A H σ Le Q', σ.length = ρ.length → Slots K S F A ρ σ Le → HRel S (Le ++ F) H →
  (∀ c ρ' v S' H' Le' Lc, Q c ρ' → Same S S' → ρ'.length = ρ.length → Slots K S' F A ρ' σ Le' → CellOk K S' [] F c v Lc → HRel S' (Lc ++ (Le' ++ F)) H' → Q' v H') →
  (∀ x cls d S' H', X x → Same S S' → ExnOk K mg S' x cls d → SRel K S' F A H' ρ σ → W cls d σ H') → t σ H Q'
structure CEf (X : Cx) (W : WX) (e : Expr) (t : TE) (w : WEf) : Prop where
  p : PE X e t
  s : EffOk X.K X.mg W t w
def wAsgE (we : WEf) (g : WG) : WS := fun D ρ => we ρ (fun c ρ' => g c ρ' D.nx) (D.x ρ)
def wDropE (we : WEf) : WS := fun D ρ => we ρ (fun _ ρ' => D.nx ρ') (D.x ρ)
section
variable {X : Cx} {W : WX} {e tg : Expr} {te : TE} {gt : TG} {we : WEf} {g : WG} {pos : Pos}
theorem asgE_sound {K : PySem.W.Frag} {mg : Str → Option Value} {t : TE} {gt : TG} (a2 : EffOk K mg W t we) (b2 : GOk K gt g) : StmtOk K mg W (tAsg t gt) (wAsgE we g) := by
  intro D ρ hw S F A H σ De hl r en
  obtain ⟨Le, sl, hr⟩ := r
  refine a2 ρ _ _ hw S F A H σ Le _ hl sl hr (fun c ρ' v S' H' Le' Lc q e hl' sl' a hr' => ?_) (en.xs hl)
  exact b2 c ρ' D.nx q S' F A H' [] Lc Le' σ v _ (hl.trans hl'.symm) sl' a hr' fun ρ2 σ2 Le2 S2 H2 q2 l1 l2 e2 sl2 hr2 => en.nx ρ2 σ2 S2 H2 q2 (l1.trans hl') (l2.trans hl') (e.trans e2) ⟨Le2, sl2, hr2⟩
theorem cs_asgE (he : CEf X W e te we) (hg : CG X tg gt g) (hs : swapsWithSole [tg] e pos.line X.env = pure false := by rfl) (hw : swappedStores [tg] e X.env = pure none := by rfl)
    (h1 : (assignEach [tg] X.env).map (·.2) = [assign tg X.env] := by rfl) : CS X W (.Assign [tg] e pos) (tAsg te gt) (wAsgE we g) := by
  obtain ⟨a1, a2⟩ := he
  obtain ⟨b1, b2⟩ := hg
  exact ⟨ps_asg a1 b1 hs hw h1, asgE_sound a2 b2⟩
theorem cs_exprE (he : CEf X W e te we) (hs : swapsWith e none pos.line X.env = pure false := by rfl) : CS X W (.Expr e pos) (tDrop te) (wDropE we) := by
  obtain ⟨a1, a2⟩ := he
  refine ⟨ps_expr a1 hs, ?_⟩
  intro D ρ hw S F A H σ De hl r en
  obtain ⟨Le, sl, hr⟩ := r
  refine a2 ρ _ _ hw S F A H σ Le _ hl sl hr (fun c ρ' v S' H' Le' Lc q e hl' sl' a hr' => ?_) (en.xs hl)
  exact en.nx ρ' σ S' H' q (hl.trans hl'.symm |>.trans hl') hl' e ⟨Le', sl', hr'.sub (List.sublist_append_right _ _)⟩
end

/-! ### receivers: a private container, seen through its slot -/
abbrev WR := Env → (Nat → D → (D → Env) → Prop) → XQ → Prop
def RecvOk (K : PySem.W.Frag) (mg : Str → Option Value) (W : WX) (t : TE) (w : WR) : Prop := ∀ ρ Q X, w ρ Q X → ∀ S F A H σ Le tc tv Q', Slots K S F A ρ σ Le → Rel K S Le F H tc tv →
  (∀ m e rb b S' H' Lf R, Q m e rb → Same S S' → Rel K S' Le F H' tc tv → Le.Perm (Lf ++ R) → Own K S' m (.ref b) e Lf → (∀ e', (rb e').length = ρ.length) →
    (∀ S'' e' Lf', Same S' S'' → Own K S'' m (.ref b) e' Lf' → ∃ Le', Slots K S'' F A (rb e') σ Le' ∧ Le'.Perm (Lf' ++ R)) → Q' (.ref b) H') →
  XW K mg W S (Le ++ F) σ X → t σ H Q'
structure CR (X : Cx) (W : WX) (e : Expr) (t : TE) (w : WR) : Prop where
  p : PE X e t
  s : RecvOk X.K X.mg W t w
def D.cont : D → Bool
  | .lst _ => true | .dK _ => true | .dT _ => true | _ => false
def Bm.mut : Bm → Bool
  | .o => true | .m _ => true | _ => false
def wrVar (i : Nat) : WR := fun ρ Q _ => ∃ b n d, ρ[i]? = some (some ⟨b, n + 1, d⟩) ∧ b.mut = true ∧ d.cont = true ∧ Q (n + 1) d (fun d' => ρ.set i (some ⟨b, n + 1, d'⟩))
def wrIx (wr : WR) (wk : WE) : WR := fun ρ Q X => wr ρ (fun m e rb => ∃ n ds, m = n + 2 ∧ e = .lst ds ∧ wk ρ (fun ck => ∃ z j d, ck.d = .int z ∧ ixN ds.length z = some j ∧ ds[j]? = some d ∧ d.cont = true ∧
  Q (n + 1) d (fun d' => rb (.lst (ds.set j d')))) X) X
section
variable {K : PySem.W.Frag} {S S' : Hp} {F : Hl} {A : Nat → V} {H : Hp}
/-- the i-th slot's cell taken out, to be put back -/
theorem Slots.take {ρ : Env} {c : Cell} : ∀ {σ : St} {L : Hl} {i : Nat}, ρ[i]? = some (some c) → Slots K S F A ρ σ L → ∃ v Lf R, σ[i]? = some (some v) ∧ CellOk K S [] F c v Lf ∧ (∀ j, c.b = .m j → v = A j) ∧ L.Perm (Lf ++ R) ∧
    ∀ S' c' Lf', Same S S' → CellOk K S' [] F c' v Lf' → (∀ j, c'.b = .m j → v = A j) → ∃ L', Slots K S' F A (ρ.set i (some c')) σ L' ∧ L'.Perm (Lf' ++ R) := by
  intro σ L i hi h
  induction h generalizing i with
  | nil => simp at hi
  | no t ih =>
    cases i with
    | zero => simp at hi
    | succ i =>
      obtain ⟨v, Lf, R, h1, h2, hg, h3, h4⟩ := ih (i := i) (by simpa using hi)
      refine ⟨v, Lf, R, by simpa using h1, h2, hg, h3, fun S' c' Lf' e q g => ?_⟩
      obtain ⟨L', a, b⟩ := h4 S' c' Lf' e q g
      exact ⟨L', .no a, b⟩
  | @yes c0 cs v0 vs L1 L2 b gb t ih =>
    cases i with
    | zero =>
      simp at hi
      subst hi
      exact ⟨v0, L1, L2, rfl, b, gb, List.Perm.refl _, fun S' c' Lf' e q g => ⟨_, .yes q g (t.ex e), List.Perm.refl _⟩⟩
    | succ i =>
      obtain ⟨v, Lf, R, h1, h2, hg, h3, h4⟩ := ih (i := i) (by simpa using hi)
      refine ⟨v, Lf, L1 ++ R, by simpa using h1, h2, hg, ?_, fun S' c' Lf' e q g => ?_⟩
      · refine (h3.append_left L1).trans ?_
        rw [← List.append_assoc, ← List.append_assoc]
        exact List.Perm.append_right _ List.perm_append_comm
      · obtain ⟨L', a, p⟩ := h4 S' c' Lf' e q g
        refine ⟨_, .yes (b.ex e) gb a, (p.append_left L1).trans ?_⟩
        rw [← List.append_assoc, ← List.append_assoc]
        exact List.Perm.append_right _ List.perm_append_comm
theorem OwnA.take {n : Nat} : ∀ {vs : List V} {ds : List D} {L : Hl} {j : Nat} {d : D}, ds[j]? = some d → OwnA K S n vs ds L → ∃ v Lf R, vs[j]? = some v ∧ Own K S n v d Lf ∧ L.Perm (Lf ++ R) ∧
    ∀ S' d' Lf', Same S S' → Own K S' n v d' Lf' → ∃ L', OwnA K S' n vs (ds.set j d') L' ∧ L'.Perm (Lf' ++ R)
  | _, _, _, j, d, h, .nil => by simp at h
  | v :: vs, d0 :: ds, _, 0, d, h, .cons (L1 := L1) (L2 := L2) a t => by
    simp at h; subst h
    exact ⟨v, L1, L2, rfl, a, List.Perm.refl _, fun S' d' Lf' e q => ⟨_, .cons q (t.ex e), List.Perm.refl _⟩⟩
  | v :: vs, d0 :: ds, _, j + 1, d, h, .cons (L1 := L1) (L2 := L2) a t => by
    obtain ⟨v', Lf, R, h1, h2, h3, h4⟩ := OwnA.take (j := j) (d := d) (by simpa using h) t
    refine ⟨v', Lf, L1 ++ R, by simpa using h1, h2, ?_, fun S' d' Lf' e q => ?_⟩
    · refine (h3.append_left L1).trans ?_
      rw [← List.append_assoc, ← List.append_assoc]
      exact List.Perm.append_right _ List.perm_append_comm
    · obtain ⟨L', x, p⟩ := h4 S' d' Lf' e q
      refine ⟨_, .cons (a.ex e) x, (p.append_left L1).trans ?_⟩
      rw [← List.append_assoc, ← List.append_assoc]
      exact List.Perm.append_right _ List.perm_append_comm
theorem Own.cref {n : Nat} {v : V} {d : D} {L : Hl} (h : Own K S n v d L) (q : d.cont = true) : ∃ b, v = .ref b := by
  cases h with
  | sh h => cases h with
    | lst _ _ => exact ⟨_, rfl⟩
    | dK _ _ => exact ⟨_, rfl⟩
    | dT _ _ => exact ⟨_, rfl⟩
    | _ => cases q
  | lst _ _ => exact ⟨_, rfl⟩
  | dK _ => exact ⟨_, rfl⟩
  | dT _ => exact ⟨_, rfl⟩
  | _ => cases q
end
section
variable {X : Cx} {W : WX} {a b : Expr} {ta tk : TE} {wr : WR} {wk : WE} {pos : Pos}
theorem cr_var (i : Nat) {x : Str} (h : PE X (.Name x pos) (tVar i)) : CR X W (.Name x pos) (tVar i) (wrVar i) := by
  refine ⟨h, ?_⟩
  rintro ρ Q XQ ⟨bm, n, d, hi, hb, hc, q⟩ S F A H σ Le tc tv Q' sl r k kx
  obtain ⟨v, Lf, R, h1, h2, hg, h3, h4⟩ := sl.take hi
  cases h2 with
  | o h2 =>
    obtain ⟨b, rfl⟩ := h2.cref hc
    exact ⟨_, h1, k _ _ _ b S H Lf R q (Same.refl S) r h3 h2 (fun _ => List.length_set ..) fun S'' e' Lf' e q' => h4 S'' _ Lf' e (.o q') (fun j z => nomatch z)⟩
  | m h2 =>
    obtain ⟨b, rfl⟩ := h2.cref hc
    exact ⟨_, h1, k _ _ _ b S H Lf R q (Same.refl S) r h3 h2 (fun _ => List.length_set ..) fun S'' e' Lf' e q' => h4 S'' _ Lf' e (.m q') hg⟩
  | l _ _ => cases hb
  | p _ _ => cases hb
theorem cr_ix (hr : CR X W a ta wr) (hk : CE X W b tk wk) (hs : PlainIx b) : CR X W (.Subscript a b pos) (tOp (rIxL X.K) ta tk) (wrIx wr wk) := by
  obtain ⟨b1, b2⟩ := hk
  obtain ⟨a1, a2⟩ := hr
  refine ⟨pe_ix ix_list a1 b1 hs, ?_⟩
  intro ρ Q XQ w S F A H σ Le tc tv Q' sl r k kx
  refine a2 ρ _ XQ w S F A H σ Le tc tv _ sl r (fun m e rb ad S0 H0 Lf R q e0 r0 h3 h2 hln h4 => ?_) kx
  obtain ⟨n, ds, rfl, rfl, q⟩ := q
  cases h2 with
  | @lst _ _ vs _ L1 hz h2 =>
    refine b2 ρ _ XQ q S0 Le F H0 σ tc tv _ ((sl.ex e0).view (List.Sublist.refl _)) r0 (fun ck vk S1 H1 q1 e1 r1 => ?_) (kx.ex e0)
    obtain ⟨z, j, d, ez, ej, hj, hc, q1⟩ := q1
    have hv := r1.sh
    rw [ez] at hv
    obtain ⟨v', Lf2, R2, g1, g2, g3, g4⟩ := h2.take hj
    obtain ⟨b', rfl⟩ := g2.cref hc
    have hall := r1.base.all
    have hm : (ad, HO.lst vs) ∈ Le := h3.mem_iff.mpr (List.mem_append_left _ List.mem_cons_self)
    refine ⟨ad, vs, z, .ref b', rfl, hv.intE, SqL.of (hall _ (List.mem_append_left _ hm)), ?_, ?_⟩
    · unfold atI
      rw [h2.length, ej]
      exact g1
    · refine k _ _ _ b' S1 H1 Lf2 ((ad, HO.lst vs) :: (R2 ++ R)) q1 (e0.trans e1) r1.tail ?_ (g2.ex e1) (fun _ => hln _) fun S'' e' Lf' e q' => ?_
      · refine h3.trans ?_
        refine (List.Perm.cons _ (g3.append_right R)).trans ?_
        rw [List.append_assoc]
        exact List.perm_middle.symm
      · obtain ⟨L', x1, x2⟩ := g4 S'' e' Lf' (e1.trans e) q'
        obtain ⟨Le', y1, y2⟩ := h4 S'' _ _ (e1.trans e) (.lst hz x1)
        refine ⟨Le', y1, y2.trans ?_⟩
        refine (List.Perm.cons _ (x2.append_right R)).trans ?_
        rw [List.append_assoc]
        exact List.perm_middle.symm
end

/-! ### mutators: methods of containers -/
abbrev WM := Nat → D → List Cell → (Cell → D → Prop) → Prop
def MutOk (K : PySem.W.Frag) (r : V → List V → Hp → VK → Prop) (wm : WM) : Prop := ∀ m e cs Q, wm m e cs Q → ∀ S Fl F R H b Lf vs La Q', Own K S (m + 1) (.ref b) e Lf → Tmp K S Fl F cs vs La → HRel S (Lf ++ (La ++ R)) H →
  (∀ c v e' S' H' Lf' Lc, Q c e' → Same S S' → Own K S' (m + 1) (.ref b) e' Lf' → CellOk K S' [] F c v Lc → HRel S' (Lf' ++ (Lc ++ R)) H' → Q' v H') → r (.ref b) vs H Q'
def D.ty : D → String
  | .lst _ => "list" | .tup _ => "tuple" | .dK _ => "dict" | .dT _ => "dict" | .str _ => "str" | .int _ => "int" | .bl _ => "bool" | .non => "NoneType" | .exn _ _ => "exn" | .dF _ => "dict" | .obj _ _ => "obj" | .pob _ _ => "obj" | .clo _ _ => "function"
def wMut (T : String) (wr : WR) (ws : WA) (wm : WM) : WEf := fun ρ Q X => wr ρ (fun m e rb => ∃ n, m = n + 1 ∧ e.ty = T ∧ e.cont = true ∧ ws ρ (fun cs => wm n e cs (fun c e' => Q c (rb e'))) X) X
def wMut0 (T : String) (wr : WR) (wm : WM) : WEf := fun ρ Q X => wr ρ (fun m e rb => ∃ n, m = n + 1 ∧ e.ty = T ∧ e.cont = true ∧ wm n e [] (fun c e' => Q c (rb e'))) X
section
variable {K : PySem.W.Frag} {mg : Str → Option Value} {W : WX} {S : Hp}
theorem Own.tyV {m : Nat} {b : Addr} {e : D} {Lf : Hl} {H : Hp} (h : Own K S m (.ref b) e Lf) (hm : m ≠ 0) (hc : e.cont = true) (hp : ∀ p ∈ Lf, H p.1 = some p.2) : tyV K e.ty (.ref b) H := by
  cases h with
  | sh => exact absurd rfl hm
  | lst _ _ => exact Or.inl ⟨rfl, _, SqL.of (hp _ List.mem_cons_self)⟩
  | dK _ => exact Or.inr (Or.inr (Or.inl ⟨rfl, Or.inl ⟨_, hp _ List.mem_cons_self⟩⟩))
  | dT _ => exact Or.inr (Or.inr (Or.inl ⟨rfl, Or.inr ⟨_, hp _ List.mem_cons_self⟩⟩))
  | tup _ => cases hc
  | obj _ _ => cases hc
  | pob _ _ _ => cases hc
  | clo _ _ _ _ _ _ _ => cases hc
theorem mut_sound {T : String} {r : V → List V → Hp → VK → Prop} {to : TE} {ta : TA} {wr : WR} {ws : WA} {wm : WM} (hr : RecvOk K mg W to wr) (ha : ArgsOk K mg W ta ws) (hm : MutOk K r wm) :
    EffOk K mg W (tBM K T r to ta) (wMut T wr ws wm) := by
  intro ρ Q XQ w S F A H σ Le Q' hl sl hr0 k kx
  refine hr ρ _ XQ w S F A H σ Le [] [] _ sl ⟨[], .nil, hr0⟩ (fun m e rb b S1 H1 Lf R q e1 r1 p1 o1 hln cl => ?_) (fun x cls d S' H' hx e ex hr1 => kx x cls d S' H' hx e ex ⟨Le, sl.ex e, hr1⟩)
  obtain ⟨m, rfl, ht, hc, q⟩ := q
  refine ⟨by rw [← ht]; exact o1.tyV (Nat.succ_ne_zero _) hc fun p hp => r1.base.all p (List.mem_append_left _ (p1.mem_iff.mpr (List.mem_append_left _ hp))), ?_⟩
  refine ha ρ _ XQ q S1 Le F H1 σ [] [] _ ((sl.ex e1).view (List.Sublist.refl _)) r1 (fun cs vs S2 H2 q2 hlen e2 r2 => ?_) (fun x cls d S' H' hx e ex hr1 => kx x cls d S' H' hx (e1.trans e) ex ⟨Le, sl.ex (e1.trans e), hr1⟩)
  rw [List.append_nil, List.append_nil] at r2
  obtain ⟨La, t2, hr2⟩ := r2
  refine hm m e cs _ q2 S2 Le F (R ++ F) H2 b Lf vs La Q' (o1.ex e2) t2 (hr2.perm ?_) fun c v e' S3 H3 Lf' Lc q3 e3 o3 c3 hr3 => ?_
  · refine (List.Perm.append_left La (p1.append_right F)).trans ?_
    rw [List.append_assoc]
    exact perm_abc _ _ _
  · obtain ⟨Le', s3, p3⟩ := cl S3 e' Lf' (e2.trans e3) o3
    refine k c (rb e') v S3 H3 Le' Lc q3 ((e1.trans e2).trans e3) (hln e') s3 c3 (hr3.perm ?_)
    refine List.Perm.trans ?_ (List.Perm.append_left Lc (p3.symm.append_right F))
    rw [List.append_assoc]
    exact perm_abc _ _ _
theorem mut0_sound {T : String} {r : V → List V → Hp → VK → Prop} {to : TE} {wr : WR} {wm : WM} (hr : RecvOk K mg W to wr) (hm : MutOk K r wm) : EffOk K mg W (tBM0 K T r to) (wMut0 T wr wm) := by
  intro ρ Q XQ w S F A H σ Le Q' hl sl hr0 k kx
  refine hr ρ _ XQ w S F A H σ Le [] [] _ sl ⟨[], .nil, hr0⟩ (fun m e rb b S1 H1 Lf R q e1 r1 p1 o1 hln cl => ?_) (fun x cls d S' H' hx e ex hr1 => kx x cls d S' H' hx e ex ⟨Le, sl.ex e, hr1⟩)
  obtain ⟨m, rfl, ht, hc, q⟩ := q
  refine ⟨by rw [← ht]; exact o1.tyV (Nat.succ_ne_zero _) hc fun p hp => r1.base.all p (List.mem_append_left _ (p1.mem_iff.mpr (List.mem_append_left _ hp))), ?_⟩
  refine hm m e [] _ q S1 Le F (R ++ F) H1 b Lf [] [] Q' o1 .nil (r1.base.perm ?_) fun c v e' S3 H3 Lf' Lc q3 e3 o3 c3 hr3 => ?_
  · rw [List.nil_append, ← List.append_assoc]
    exact p1.append_right F
  · obtain ⟨Le', s3, p3⟩ := cl S3 e' Lf' e3 o3
    refine k c (rb e') v S3 H3 Le' Lc q3 (e1.trans e3) (hln e') s3 c3 (hr3.perm ?_)
    refine List.Perm.trans ?_ (List.Perm.append_left Lc (p3.symm.append_right F))
    rw [List.append_assoc]
    exact perm_abc _ _ _
end
def mAppend : WM := fun m e cs Q => ∃ ds c, e = .lst ds ∧ cs = [c] ∧ ds.length < sizeLine ∧ c.fits m = true ∧ Q (sh .non) (.lst (ds ++ [c.d]))
theorem ok_append {K : PySem.W.Frag} : MutOk K rAppend mAppend := by
  rintro m e cs Q ⟨ds, c, rfl, rfl, hz, hf, q⟩ S Fl F R H b Lf vs La Q' o t hr k
  cases t with
  | @cons _ _ v vs' L1 L2 a t0 =>
    cases t0
    rw [List.append_nil] at hr
    cases o with
    | @lst n ad ws ds' L hz' h =>
      have hm := hr.all (b, .lst ws) (List.mem_append_left _ List.mem_cons_self)
      obtain ⟨S', L', e1, o1, hr1⟩ := store1 (M := (b, HO.lst ws) :: L) a hr hf
      refine ⟨b, ws, v, rfl, rfl, hm, by rw [h.length]; exact hz, ?_⟩
      refine k _ .non _ S' _ ((b, HO.lst (ws ++ [v])) :: (L ++ (L' ++ []))) [] q e1 (.lst (by rw [List.length_append, h.length]; exact hz) ((h.ex e1).append (.cons o1 .nil))) (.o (.sh .non)) ?_
      have := hr1.put (o' := .lst (ws ++ [v]))
      simpa [List.append_assoc] using this
end VL
set_option maxRecDepth 100000
/-! VG: what is walked, for, while, list comprehensions; freezing a slot. -/
namespace VL
open PySem L2
variable [TB : Tbs]

/-- slots that are forgotten -/
def wipeE (ρ : Env) : List Nat → Env
  | [] => ρ
  | v :: vs => (wipeE ρ vs).set v none
theorem wipeE_len {ρ : Env} : ∀ vs : List Nat, (wipeE ρ vs).length = ρ.length
  | [] => rfl
  | v :: vs => by rw [wipeE, List.length_set, wipeE_len vs]
theorem Slots.wipe {K : PySem.W.Frag} {S : Hp} {F : Hl} {A : Nat → V} {ρ : Env} {σ : St} {L : Hl} (h : Slots K S F A ρ σ L) : ∀ vs : List Nat, ∃ L', Slots K S F A (wipeE ρ vs) σ L' ∧ L'.Sublist L
  | [] => ⟨L, h, List.Sublist.refl _⟩
  | v :: vs => by
    obtain ⟨L1, h1, h2⟩ := Slots.wipe h vs
    obtain ⟨L2, h3, h4⟩ := h1.drop (i := v)
    exact ⟨L2, h3, h4.trans h2⟩
theorem SRel.wipe {K : PySem.W.Frag} {S : Hp} {F : Hl} {A : Nat → V} {H : Hp} {ρ : Env} {σ : St} (h : SRel K S F A H ρ σ) (vs : List Nat) : SRel K S F A H (wipeE ρ vs) σ := by
  obtain ⟨L, sl, hr⟩ := h
  obtain ⟨L', s1, s2⟩ := sl.wipe vs
  exact ⟨L', s1, hr.sub (s2.append (List.Sublist.refl F))⟩
def Cell.frz : Cell → Cell
  | ⟨.o, _, d⟩ => sh d
  | ⟨.m _, _, d⟩ => sh d
  | ⟨_, 0, d⟩ => sh d
  | c => c
theorem Cell.frz_d (c : Cell) : c.frz.d = c.d := by
  obtain ⟨b, n, d⟩ := c
  cases b <;> cases n <;> rfl
section
variable {K : PySem.W.Frag} {S S' : Hp} {Fl F : Hl} {H : Hp} {c : Cell} {v : V} {cs : List Cell} {vs : List V}
theorem CellOk.frz {M R : Hl} {L : Hl} (h : CellOk K S Fl F c v L) (r : HRel S (M ++ (L ++ R)) H) : ∃ S', Same S S' ∧ CellOk K S' Fl F c.frz v [] ∧ HRel S' (M ++ R) H := by
  obtain ⟨b, n, d⟩ := c
  cases b with
  | o =>
    obtain ⟨S', L', e, o, r'⟩ := store1 (n := 0) h r (by simp [Cell.fits])
    cases o with
    | sh o => exact ⟨S', e, .o (.sh o), by simpa using r'⟩
  | l =>
    cases n with
    | zero => obtain ⟨a, rfl⟩ := h.zero; exact ⟨S, Same.refl S, .o (.sh a), by simpa using r⟩
    | succ n => cases h with | l q h => exact ⟨S, Same.refl S, .l q h, by simpa using r⟩
  | p =>
    cases n with
    | zero => obtain ⟨a, rfl⟩ := h.zero; exact ⟨S, Same.refl S, .o (.sh a), by simpa using r⟩
    | succ n => cases h with | p q h => exact ⟨S, Same.refl S, .p q h, by simpa using r⟩
  | m j =>
    obtain ⟨S', L', e, o, r'⟩ := store1 (n := 0) h r (by simp [Cell.fits])
    cases o with
    | sh o => exact ⟨S', e, .o (.sh o), by simpa using r'⟩
theorem Rel.frz (r : Rel K S Fl F H (c :: cs) (v :: vs)) : ∃ S', Same S S' ∧ Rel K S' Fl F H cs vs ∧ CellOk K S' Fl F c.frz v [] := by
  obtain ⟨L, t, hr⟩ := r
  cases t with
  | cons a t0 =>
    rw [List.append_assoc] at hr
    obtain ⟨S', e, q, hr'⟩ := a.frz (M := []) hr
    exact ⟨S', e, ⟨_, t0.ex e, hr'⟩, q⟩
end

/-! ### what is walked -/
def WalkV (K : PySem.W.Frag) (S0 : Hp) (J : It) (cs : List Cell) (vs : List V) (xs : List Cell) : Prop := ∀ (i : Nat) S Fl F M H, Same S0 S → Tmp K S Fl F cs vs [] → HRel S (M ++ (Fl ++ F)) H →
  (i < xs.length → J.go i H) ∧ (xs.length ≤ i → J.stop i H) ∧ (i < xs.length → ∀ x H', J.yld i H x H' → ∃ c S', xs[i]? = some c ∧ Same S S' ∧ HRel S' (M ++ (Fl ++ F)) H' ∧ CellOk K S' Fl F c x [])
abbrev WI := Env → (List Cell → List Cell → Prop) → XQ → Prop
def IterOk (K : PySem.W.Frag) (mg : Str → Option Value) (W : WX) (t : TI) (w : WI) : Prop := ∀ ρ Q X, w ρ Q X → ∀ S Fl F H σ tc tv R', EnvV K S Fl F ρ σ → Rel K S Fl F H tc tv →
  (∀ cs vs xs J S' H', Q cs xs → Same S S' → Rel K S' Fl F H' tc tv → Tmp K S' Fl F cs vs [] → WalkV K S' J cs vs xs → R' J H') → XW K mg W S (Fl ++ F) σ X → t σ H R'
structure CI (X : Cx) (W : WX) (tg e : Expr) (t : TI) (w : WI) : Prop where
  p : PI X tg e t
  s : IterOk X.K X.mg W t w
/-- a list or a tuple -/
def iSeq (K : PySem.W.Frag) (tl : TE) : TI := fun σ H R => tl σ H fun x H1 => ∃ a, x = .ref a ∧ (((∃ xs, SqL K H1 a xs) ∧ R (Itl K a) H1) ∨ ((∃ xs, SqT K H1 a xs) ∧ R (Itt K a) H1))
theorem pi_seq {X : Cx} {tg l : Expr} {tl : TE} (hl : PE X l tl) : PI X tg l (iSeq X.K tl) := by
  refine ⟨fun pins s σ H R I h => ?_⟩
  refine thn (hl.run pins s σ H _ I h) fun v s1 ⟨x, H1, I1, r1, q1⟩ => ?_
  obtain ⟨a, e, ⟨⟨xs, hq⟩, q⟩ | ⟨⟨xs, hq⟩, q⟩⟩ := q1
  · subst e
    cases r1
    obtain ⟨its, rv, p, hz⟩ := I1.list hq
    refine wpAny_pyIter_list p.isList ?_
    refine ⟨s1.heap.objs.size, [s1.heap.objs.size], _, _, H1, rfl, I1.kept (t' := s1.toks) fun b o e => Heap.get?_push_of_some _ e, turn_list a _, ⟨_, Heap.get?_push_size _ rfl, rfl, rfl⟩, fun b hb => ?_, q⟩
    have e : b = s1.heap.objs.size := by simpa using hb
    subst e
    exact I1.fpOk (Nat.le_refl _) (I1.hok.fresh (Nat.le_refl _))
  · subst e
    cases r1
    obtain ⟨its, rv, p, hz⟩ := I1.tuple hq
    refine wpAny_pyIter_tuple (show s1.heap.IsTuple a its.toArray from p) ?_
    refine ⟨s1.heap.objs.size, [s1.heap.objs.size], _, _, H1, rfl, I1.kept (t' := s1.toks) fun b o e => Heap.get?_push_of_some _ e, turn_tuple a _, ⟨_, Heap.get?_push_size _ rfl, rfl, rfl⟩, fun b hb => ?_, q⟩
    have e : b = s1.heap.objs.size := by simpa using hb
    subst e
    exact I1.fpOk (Nat.le_refl _) (I1.hok.fresh (Nat.le_refl _))
theorem Tmp.one {K : PySem.W.Frag} {S : Hp} {Fl F : Hl} {c : Cell} {v : V} {L : Hl} (t : Tmp K S Fl F [c] [v] L) : CellOk K S Fl F c v L := by
  cases t with
  | cons a t0 => cases t0; rw [List.append_nil]; exact a
theorem walk_seqL {K : PySem.W.Frag} {S0 : Hp} {a : Addr} {c : Cell} {ds : List D} (hd : c.d = .lst ds) : WalkV K S0 (Itl K a) [c] [.ref a] (ds.map c.item) := by
  intro i S Fl F M H _ t hr
  have q := t.one
  obtain ⟨a', vs, L', h1, h2, h3, h4, h5⟩ := q.seq (ds := ds) (H := H) (by rw [hd]; rfl) hr.sh (fun p hp => hr.all p (List.mem_append_right _ hp))
  cases h1
  rw [hd] at h2
  have e2 : L' = [] := List.sublist_nil.mp h5
  subst e2
  rw [List.length_map]
  refine ⟨fun hi => ?_, fun hi => ⟨vs, h2, by omega⟩, fun hi x H' hy => ?_⟩
  · have : i < vs.length := by omega
    exact ⟨vs, vs[i], h2, List.getElem?_eq_getElem this⟩
  · obtain ⟨rfl, hy⟩ := hy
    have hx := hy vs h2
    have hi' : i < (ds.map c.item).length := by rw [List.length_map]; exact hi
    obtain ⟨v', L2', g1, g2, g3⟩ := h4.get (i := i) (List.getElem?_eq_getElem hi')
    rw [hx] at g1; cases g1
    cases List.sublist_nil.mp g3
    exact ⟨_, S, List.getElem?_eq_getElem hi', Same.refl S, hr, g2⟩
theorem walk_seqT {K : PySem.W.Frag} {S0 : Hp} {a : Addr} {c : Cell} {ds : List D} (hd : c.d = .tup ds) : WalkV K S0 (Itt K a) [c] [.ref a] (ds.map c.item) := by
  intro i S Fl F M H _ t hr
  have q := t.one
  obtain ⟨a', vs, L', h1, h2, h3, h4, h5⟩ := q.seq (ds := ds) (H := H) (by rw [hd]; rfl) hr.sh (fun p hp => hr.all p (List.mem_append_right _ hp))
  cases h1
  rw [hd] at h2
  have e2 : L' = [] := List.sublist_nil.mp h5
  subst e2
  rw [List.length_map]
  refine ⟨fun hi => ?_, fun hi => ⟨vs, h2, by omega⟩, fun hi x H' hy => ?_⟩
  · have : i < vs.length := by omega
    exact ⟨vs, vs[i], h2, List.getElem?_eq_getElem this⟩
  · obtain ⟨rfl, hy⟩ := hy
    have hx := hy vs h2
    have hi' : i < (ds.map c.item).length := by rw [List.length_map]; exact hi
    obtain ⟨v', L2', g1, g2, g3⟩ := h4.get (i := i) (List.getElem?_eq_getElem hi')
    rw [hx] at g1; cases g1
    cases List.sublist_nil.mp g3
    exact ⟨_, S, List.getElem?_eq_getElem hi', Same.refl S, hr, g2⟩
def wiSeq (we : WE) : WI := fun ρ Q X => we ρ (fun c => ∃ ds, c.d.items = some ds ∧ Q [c.frz] (ds.map c.frz.item)) X
theorem Rel.tmp1 {K : PySem.W.Frag} {S : Hp} {Fl F : Hl} {c : Cell} {v : V} (h : CellOk K S Fl F c v []) : Tmp K S Fl F [c] [v] [] := by
  exact .cons (L1 := []) (L2 := []) h .nil
theorem ci_seq {X : Cx} {W : WX} {tg e : Expr} {te : TE} {we : WE} (h : CE X W e te we) : CI X W tg e (iSeq X.K te) (wiSeq we) := by
  obtain ⟨a1, a2⟩ := h
  refine ⟨pi_seq a1, ?_⟩
  intro ρ Q XQ w S Fl F H σ tc tv R' ev r0 k kx
  refine a2 ρ _ XQ w S Fl F H σ tc tv _ ev r0 (fun c v S1 H1 q e1 r1 => ?_) kx
  obtain ⟨ds, hd, q⟩ := q
  obtain ⟨S2, e2, r2, c2⟩ := r1.frz
  have hs := r2.base
  obtain ⟨b, n, d⟩ := c
  obtain ⟨a, vs, L', h1, h2, h3, h4, h5⟩ := c2.seq (ds := ds) (H := H1) (by rw [Cell.frz_d]; exact hd) hs.sh (fun p hp => hs.all p (by simpa using hp))
  rw [Cell.frz_d] at h2
  subst h1
  refine ⟨a, rfl, ?_⟩
  cases d with
  | lst xs =>
    cases hd
    exact .inl ⟨⟨vs, h2⟩, k _ _ _ _ S2 H1 q (e1.trans e2) r2 (Rel.tmp1 c2) (walk_seqL (by rw [Cell.frz_d]))⟩
  | tup xs =>
    cases hd
    exact .inr ⟨⟨vs, h2⟩, k _ _ _ _ S2 H1 q (e1.trans e2) r2 (Rel.tmp1 c2) (walk_seqT (by rw [Cell.frz_d]))⟩
  | _ => cases hd
/-- range(n), range(a, b) -/
def rangeD (lo : Int) (n : Nat) : List Cell := (List.range n).map fun i => sh (.int (lo + (i : Nat)))
theorem walk_range {K : PySem.W.Frag} {S0 : Hp} {lo : Int} {n : Nat} : WalkV K S0 (Itr lo n) [] [] (rangeD lo n) := by
  intro i S Fl F M H _ t hr
  have hl : (rangeD lo n).length = n := by simp [rangeD]
  rw [hl]
  refine ⟨fun hi => hi, fun hi => hi, fun hi x H' hy => ?_⟩
  obtain ⟨rfl, rfl⟩ := hy
  exact ⟨sh (.int (lo + (i : Nat))), S, by simp [rangeD, hi], Same.refl S, hr, .o (.sh (.int _))⟩
def wiRange1 (ws : WA) : WI := fun ρ Q X => ws ρ (fun cs => ∃ c j, cs = [c] ∧ c.d = .int j ∧ -(2 ^ 62) ≤ j ∧ j < 2 ^ 62 ∧ Q [] (rangeD 0 j.toNat)) X
def wiRange2 (ws : WA) : WI := fun ρ Q X => ws ρ (fun cs => ∃ c c' i j, cs = [c, c'] ∧ c.d = .int i ∧ c'.d = .int j ∧ (-(2 ^ 62) ≤ i ∧ i < 2 ^ 62 ∧ -(2 ^ 62) ≤ j ∧ j < 2 ^ 62) ∧ Q [] (rangeD i (j - i).toNat)) X
section
variable {X : Cx} {W : WX} {tg a b : Expr} {ta : TA} {ws : WA} {p pos : Pos}
theorem ci_range1 (hg : Gl X "range") (hm : X.mg "range" = none) (ha : CA X W [a] ta ws) (hs : starEach [a] X.env = [(false, eval a X.env)] := by rfl) : CI X W tg (.Call (.Name "range" p) [a] [] pos) (iRng1 ta) (wiRange1 ws) := by
  obtain ⟨a1, a2⟩ := ha
  refine ⟨pi_range1 hg hm a1 hs, ?_⟩
  intro ρ Q XQ w S Fl F H σ tc tv R' ev r0 k kx
  refine a2 ρ _ XQ w S Fl F H σ tc tv _ ev r0 (fun cs vs S1 H1 q hl e1 r1 => ?_) kx
  obtain ⟨c, j, rfl, hj, h1, h2, q⟩ := q
  obtain ⟨v, rfl⟩ : ∃ v, vs = [v] := by
    match vs, hl with
    | [v], _ => exact ⟨v, rfl⟩
  have hv := r1.sh
  rw [hj] at hv
  exact ⟨j, by rw [hv.intE], h1, h2, k [] [] _ _ S1 H1 q e1 r1.tail .nil walk_range⟩
theorem ci_range2 (hg : Gl X "range") (hm : X.mg "range" = none) (ha : CA X W [a, b] ta ws) (hs : starEach [a, b] X.env = [(false, eval a X.env), (false, eval b X.env)] := by rfl) (hs2 : starEach [b] X.env = [(false, eval b X.env)] := by rfl) :
    CI X W tg (.Call (.Name "range" p) [a, b] [] pos) (iRng2 ta) (wiRange2 ws) := by
  obtain ⟨a1, a2⟩ := ha
  refine ⟨pi_range2 hg hm a1 hs hs2, ?_⟩
  intro ρ Q XQ w S Fl F H σ tc tv R' ev r0 k kx
  refine a2 ρ _ XQ w S Fl F H σ tc tv _ ev r0 (fun cs vs S1 H1 q hl e1 r1 => ?_) kx
  obtain ⟨c, c', i, j, rfl, hi, hj, hb, q⟩ := q
  obtain ⟨v, v', rfl⟩ : ∃ v v', vs = [v, v'] := by
    match vs, hl with
    | [v, v'], _ => exact ⟨v, v', rfl⟩
  have hv := r1.sh
  have hv' := r1.sh2
  rw [hi] at hv; rw [hj] at hv'
  exact ⟨i, j, by rw [hv.intE, hv'.intE], hb, k [] [] _ _ S1 H1 q e1 r1.tail.tail .nil walk_range⟩
end

/-! ### for -/
theorem Tmp.lf {K : PySem.W.Frag} {S : Hp} {Fl Fl' F : Hl} : ∀ {cs : List Cell} {vs : List V} {L : Hl}, Tmp K S Fl F cs vs L → cs.all Cell.noL = true → Tmp K S Fl' F cs vs L
  | _, _, _, .nil, _ => .nil
  | _, _, _, .cons a t, h => by
    rw [List.all_cons, Bool.and_eq_true] at h
    exact .cons (a.lf (Cell.noL_ne h.1)) (Tmp.lf t h.2)
def wFor (dead : List Nat) (wi : WI) (g : WG) (body : WS) : WS := fun D ρ => wi ρ (fun cs xs => cs.all Cell.noL = true ∧ ∃ I : List Cell → Env → Prop, I [] ρ ∧
  (∀ pre x post ρ', xs = pre ++ x :: post → I pre ρ' → ρ'.length = ρ.length → g x (wipeE ρ' dead) (fun ρ2 => body { D with nx := I (pre ++ [x]), ct := I (pre ++ [x]), bk := fun ρ3 => D.nx (wipeE ρ3 dead) } ρ2)) ∧ (∀ ρ', I xs ρ' → ρ'.length = ρ.length → D.nx (wipeE ρ' dead))) (D.x ρ)
section
variable {K : PySem.W.Frag} {mg : Str → Option Value} {W : WX}
theorem for_sound {ti : TI} {wi : WI} {gt : TG} {g : WG} {tb : TS} {body : WS} {dead : List Nat} (hi : IterOk K mg W ti wi) (hg : GOk K gt g) (hb : StmtOk K mg W tb body) : StmtOk K mg W (tFor ti gt tb) (wFor dead wi g body) := by
  intro D ρ hw S F A H σ De hl r en
  obtain ⟨Le, sl, hr⟩ := r
  refine hi ρ _ _ hw S Le F H σ [] [] _ (sl.view (List.Sublist.refl _)) ⟨[], .nil, hr⟩ (fun cs vs xs J S1 H1 q e1 r1 tcs wk => ?_) (fun x cls d S' H' hx e ex hr1 => en.xs hl x cls d S' H' hx e ex ⟨Le, sl.ex e, hr1⟩)
  obtain ⟨hno, I, i0, turn, fin⟩ := q
  have en1 := en.up e1
  have tcs := tcs.lf (Fl' := []) hno
  refine ⟨fun i m σ' H' => m = xs.length - i ∧ i ≤ xs.length ∧ ∃ ρ' S', I (xs.take i) ρ' ∧ σ'.length = ρ.length ∧ ρ'.length = ρ.length ∧ Same S1 S' ∧ SRel K S' F A H' ρ' σ', ⟨_, rfl, Nat.zero_le _, ρ, S1, by simpa using i0, hl, rfl, Same.refl S1, ⟨Le, sl.ex e1, r1.base⟩⟩, ?_⟩
  rintro i m σ' H' ⟨rfl, hi', ρ', S', ii, l1, l2, e2, Le', sl', hr'⟩
  have w := wk i S' [] F Le' H' e2 (tcs.ex e2) (by simpa using hr')
  by_cases hlt : i < xs.length
  · refine .inr ⟨w.1 hlt, fun σ2 H2 => ∃ ρ2 S2, I (xs.take (i + 1)) ρ2 ∧ σ2.length = ρ.length ∧ ρ2.length = ρ.length ∧ Same S1 S2 ∧ SRel K S2 F A H2 ρ2 σ2, fun σ2 H2 ⟨ρ2, S2, a, b, c, d, e⟩ => ⟨xs.length - (i + 1), by omega, rfl, hlt, ρ2, S2, a, b, c, d, e⟩, fun x H2 hy => ?_⟩
    obtain ⟨c, S2, hc, e3, hr2, cok⟩ := w.2.2 hlt x H2 hy
    have hxc : xs[i] = c := by
      rw [List.getElem?_eq_getElem hlt] at hc; exact Option.some.inj hc
    have tk : xs.take (i + 1) = xs.take i ++ [c] := by rw [List.take_succ, hc]; rfl
    have spl : xs = xs.take i ++ c :: xs.drop (i + 1) := by
      rw [← hxc]
      simp
    have t0 := turn (xs.take i) c (xs.drop (i + 1)) ρ' spl ii l2
    obtain ⟨Lw, slw, hsw⟩ := sl'.wipe dead
    rw [← wipeE_len (ρ := ρ') dead] at l2
    refine hg c (wipeE ρ' dead) _ t0 S2 F A H2 [] [] Lw σ' x _ (l1.trans l2.symm) (slw.ex e3) cok (by
      have hr4 : HRel S2 (Le' ++ F) H2 := by simpa using hr2
      simpa using hr4.sub (hsw.append (List.Sublist.refl F))) fun ρ3 σ3 Le3 S3 H3 q3 m1 m2 e3' sl3 hr3 => ?_
    replace e3 := e3.trans e3'
    refine hb _ ρ3 q3 S3 F A H3 σ3 _ (m1.trans m2.symm) ⟨Le3, sl3, by simpa using hr3⟩ ⟨?_, ?_, ?_, ?_, ?_⟩
    · intro ρ4 σ4 S4 H4 q4 n1 n2 e4 r4
      exact ⟨ρ4, S4, by rw [tk]; exact q4, n1.trans (m2.trans l2), n2.trans (m2.trans l2), ((e2.trans e3).trans e4), r4⟩
    · intro c v ρ4 σ4 Lc4 Le4 S4 H4 q4 e4 r4
      exact en1.rt c v ρ4 σ4 Lc4 Le4 S4 H4 q4 ((e2.trans e3).trans e4) r4
    · intro ρ4 σ4 S4 H4 q4 n1 n2 e4 r4
      exact en1.nx (wipeE ρ4 dead) σ4 S4 H4 q4 (n1.trans (m2.trans l2)) ((wipeE_len dead).trans (n2.trans (m2.trans l2))) ((e2.trans e3).trans e4) (r4.wipe dead)
    · intro ρ4 σ4 S4 H4 q4 n1 n2 e4 r4
      exact ⟨ρ4, S4, by rw [tk]; exact q4, n1.trans (m2.trans l2), n2.trans (m2.trans l2), ((e2.trans e3).trans e4), r4⟩
    · intro x cls d ρ4 σ4 S4 H4 q4 n1 n2 e4 ex r4
      exact en1.ex x cls d ρ4 σ4 S4 H4 q4 (n1.trans (m2.trans l2)) (n2.trans (m2.trans l2)) ((e2.trans e3).trans e4) ex r4
  · have hi2 : i = xs.length := by omega
    subst hi2
    rw [List.take_length] at ii
    exact .inl ⟨w.2.1 (Nat.le_refl _), en1.nx (wipeE ρ' dead) σ' S' H' (fin ρ' ii l2) l1 ((wipeE_len dead).trans l2) e2 (SRel.wipe ⟨Le', sl', hr'⟩ dead)⟩
end
section
variable {X : Cx} {W : WX} {tg iter : Expr} {body : List Stmt} {ti : TI} {wi : WI} {gt : TG} {g : WG} {tb : TS} {wb : WS} {pos : Pos}
theorem cs_for (dead : List Nat) (hp : PassesOwn (model X.prog X.w) X.A X.env X.xe) (hc : X.calm = true) (hi : CI X W tg iter ti wi) (hg : CG X tg gt g) (hb : CSs X W body tb wb) (hs : ∀ x, foldedSetIterable iter X.env x = pure x := by intro _; rfl) :
    CS X W (.For tg iter body [] pos) (tFor ti gt tb) (wFor dead wi g wb) := ⟨ps_for hp hc hi.p hg.p hb.p hs, for_sound hi.s hg.s hb.s⟩
end

/-! ### while -/
def wWhile (dead : List Nat) (w : WT) (body : WS) : WS := fun D ρ => ∃ I : Nat → Env → Prop, (∃ m, I m ρ) ∧ ∀ m ρ', I m ρ' → ρ'.length = ρ.length →
  w (wipeE ρ' dead) (fun b => if b = true then body { D with nx := fun ρ2 => ∃ m', m' < m ∧ I m' ρ2, ct := fun ρ2 => ∃ m', m' < m ∧ I m' ρ2, bk := fun ρ3 => D.nx (wipeE ρ3 dead) } (wipeE ρ' dead) else D.nx (wipeE ρ' dead)) (D.x (wipeE ρ' dead))
section
variable {K : PySem.W.Frag} {mg : Str → Option Value} {W : WX}
theorem while_sound {tt : TT} {wt : WT} {tb : TS} {body : WS} {dead : List Nat} (ht : TestOk K mg W tt wt) (hb : StmtOk K mg W tb body) : StmtOk K mg W (tWhile tt tb) (wWhile dead wt body) := by
  intro D ρ hw S F A H σ De hl r en
  obtain ⟨I, ⟨m0, i0⟩, turn⟩ := hw
  refine ⟨fun m σ' H' => ∃ ρ' S', I m ρ' ∧ σ'.length = ρ.length ∧ ρ'.length = ρ.length ∧ Same S S' ∧ SRel K S' F A H' ρ' σ', ⟨m0, ρ, S, i0, hl, rfl, Same.refl S, r⟩, ?_⟩
  rintro m σ' H' ⟨ρ', S', ii, l1, l2, e1, r1⟩
  have t0 := turn m ρ' ii l2
  have r1 := r1.wipe dead
  rw [← wipeE_len (ρ := ρ') dead] at l2
  generalize wipeE ρ' dead = ρ' at t0 r1 l2
  refine test_at ht t0 (l1.trans l2.symm) r1 (fun b S2 H2 q e2 r2 => ?_) (fun x cls d S2 H2 hx e ex r2 => en.ex x cls d ρ' σ' S2 H2 hx l1 l2 (e1.trans e) ex r2)
  cases b with
  | false => exact iteF (en.nx ρ' σ' S2 H2 (by simpa using q) l1 l2 (e1.trans e2) r2)
  | true =>
    refine iteT ⟨fun σ3 H3 => ∃ m', m' < m ∧ ∃ ρ3 S3, I m' ρ3 ∧ σ3.length = ρ.length ∧ ρ3.length = ρ.length ∧ Same S S3 ∧ SRel K S3 F A H3 ρ3 σ3, fun σ3 H3 ⟨m', h1, h2⟩ => ⟨m', h1, h2⟩, ?_⟩
    refine hb _ ρ' (by simpa using q) S2 F A H2 σ' _ (l1.trans l2.symm) r2 ⟨?_, ?_, ?_, ?_, ?_⟩
    · rintro ρ4 σ4 S4 H4 ⟨m', h1, q4⟩ n1 n2 e4 r4
      exact ⟨m', h1, ρ4, S4, q4, n1.trans l2, n2.trans l2, (e1.trans e2).trans e4, r4⟩
    · intro c v ρ4 σ4 Lc4 Le4 S4 H4 q4 e4 r4
      exact en.rt c v ρ4 σ4 Lc4 Le4 S4 H4 q4 ((e1.trans e2).trans e4) r4
    · intro ρ4 σ4 S4 H4 q4 n1 n2 e4 r4
      exact en.nx (wipeE ρ4 dead) σ4 S4 H4 q4 (n1.trans l2) ((wipeE_len dead).trans (n2.trans l2)) ((e1.trans e2).trans e4) (r4.wipe dead)
    · rintro ρ4 σ4 S4 H4 ⟨m', h1, q4⟩ n1 n2 e4 r4
      exact ⟨m', h1, ρ4, S4, q4, n1.trans l2, n2.trans l2, (e1.trans e2).trans e4, r4⟩
    · intro x cls d ρ4 σ4 S4 H4 q4 n1 n2 e4 ex r4
      exact en.ex x cls d ρ4 σ4 S4 H4 q4 (n1.trans l2) (n2.trans l2) ((e1.trans e2).trans e4) ex r4
end
section
variable {X : Cx} {W : WX} {c : Expr} {body : List Stmt} {tt : TT} {wt : WT} {tb : TS} {wb : WS} {pos : Pos}
theorem cs_while (dead : List Nat) (hp : PassesOwn (model X.prog X.w) X.A X.env X.xe) (hc : CT X W c tt wt) (hb : CSs X W body tb wb) : CS X W (.While c body [] pos) (tWhile tt tb) (wWhile dead wt wb) := ⟨ps_while hp hc.p hb.p, while_sound hc.s hb.s⟩
end

/-! ### a slot is shared from now on -/
def wFrz (i : Nat) (w : WS) : WS := fun D ρ => ∃ c, ρ[i]? = some (some c) ∧ c.b = .o ∧ w D (ρ.set i (some (sh c.d)))
theorem frz_sound {K : PySem.W.Frag} {mg : Str → Option Value} {W : WX} {t : TS} {w : WS} {i : Nat} (h : StmtOk K mg W t w) : StmtOk K mg W t (wFrz i w) := by
  intro D ρ hw S F A H σ De hl r en
  obtain ⟨c, hc, hb, q⟩ := hw
  obtain ⟨Le, sl, hr⟩ := r
  obtain ⟨v, Lf, R, h1, h2, hg, h3, h4⟩ := sl.take hc
  have hr2 : HRel S ([] ++ (Lf ++ (R ++ F))) H := hr.perm (by
    rw [List.nil_append, ← List.append_assoc]
    exact h3.append_right F)
  obtain ⟨b, n, d⟩ := c
  obtain rfl : b = .o := hb
  obtain ⟨S', e, cok, hr3⟩ := h2.frz hr2
  obtain ⟨L', s1, p1⟩ := h4 S' _ [] e cok (fun j z => nomatch z)
  have en' : EndsOk K mg W S' F A (ρ.set i (some (sh d))).length D De := by
    rw [List.length_set]; exact en.up e
  refine h D _ q S' F A H σ De (by rw [List.length_set]; exact hl) ⟨L', s1, hr3.perm ?_⟩ en'
  simpa using p1.symm.append_right F
theorem css_frz {X : Cx} {W : WX} {st : List Stmt} {t : TS} {w : WS} (i : Nat) (h : CSs X W st t w) : CSs X W st t (wFrz i w) := ⟨h.p, frz_sound h.s⟩

/-! ### list comprehensions -/
def Keeps (own : List Nat) (g : TG) : Prop := ∀ v σ H (Q : St → Hp → Prop), g v σ H Q → g v σ H (fun σ2 H2 => wipe σ2 own = wipe σ own ∧ Q σ2 H2)
def KeepsS (own : List Nat) (g : TGs) : Prop := ∀ v σ H (Q : St → Hp → Prop), g v σ H Q → g v σ H (fun σ2 H2 => wipe σ2 own = wipe σ own ∧ Q σ2 H2)
theorem wipe_out {i : Nat} {x : Option V} : ∀ {own : List Nat} {σ : St}, i ∉ own → wipe (σ.set i x) own = (wipe σ own).set i x
  | [], _, _ => rfl
  | k :: own, σ, h => by
    have h1 : i ≠ k := fun z => h (by rw [z]; exact List.mem_cons_self)
    have h2 : i ∉ own := fun z => h (List.mem_cons_of_mem _ z)
    unfold wipe
    rw [wipe_out h2, List.set_comm _ _ h1]
theorem wipe_set {i : Nat} {x : Option V} : ∀ {own : List Nat} {σ : St}, i ∈ own → wipe (σ.set i x) own = wipe σ own
  | [], _, h => by cases h
  | j :: own, σ, h => by
    unfold wipe
    by_cases hi : i ∈ own
    · rw [wipe_set hi]
    · have hj : i = j := by simpa [hi] using h
      subst hj
      rw [wipe_out hi, List.set_set]
theorem wipe_idem {own : List Nat} {σ : St} : ∀ l : List Nat, (∀ i ∈ l, i ∈ own) → wipe (wipe σ l) own = wipe σ own
  | [], _ => rfl
  | v :: vs, h => by
    show wipe ((wipe σ vs).set v none) own = wipe σ own
    rw [wipe_set (h v List.mem_cons_self)]
    exact wipe_idem vs fun i hi => h i (List.mem_cons_of_mem _ hi)
theorem keeps_name {own : List Nat} {i : Nat} (h : i ∈ own := by decide) : Keeps own (gName i) := fun v σ H Q q => ⟨wipe_set h, q⟩
theorem keeps_nil {own : List Nat} : KeepsS own gNil := fun v σ H Q q => ⟨q.1, rfl, q.2⟩
theorem keeps_cons {own : List Nat} {g : TG} {gs : TGs} (hM : ∀ v σ H (Q R : St → Hp → Prop), (∀ a b, Q a b → R a b) → g v σ H Q → g v σ H R) (h : Keeps own g) (h2 : KeepsS own gs) : KeepsS own (gCons g gs) := by
  rintro vs σ H Q ⟨v, r, e, q⟩
  refine ⟨v, r, e, hM _ _ _ _ _ (fun σ2 H2 z => ?_) (h v σ H _ q)⟩
  obtain ⟨z1, z2⟩ := z
  have := h2 r σ2 H2 Q z2
  rw [z1] at this
  exact this
theorem keeps_tup {own : List Nat} {K : PySem.W.Frag} {n : Nat} {gs : TGs} (h : KeepsS own gs) : Keeps own (gTup K n gs) := by
  rintro v σ H Q ⟨a, xs, e1, e2, e3, q⟩
  exact ⟨a, xs, e1, e2, e3, h xs σ H Q q⟩
theorem mono_name {i : Nat} : ∀ v σ H (Q R : St → Hp → Prop), (∀ a b, Q a b → R a b) → gName i v σ H Q → gName i v σ H R := fun _ _ _ _ _ k q => k _ _ q
/-- targets at an expression: views alone -/
def GVOk (K : PySem.W.Frag) (g : TG) (w : WG) : Prop := ∀ c ρ Q, w c ρ Q → ∀ S Fl F M H σ v Q', EnvV K S Fl F ρ σ → CellOk K S Fl F c v [] → HRel S (M ++ (Fl ++ F)) H → (∀ ρ' σ', Q ρ' → EnvV K S Fl F ρ' σ' → Q' σ' H) → g v σ H Q'
def GVsOk (K : PySem.W.Frag) (g : TGs) (w : WGs) : Prop := ∀ cs ρ Q, w cs ρ Q → ∀ S Fl F M H σ vs Q', EnvV K S Fl F ρ σ → Tmp K S Fl F cs vs [] → HRel S (M ++ (Fl ++ F)) H → (∀ ρ' σ', Q ρ' → EnvV K S Fl F ρ' σ' → Q' σ' H) → g vs σ H Q'
theorem CellOk.viewOk {K : PySem.W.Frag} {S : Hp} {Fl F : Hl} {c : Cell} {v : V} (h : CellOk K S Fl F c v []) : CellOk K S Fl F c.view v [] := by
  cases h with
  | @o n d v L h =>
    cases n with
    | zero => exact .o h
    | succ n => exact .l (List.nil_sublist _) h
  | l q h => exact .l q h
  | p q h => exact .p q h
  | @m j n d v L h =>
    cases n with
    | zero => exact .o h
    | succ n => exact .l (List.nil_sublist _) h
theorem EnvV.set {K : PySem.W.Frag} {S : Hp} {Fl F : Hl} {ρ : Env} {σ : St} {c : Cell} {v : V} {i : Nat} (ev : EnvV K S Fl F ρ σ) (h : CellOk K S Fl F c v []) : EnvV K S Fl F (ρ.set i (some c)) (σ.set i (some v)) := by
  refine ⟨by rw [List.length_set, List.length_set]; exact ev.len, fun j c' hj => ?_⟩
  by_cases hij : i = j
  · subst hij
    have hi : i < ρ.length := by
      have := (List.getElem?_eq_some_iff.mp hj).1
      simpa using this
    rw [List.getElem?_set_self hi] at hj
    cases hj
    exact ⟨v, List.getElem?_set_self (by rw [ev.len]; exact hi), h.viewOk⟩
  · rw [List.getElem?_set_ne hij] at hj
    obtain ⟨v', h1, h2⟩ := ev.get j c' hj
    exact ⟨v', by rw [List.getElem?_set_ne hij]; exact h1, h2⟩
theorem gv_name {K : PySem.W.Frag} {i : Nat} : GVOk K (gName i) (wgName i) := by
  rintro c ρ Q ⟨hi, _, q⟩ S Fl F M H σ v Q' ev cok hr k
  exact k _ _ q (ev.set cok)
theorem gv_nil {K : PySem.W.Frag} : GVsOk K gNil wgNil := by
  rintro cs ρ Q ⟨rfl, q⟩ S Fl F M H σ vs Q' ev t hr k
  cases t
  exact ⟨rfl, k ρ σ q ev⟩
theorem Tmp.cons0 {K : PySem.W.Frag} {S : Hp} {Fl F : Hl} {c : Cell} {cs : List Cell} {vs : List V} {L : Hl} (t : Tmp K S Fl F (c :: cs) vs L) (e : L = []) : ∃ v ws, vs = v :: ws ∧ CellOk K S Fl F c v [] ∧ Tmp K S Fl F cs ws [] := by
  cases t with
  | cons a t0 =>
    obtain ⟨rfl, rfl⟩ := List.append_eq_nil_iff.mp e
    exact ⟨_, _, rfl, a, t0⟩
theorem gv_cons {K : PySem.W.Frag} {g : TG} {gs : TGs} {w : WG} {u : WGs} (h1 : GVOk K g w) (h2 : GVsOk K gs u) : GVsOk K (gCons g gs) (wgCons w u) := by
  rintro cs ρ Q ⟨c, r, rfl, q⟩ S Fl F M H σ vs Q' ev t hr k
  obtain ⟨v, ws, rfl, a, t0⟩ := t.cons0 rfl
  exact ⟨v, ws, rfl, h1 c ρ _ q S Fl F M H σ v _ ev a hr fun ρ1 σ1 q1 ev1 => h2 r ρ1 Q q1 S Fl F M H σ1 ws Q' ev1 t0 hr k⟩
theorem gv_tup {K : PySem.W.Frag} {n : Nat} {gs : TGs} {u : WGs} (h : GVsOk K gs u) : GVOk K (gTup K n gs) (wgTup n u) := by
  rintro c ρ Q ⟨ds, hd, hlen, q⟩ S Fl F M H σ v Q' ev cok hr k
  obtain ⟨ad, vs, L', hv, hq, hl2, ht, hs⟩ := cok.seq (ds := ds) (H := H) (by rw [hd]; rfl) hr.sh (fun p hp => hr.all p (List.mem_append_right _ hp))
  rw [hd] at hq
  cases List.sublist_nil.mp hs
  exact ⟨ad, vs, hv, hq, hl2.trans hlen, h _ ρ Q q S Fl F M H σ vs Q' ev ht hr k⟩

theorem EnvV.none {K : PySem.W.Frag} {S : Hp} {Fl F : Hl} {ρ : Env} {σ : St} {i : Nat} (ev : EnvV K S Fl F ρ σ) : EnvV K S Fl F (ρ.set i none) (σ.set i none) := by
  refine ⟨by rw [List.length_set, List.length_set]; exact ev.len, fun j c' hj => ?_⟩
  by_cases hij : i = j
  · subst hij
    by_cases hi : i < ρ.length
    · rw [List.getElem?_set_self hi] at hj; cases hj
    · rw [List.getElem?_eq_none (by simpa using hi)] at hj; cases hj
  · rw [List.getElem?_set_ne hij] at hj
    obtain ⟨v', h1, h2⟩ := ev.get j c' hj
    exact ⟨v', by rw [List.getElem?_set_ne hij]; exact h1, h2⟩
theorem EnvV.wipe {K : PySem.W.Frag} {S : Hp} {Fl F : Hl} {ρ : Env} {σ : St} (ev : EnvV K S Fl F ρ σ) : ∀ own : List Nat, EnvV K S Fl F (wipeE ρ own) (_root_.L2.wipe σ own)
  | [] => ev
  | _ :: own => (EnvV.wipe ev own).none
def wYes : WT := fun _ Q _ => Q true
def XF : XQ := fun _ => False
def WF0 : WX := fun _ _ _ _ => False
/-- [e for x in xs if t]: the walked items that p lets through, each as f tells -/
def wLc (n : Nat) (wi : WI) (g : WG) (wt : WT) (we : WE) (ow : List Nat) : WE := fun ρ Q X => wi ρ (fun _ xs => ∃ (p : Cell → Bool) (f : Cell → D),
  (∀ x ∈ xs, g x (wipeE ρ ow) (fun ρ' => wt ρ' (fun b => b = p x ∧ (b = true → we ρ' (fun c => c.fits n = true ∧ c.d = f x) XF)) XF)) ∧ xs.length < sizeLine ∧ Q (own (n + 1) (.lst ((xs.filter p).map f)))) X
section
variable {K : PySem.W.Frag} {mg : Str → Option Value} {W : WX}
theorem yes_sound : TestOk K mg W tYes wYes := fun ρ Q X h S Fl F H σ tc tv Q' ev r k kx => k true S H h (Same.refl S) r
theorem lc_sound {n : Nat} {ti : TI} {wi : WI} {gt : TG} {g : WG} {tt : TT} {wt : WT} {te : TE} {we : WE} {ow : List Nat} (hi : IterOk K mg W ti wi) (hg : GVOk K gt g) (hk : Keeps ow gt) (ht : TestOk K mg WF0 tt wt) (he : ExprOk K mg WF0 te we) :
    ExprOk K mg W (tLc ti gt tt te ow) (wLc n wi g wt we ow) := by
  intro ρ Q XQ hw S Fl F H σ tc tv Q' ev r0 k kx
  refine hi ρ _ XQ hw S Fl F H σ tc tv _ ev r0 (fun cs vs xs J S1 H1 q e1 r1 tcs wk => ?_) kx
  obtain ⟨p, f, body, hz, q⟩ := q
  intro Dl hD
  have ev1 := ev.ex e1
  let out := fun (i : Nat) => ((xs.take i).filter p).map f
  have olen : ∀ i, (out i).length < sizeLine := fun i => by
    have h1 := List.length_filter_le p (xs.take i)
    have h2 : (xs.take i).length ≤ xs.length := by rw [List.length_take]; exact Nat.min_le_right _ _
    show (List.map f _).length < _
    rw [List.length_map]; omega
  let Good := fun (i : Nat) (H' : Hp) => ∃ S', Same S1 S' ∧ Rel K S' Fl F H' (own (n + 1) (.lst (out i)) :: tc) (.ref Dl :: tv)
  refine ⟨fun i m H' => m = xs.length - i ∧ i ≤ xs.length ∧ Good i H', ⟨_, rfl, Nat.zero_le _, S1, Same.refl S1, ?_⟩, ?_⟩
  · have := r1.lay (n := n + 1) (d := .lst []) (o := .lst []) hD (.lst (Nat.zero_le _) .nil)
    exact this
  rintro i m H' ⟨rfl, hi', S', e2, r2⟩
  have w := wk i S' Fl F _ H' e2 (tcs.ex e2) r2.choose_spec.2
  by_cases hlt : i < xs.length
  · refine .inr ⟨w.1 hlt, fun H2 => Good (i + 1) H2, fun H2 hG => ⟨xs.length - (i + 1), by omega, rfl, hlt, hG⟩, fun x H2 hy => ?_⟩
    obtain ⟨c, S2, hc, e3, hr3, cok⟩ := w.2.2 hlt x H2 hy
    have tk : xs.take (i + 1) = xs.take i ++ [c] := by rw [List.take_succ, hc]; rfl
    have r3 : Rel K S2 Fl F H2 (own (n + 1) (.lst (out i)) :: tc) (.ref Dl :: tv) := ⟨_, r2.choose_spec.1.ex e3, hr3⟩
    have ev2 : EnvV K S2 Fl F (wipeE ρ ow) (_root_.L2.wipe σ ow) := (ev1.ex (e2.trans e3)).wipe ow
    have fin := hg c _ _ (body c (List.mem_of_getElem? hc)) S2 Fl F _ H2 (_root_.L2.wipe σ ow) x (fun σ2 H2 => tt σ2 H2 fun b H3 => if b = true then te σ2 H3 fun y H4 => ∃ acc, H4 Dl = some (HO.lst acc) ∧ acc.length < sizeLine ∧ Good (i + 1) (upd H4 Dl (HO.lst (acc ++ [y]))) else Good (i + 1) H3)
      ev2 cok hr3 (fun ρ3 σ3 q3 ev3 => ?_)
    · have fin2 := hk x _ H2 _ fin
      rw [wipe_idem ow fun i hi => hi] at fin2
      exact fin2
    · refine ht ρ3 _ XF q3 S2 Fl F H2 σ3 _ _ _ ev3 r3 (fun b S3 H3 qb e4 r4 => ?_) (fun x cls d S' H' hx => hx.elim)
      obtain ⟨hb, qe⟩ := qb
      cases b with
      | false =>
        refine iteF ⟨S3, (e2.trans e3).trans e4, ?_⟩
        have : out (i + 1) = out i := by
          show List.map f (List.filter p (xs.take (i + 1))) = List.map f (List.filter p (xs.take i))
          rw [tk, List.filter_append, List.filter_cons, if_neg (by rw [← hb]; exact Bool.false_ne_true)]
          simp
        rw [this]
        exact r4
      | true =>
        refine iteT (he ρ3 _ XF (qe rfl) S3 Fl F H3 σ3 _ _ _ (ev3.ex e4) r4 (fun c2 y S4 H4 q4 e5 r5 => ?_) (fun x cls d S' H' hx => hx.elim))
        obtain ⟨hf, hd⟩ := q4
        obtain ⟨L, t5, hr5⟩ := r5
        cases t5 with
        | @cons _ _ _ _ La Lb a t6 =>
          cases t6 with
          | @cons _ _ _ _ Lc Ld b t7 =>
            cases b with
            | o b =>
              cases b with
              | @lst _ _ acc _ L1 hz1 oa =>
                have hm := hr5.all (Dl, .lst acc) (List.mem_append_left _ (List.mem_append_right _ (List.mem_append_left _ List.mem_cons_self)))
                rw [List.append_assoc] at hr5
                obtain ⟨S5, L', e6, o6, hr6⟩ := store1 (M := []) a hr5 hf
                refine ⟨acc, hm, by rw [oa.length]; exact olen i, S5, (((e2.trans e3).trans e4).trans e5).trans e6, ?_⟩
                have ho : out (i + 1) = out i ++ [f c] := by
                  show List.map f (List.filter p (xs.take (i + 1))) = List.map f (List.filter p (xs.take i)) ++ [f c]
                  rw [tk, List.filter_append, List.filter_cons, if_pos hb.symm, List.map_append]
                  rfl
                rw [hd] at o6
                refine ⟨((Dl, HO.lst (acc ++ [y])) :: (L1 ++ (L' ++ []))) ++ Ld, .cons (.o (.lst ?_ ?_)) (t7.ex e6), ?_⟩
                · rw [List.length_append, oa.length]; exact olen i
                · rw [ho]
                  exact (oa.ex e6).append (.cons o6 .nil)
                · have h7 : HRel S5 ((Dl, HO.lst acc) :: (L1 ++ (L' ++ (Ld ++ (Fl ++ F))))) H4 := hr6.perm (by
                    have := perm_abc L' ((Dl, HO.lst acc) :: L1) (Ld ++ (Fl ++ F))
                    simpa [List.append_assoc] using this)
                  have h8 := h7.put (o' := .lst (acc ++ [y]))
                  simpa [List.append_assoc] using h8
  · have hi2 : i = xs.length := by omega
    subst hi2
    have : out xs.length = (xs.filter p).map f := by
      show List.map f (List.filter p (xs.take xs.length)) = _
      rw [List.take_length]
    rw [this] at r2
    exact .inl ⟨w.2.1 (Nat.le_refl _), k _ _ S' H' q (e1.trans e2) r2⟩
end
end VL
set_option maxRecDepth 100000
/-! VH: comprehensions as terms; calls of defs; a def's promise over cells; a law's end. -/
namespace VL
open PySem L2
variable [TB : Tbs]

/-! ### comprehensions as terms -/
structure CTs (X : Cx) (W : WX) (es : List Expr) (t : TT) (w : WT) : Prop where
  p : PTs X es t
  s : TestOk X.K X.mg W t w
structure CGV (X : Cx) (ow : List Nat) (e : Expr) (g : TG) (w : WG) : Prop where
  p : PG X e g
  v : GVOk X.K g w
  k : Keeps ow g
structure CGVs (X : Cx) (ow : List Nat) (es : List Expr) (g : TGs) (w : WGs) : Prop where
  p : PGs X es g
  v : GVsOk X.K g w
  k : KeepsS ow g
section
variable {X : Cx} {W : WX} {ow : List Nat}
theorem cts_nil : CTs X W [] tYes wYes := ⟨pts_nil, yes_sound⟩
theorem cts_one {c : Expr} {t : TT} {w : WT} (h : CT X W c t w) : CTs X W [c] t w := ⟨pts_one h.p, h.s⟩
theorem cgv_name {i : Nat} {x : Str} {pos : Pos} (h : PG X (.Name x pos) (gName i)) (hi : i ∈ ow := by decide) : CGV X ow (.Name x pos) (gName i) (wgName i) := ⟨h, gv_name, keeps_name hi⟩
theorem cgvs_nil : CGVs X ow [] gNil wgNil := ⟨pgs_nil, gv_nil, keeps_nil⟩
theorem cgvs_cons {i : Nat} {x : Str} {pos : Pos} {es : List Expr} {gs : TGs} {u : WGs} (h : CGV X ow (.Name x pos) (gName i) (wgName i)) (h2 : CGVs X ow es gs u)
    (hs : (assignEach (.Name x pos :: es) X.env).map (·.2) = assign (.Name x pos) X.env :: (assignEach es X.env).map (·.2) := by rfl) : CGVs X ow (.Name x pos :: es) (gCons (gName i) gs) (wgCons (wgName i) u) :=
  ⟨pgs_cons h.p h2.p hs, gv_cons h.v h2.v, keeps_cons mono_name h.k h2.k⟩
theorem cgv_tup {es : List Expr} {k : Nat} {n : Nat} {pos : Pos} {gs : TGs} {u : WGs} (h : CGVs X ow es gs u) (hc : X.calm = true)
    (hn : (assignEach es X.env).length = n := by rfl) (hst : (assignEach es X.env).findIdx? (·.1) = none := by rfl) : CGV X ow (.Tuple es k pos) (gTup X.K n gs) (wgTup n u) := ⟨pg_tup hc h.p hn hst, gv_tup h.v, keeps_tup h.k⟩
end
section
variable {X : Cx} {W : WX} {elt tg iter : Expr} {ifs : List Expr} {scope : Scope} {ow : List (Str × Nat)} {pos spos : Pos} {ti : TI} {wi : WI} {g : WG} {wt : WT} {we : WE}
  {gt : Shared → Hp → Addr → List (Str × Addr) → List Addr → TG} {tt : Shared → Hp → Addr → List (Str × Addr) → List Addr → TT} {te : Shared → Hp → Addr → List (Str × Addr) → List Addr → TE}
theorem ce_lc (n : Nat) (hc : X.calm = true) (hN : X.N.Nodup) (hi : CI X W tg iter ti wi) (ok : BlkOk X.N X.env.scope scope ow)
    (hg : ∀ (s : Shared) (H : Hp) (C : Addr) (cl : List (Str × Addr)) (fp : List Addr), CGV (X.blk s H scope (compEnvC scope cl C X.env) fp) (ow.map (·.2)) tg (gt s H C cl fp) g)
    (ht : ∀ (s : Shared) (H : Hp) (C : Addr) (cl : List (Str × Addr)) (fp : List Addr), CTs (X.blk s H scope (compEnvC scope cl C X.env) fp) WF0 ifs (tt s H C cl fp) wt)
    (he : ∀ (s : Shared) (H : Hp) (C : Addr) (cl : List (Str × Addr)) (fp : List Addr), CE (X.blk s H scope (compEnvC scope cl C X.env) fp) WF0 elt (te s H C cl fp) we)
    (hs : ∀ x, foldedSetIterable iter X.env x = pure x := by intro _; rfl)
    (qg : ∀ (s : Shared) (H : Hp) (C : Addr) (cl : List (Str × Addr)) (fp : List Addr), gt s H C cl fp = gt X.s_0 X.H_0 0 [] [] := by intros; rfl) (qt : ∀ (s : Shared) (H : Hp) (C : Addr) (cl : List (Str × Addr)) (fp : List Addr), tt s H C cl fp = tt X.s_0 X.H_0 0 [] [] := by intros; rfl)
    (qe : ∀ (s : Shared) (H : Hp) (C : Addr) (cl : List (Str × Addr)) (fp : List Addr), te s H C cl fp = te X.s_0 X.H_0 0 [] [] := by intros; rfl) :
    CE X W (.ListComp elt [⟨tg, iter, ifs, 0⟩] scope pos) (tLc ti (gt X.s_0 X.H_0 0 [] []) (tt X.s_0 X.H_0 0 [] []) (te X.s_0 X.H_0 0 [] []) (ow.map (·.2))) (wLc n wi g wt we (ow.map (·.2))) :=
  ⟨pe_lc hc hN hi.p ok (fun s H C cl fp => qg s H C cl fp ▸ (hg s H C cl fp).p) (fun s H C cl fp => qt s H C cl fp ▸ (ht s H C cl fp).p) (fun s H C cl fp => qe s H C cl fp ▸ (he s H C cl fp).p) hs,
    lc_sound hi.s (hg X.s_0 X.H_0 0 [] []).v (hg X.s_0 X.H_0 0 [] []).k (ht X.s_0 X.H_0 0 [] []).s (he X.s_0 X.H_0 0 [] []).s⟩
/-- name = [..] on one line -/
theorem cs_setLc {i : Nat} {y : Str} {py : Pos} (n : Nat) (hc : X.calm = true) (hN : X.N.Nodup) (hy : X.N[i]? = some y) (hyl : X.env.scope.names.lookup y = some .local)
    (hsw : swapsWith (.ListComp elt [⟨tg, iter, ifs, 0⟩] scope pos) (some (.Name y py)) spos.line X.env = pure true) (hi : CI X W tg iter ti wi) (ok : BlkOk X.N X.env.scope scope ow)
    (hg : ∀ (s : Shared) (H : Hp) (C : Addr) (cl : List (Str × Addr)) (fp : List Addr), CGV (X.blk s H scope (compEnvC scope cl C X.env) fp) (ow.map (·.2)) tg (gt s H C cl fp) g)
    (ht : ∀ (s : Shared) (H : Hp) (C : Addr) (cl : List (Str × Addr)) (fp : List Addr), CTs (X.blk s H scope (compEnvC scope cl C X.env) fp) WF0 ifs (tt s H C cl fp) wt)
    (he : ∀ (s : Shared) (H : Hp) (C : Addr) (cl : List (Str × Addr)) (fp : List Addr), CE (X.blk s H scope (compEnvC scope cl C X.env) fp) WF0 elt (te s H C cl fp) we)
    (hs : ∀ x, foldedSetIterable iter X.env x = pure x := by intro _; rfl)
    (qg : ∀ (s : Shared) (H : Hp) (C : Addr) (cl : List (Str × Addr)) (fp : List Addr), gt s H C cl fp = gt X.s_0 X.H_0 0 [] [] := by intros; rfl) (qt : ∀ (s : Shared) (H : Hp) (C : Addr) (cl : List (Str × Addr)) (fp : List Addr), tt s H C cl fp = tt X.s_0 X.H_0 0 [] [] := by intros; rfl)
    (qe : ∀ (s : Shared) (H : Hp) (C : Addr) (cl : List (Str × Addr)) (fp : List Addr), te s H C cl fp = te X.s_0 X.H_0 0 [] [] := by intros; rfl) :
    CS X W (.Assign [.Name y py] (.ListComp elt [⟨tg, iter, ifs, 0⟩] scope pos) spos) (tAsg (tLc ti (gt X.s_0 X.H_0 0 [] []) (tt X.s_0 X.H_0 0 [] []) (te X.s_0 X.H_0 0 [] []) (ow.map (·.2))) (gName i)) (wAsg (wLc n wi g wt we (ow.map (·.2))) (wgName i)) :=
  cs_set (lc_sound hi.s (hg X.s_0 X.H_0 0 [] []).v (hg X.s_0 X.H_0 0 [] []).k (ht X.s_0 X.H_0 0 [] []).s (he X.s_0 X.H_0 0 [] []).s)
    (ps_setLc hc hN hy hyl hsw hi.p ok (fun s H C cl fp => qg s H C cl fp ▸ (hg s H C cl fp).p) (fun s H C cl fp => qt s H C cl fp ▸ (ht s H C cl fp).p) (fun s H C cl fp => qe s H C cl fp ▸ (he s H C cl fp).p) hs)
end

end VL
set_option maxRecDepth 100000
/-! VI: built-ins over cells. -/
namespace VL
open PySem L2
variable [TB : Tbs]

section
variable {K : PySem.W.Frag} {S S' : Hp} {Fl F : Hl} {H : Hp}
/-- a new shared object made of shared things -/
theorem Rel.mkSh {p : Addr} {o : HO} {d : D} {tc : List Cell} {tv : List V} (r : Rel K S Fl F H tc tv) (hp : H p = none) (q : ∀ S', S' p = some o → Same S S' → Sh K S' (.ref p) d) (nt : ∀ ps, o ≠ .tbl ps := by exact fun _ z => (by first | (cases z; done) | (unfold ExK at z; cases z; done) | (unfold L2.SetO at z; cases z; done))) : ∃ S', Same S S' ∧ Rel K S' Fl F (upd H p o) (VL.sh d :: tc) (.ref p :: tv) := by
  obtain ⟨r1, e⟩ := r.laid (o := o) hp nt
  exact ⟨_, e, r1.push (q _ upd_same e)⟩
/-- a new list of shared items -/
theorem Rel.mkL {p : Addr} {vs : List V} {ds : List D} {tc : List Cell} {tv : List V} (r : Rel K S Fl F H tc tv) (hp : H p = none) (q : ShA K S vs ds) (hz : vs.length ≤ sizeLine) : Rel K S Fl F (upd H p (.lst vs)) (own 1 (.lst ds) :: tc) (.ref p :: tv) :=
  r.lay hp (.lst hz (OwnA.of_sh q))
/-- the items of a cell as shared things, behind freezing -/
def Cell.flat (c : Cell) : Bool := c.n ≤ 1 || (match c.b with | .o => true | .m _ => true | _ => false)
theorem Rel.items {c : Cell} {v : V} {ds : List D} {tc : List Cell} {tv : List V} (r : Rel K S Fl F H (c :: tc) (v :: tv)) (hd : c.d.items = some ds) (hf : c.flat = true) :
    ∃ S' a vs, Same S S' ∧ v = .ref a ∧ SeqP K H c.d a vs ∧ ShA K S' vs ds ∧ vs.length = ds.length ∧ Rel K S' Fl F H tc tv := by
  obtain ⟨S1, e1, r1, q⟩ := r.frz
  have hs := r1.base
  obtain ⟨a, vs, L', h1, h2, h3, h4, h5⟩ := q.seq (ds := ds) (H := H) (by rw [Cell.frz_d]; exact hd) hs.sh (fun p hp => hs.all p (by simpa using hp))
  rw [Cell.frz_d] at h2
  have e : (ds.map c.frz.item) = ds.map VL.sh := by
    refine List.map_congr_left fun d _ => ?_
    obtain ⟨b, n, cd⟩ := c
    cases b with
    | o => rfl
    | m j => rfl
    | l =>
      match n, hf with
      | 0, _ => rfl
      | 1, _ => rfl
      | n + 2, hf => simp [Cell.flat] at hf
    | p =>
      match n, hf with
      | 0, _ => rfl
      | 1, _ => rfl
      | n + 2, hf => simp [Cell.flat] at hf
  rw [e] at h4
  have : ∀ {ds : List D} {vs : List V} {L : Hl}, Tmp K S1 Fl F (ds.map VL.sh) vs L → ShA K S1 vs ds := by
    intro ds
    induction ds with
    | nil => intro vs L t; cases t; exact .nil
    | cons d ds ih =>
      intro vs L t
      cases t with
      | cons a t0 => exact .cons a.zero.1 (ih t0)
  exact ⟨S1, a, vs, e1, h1, h2, this h4, h3, r1⟩
end

/-! ### len -/
def D.len : D → Option Nat
  | .lst xs => some xs.length | .tup xs => some xs.length | .str s => some s.length
  | _ => none
def cLen : WF := fun cs Q => ∃ c n, cs = [c] ∧ c.d.len = some n ∧ n ≤ sizeLine ∧ Q (sh (.int n))
theorem vs1 {cs : List Cell} {vs : List V} {c : Cell} (h : cs.length = vs.length) (e : cs = [c]) : ∃ v, vs = [v] := by
  subst e
  match vs, h with
  | [v], _ => exact ⟨v, rfl⟩
theorem vs2 {cs : List Cell} {vs : List V} {c c' : Cell} (h : cs.length = vs.length) (e : cs = [c, c']) : ∃ v v', vs = [v, v'] := by
  subst e
  match vs, h with
  | [v, v'], _ => exact ⟨v, v', rfl⟩
theorem Sh.lenV {K : PySem.W.Frag} {H : Hp} {v : V} {d : D} {n : Nat} (h : Sh K H v d) (e : d.len = some n) (hz : n ≤ sizeLine) : LenV K v H n := by
  cases h with
  | lst h t => cases e; exact Or.inl ⟨_, h, t.length.symm⟩
  | tup h t => cases e; exact Or.inr ⟨_, SqT.of h, t.length.symm⟩
  | str s => cases e; exact ⟨hz, rfl⟩
  | _ => cases e
theorem ok_len {K : PySem.W.Frag} : CallOk K (fun xs H Q => ∃ x n, xs = [x] ∧ LenV K x H n ∧ Q (.int n) H) cLen := by
  rintro cs Q ⟨c, n, rfl, hn, hz, q⟩ S Fl F H vs tc tv Q' hl r k
  obtain ⟨v, rfl⟩ := vs1 hl rfl
  exact ⟨v, n, rfl, r.sh.lenV hn hz, k _ _ S H q (Same.refl S) (r.tail.push (.int _))⟩

/-! ### items by index -/
theorem atI_of {α β : Type} {xs : List α} {ys : List β} {z : Int} {j : Nat} {v : β} (e : ixN xs.length z = some j) (hl : ys.length = xs.length) (h : ys[j]? = some v) : atI ys z = some v := by
  unfold atI
  rw [hl, e]
  exact h
def oIx : WO := fun x y Q => (∃ ds z j d, x.d.items = some ds ∧ y.d = .int z ∧ ixN ds.length z = some j ∧ ds[j]? = some d ∧ Q (x.item d)) ∨
  (∃ s z c, x.d = .str s ∧ y.d = .int z ∧ s.length ≤ sizeLine ∧ atI s.cps.toList z = some c ∧ Q (sh (.str ⟨#[c]⟩)))
theorem ok_ix {K : PySem.W.Frag} : OpOk K (rIx K) oIx := by
  rintro c1 c2 Q h S Fl F H v1 v2 tc tv Q' r k
  rcases h with ⟨ds, z, j, d, h1, h2, h3, h4, q⟩ | ⟨s, z, c, h1, h2, h3, h4, q⟩
  · have hz := r.sh
    rw [h2] at hz
    have hz := hz.intE
    subst hz
    have r1 := r.tail
    obtain ⟨L, t, hr⟩ := r1
    cases t with
    | @cons _ _ _ _ L1 L2 a t0 =>
      obtain ⟨ad, vs, L', g1, g2, g3, g4, g5⟩ := a.seq h1 hr.sh (fun p hp => hr.all p (by
        rw [List.append_assoc]
        rcases List.mem_append.mp hp with hp | hp
        · exact List.mem_append_left _ hp
        · exact List.mem_append_right _ (List.mem_append_right _ hp)))
      obtain ⟨v', L3, e1, e2, e3⟩ := g4.get (i := j) (c := c1.item d) (by rw [List.getElem?_map, h4]; rfl)
      have fin : Q' v' H := k _ _ S H q (Same.refl S) ⟨L3 ++ L2, .cons e2 t0, hr.sub ((e3.trans g5).append (List.Sublist.refl L2) |>.append (List.Sublist.refl _))⟩
      subst g1
      have hat : atI vs z = some v' := atI_of h3 g3 e1
      cases hc : c1.d with
      | lst xs =>
        rw [hc] at g2
        exact .inl ⟨ad, vs, z, v', rfl, rfl, g2, hat, fin⟩
      | tup xs =>
        rw [hc] at g2
        exact .inr (.inl ⟨ad, vs, z, v', rfl, rfl, g2, hat, fin⟩)
      | _ => rw [hc] at h1; cases h1
  · have a := r.sh2; have b := r.sh
    rw [h1] at a; rw [h2] at b
    exact .inr (.inr ⟨s, z, c, a.strE, b.intE, h3, h4, k _ _ S H q (Same.refl S) (r.tail.tail.push (.str _))⟩)

/-! ### divmod, abs, max, min of two -/
def cDivmod : WF := fun cs Q => ∃ c c' i j, cs = [c, c'] ∧ c.d = .int i ∧ c'.d = .int j ∧ CDiv i j ∧ Q (sh (.tup [.int (i / j), .int (i % j)]))
theorem ok_divmod {K : PySem.W.Frag} : CallOk K (fun xs H Q => ∃ i j, xs = [.int i, .int j] ∧ CDiv i j ∧ ∀ p, H p = none → Q (.ref p) (upd H p (.tup [.int (i / j), .int (i % j)]))) cDivmod := by
  rintro cs Q ⟨c, c', i, j, rfl, hi, hj, hc, q⟩ S Fl F H vs tc tv Q' hl r k
  obtain ⟨v, v', rfl⟩ := vs2 hl rfl
  have a := r.sh; have b := r.sh2
  rw [hi] at a; rw [hj] at b
  refine ⟨i, j, by rw [a.intE, b.intE], hc, fun p hp => ?_⟩
  obtain ⟨S', e, r'⟩ := Rel.mkSh (d := .tup [.int (i / j), .int (i % j)]) (o := .tup [.int (i / j), .int (i % j)]) r.tail.tail hp fun S' h _ => .tup h (.cons (.int _) (.cons (.int _) .nil))
  exact k _ _ S' _ q e r'
def cI1 (f : Int → Int) : WF := fun cs Q => ∃ c i, cs = [c] ∧ c.d = .int i ∧ Q (sh (.int (f i)))
def cI2 (f : Int → Int → Int) : WF := fun cs Q => ∃ c c' i j, cs = [c, c'] ∧ c.d = .int i ∧ c'.d = .int j ∧ Q (sh (.int (f i j)))
theorem ok_I1 {K : PySem.W.Frag} {f : Int → Int} : CallOk K (fun xs H Q => ∃ i, xs = [.int i] ∧ Q (.int (f i)) H) (cI1 f) := by
  rintro cs Q ⟨c, i, rfl, hi, q⟩ S Fl F H vs tc tv Q' hl r k
  obtain ⟨v, rfl⟩ := vs1 hl rfl
  have a := r.sh
  rw [hi] at a
  exact ⟨i, by rw [a.intE], k _ _ S H q (Same.refl S) (r.tail.push (.int _))⟩
theorem ok_I2 {K : PySem.W.Frag} {f : Int → Int → Int} : CallOk K (fun xs H Q => ∃ i j, xs = [.int i, .int j] ∧ Q (.int (f i j)) H) (cI2 f) := by
  rintro cs Q ⟨c, c', i, j, rfl, hi, hj, q⟩ S Fl F H vs tc tv Q' hl r k
  obtain ⟨v, v', rfl⟩ := vs2 hl rfl
  have a := r.sh; have b := r.sh2
  rw [hi] at a; rw [hj] at b
  exact ⟨i, j, by rw [a.intE, b.intE], k _ _ S H q (Same.refl S) (r.tail.tail.push (.int _))⟩
abbrev cAbs : WF := cI1 fun i => if i < 0 then -i else i
abbrev cMax2 : WF := cI2 fun i j => if j > i then j else i
abbrev cMin2 : WF := cI2 fun i j => if j < i then j else i

/-! ### isinstance -/
/-- not an object of an own class, not a def -/
def D.bt : D → Bool
  | .exn _ _ => false | .obj _ _ => false | .pob _ _ => false | .clo _ _ => false | _ => true
def tyIs (t c : String) : Bool := t == c || (t == "bool" && c == "int")
theorem kit_ty {K : PySem.W.Frag} {d : D} {c : String} (hx : d.bt = true) (h : c ∈ ["int", "bool", "str", "list", "tuple", "dict"]) : PySem.W.kitOne K (.type d.ty) (.type c) = some (tyIs d.ty c) := by
  have : ∀ t ∈ ["list", "tuple", "dict", "str", "int", "bool", "NoneType"], ∀ c ∈ ["int", "bool", "str", "list", "tuple", "dict"], PySem.W.kitOne K (.type t) (.type c) = some (tyIs t c) := by
    intro t ht c hc
    simp only [List.mem_cons, List.not_mem_nil, or_false] at ht hc
    rcases ht with rfl | rfl | rfl | rfl | rfl | rfl | rfl <;> rcases hc with rfl | rfl | rfl | rfl | rfl | rfl <;> rfl
  refine this _ ?_ _ h
  cases d with
  | exn a b => cases hx
  | obj a b => cases hx
  | pob a b => cases hx
  | clo a b => cases hx
  | _ => simp [D.ty]
theorem Sh.tyX {K : PySem.W.Frag} {H : Hp} {v : V} {d : D} (h : Sh K H v d) (hx : d.bt = true) (hk : ∀ es, d ≠ .dT es ∨ ∃ a kvs, v = .ref a ∧ H a = some (.dT kvs)) (hf : ∀ es, d ≠ .dF es) : TyX K H v (.type d.ty) := by
  cases h with
  | non => exact .base .non
  | bl b => exact .base (.bl b)
  | int i => exact .base (.int i)
  | str s => exact .base (.str s)
  | lst h t =>
    rcases h with (h | ⟨o, h⟩) | ⟨o, its, n, h1, h2, _⟩
    · exact .base (.lst h)
    · exact .base (.frz h)
    · exact .kList h1 h2
  | tup h t =>
    exact .base (.tup h)
  | dK h t =>
    rcases h with h | ⟨o, h⟩
    · exact .base (.dK h)
    · exact .fDict h
  | dT h t =>
    rcases hk _ with hk | ⟨a, kvs, e, hk⟩
    · exact absurd rfl hk
    · cases e; exact .base (.dT hk)
  | exn _ _ _ _ => cases hx
  | obj _ _ _ => cases hx
  | pob _ _ _ _ => cases hx
  | clo _ _ _ _ _ _ => cases hx
  | dF _ _ => exact absurd rfl (hf _)
/-- isinstance(x, T), T a built-in type that is written there -/
def cIsi (T : String) : WU := fun c Q => ((∀ es, c.d ≠ .dT es ∧ c.d ≠ .dF es) ∧ c.d.bt = true) ∧ Q (sh (.bl (tyIs c.d.ty T)))
def tIsi (K : PySem.W.Frag) (T : String) (ta : TE) : TE := tCB (rIsi K) (tCons ta (tCons (tC (.ty T)) tNil))
theorem isi_sound {K : PySem.W.Frag} {mg : Str → Option Value} {W : WX} {ta : TE} {wa : WE} {T : String} (hT : T ∈ ["int", "bool", "str", "list", "tuple", "dict"]) (h : ExprOk K mg W ta wa) : ExprOk K mg W (tIsi K T ta) (wUn (cIsi T) wa) := by
  intro ρ Q XQ w S Fl F H σ tc tv Q' ev r0 k kx
  refine h ρ _ XQ w S Fl F H σ tc tv _ ev r0 (fun c v S1 H1 q e1 r1 => ?_) kx
  exact ⟨v, .ty T, _, _, _, rfl, .ty T, r1.sh.tyX q.1.2 (fun es => .inl (q.1.1 es).1) (fun es => (q.1.1 es).2), kit_ty q.1.2 hT, k _ _ S1 H1 q.2 e1 (r1.tail.push (.bl _))⟩
theorem ce_isi {X : Cx} {W : WX} {a : Expr} {ta : TE} {wa : WE} {p p2 pos : Pos} {T : String} {x : Str} (hT : T ∈ ["int", "bool", "str", "list", "tuple", "dict"]) (hg : Gl X "isinstance") (hm : X.mg "isinstance" = none)
    (hc : PE X (.Name x p2) (tC (.ty T))) (ha : CE X W a ta wa)
    (he : starEach [a, .Name x p2] X.env = (false, eval a X.env) :: starEach [.Name x p2] X.env := by rfl) (he2 : starEach [.Name x p2] X.env = (false, eval (.Name x p2) X.env) :: starEach [] X.env := by rfl) (hpl : (backTo pos (starEach [.Name x p2] X.env)).any (·.1) = false := by rfl) :
    CE X W (.Call (.Name "isinstance" p) [a, .Name x p2] [] pos) (tIsi X.K T ta) (wUn (cIsi T) wa) :=
  ⟨pe_callB call_isi hg hm (by decide +kernel) (pa_cons ha.p (pa_cons hc pa_nil he2) he) (by decide) (by decide) he hpl, isi_sound hT ha.s⟩

/-! ### slices of lists -/
def cutD (xs : List D) (lo hi : Option Int) : List D := (xs.drop (HT.sIx xs.length 0 lo)).take (HT.sIx xs.length xs.length hi - HT.sIx xs.length 0 lo)
abbrev WOp := Env → (Option Int → Prop) → XQ → Prop
def OptOk (K : PySem.W.Frag) (mg : Str → Option Value) (W : WX) (t : TO) (w : WOp) : Prop := ∀ ρ Q X, w ρ Q X → ∀ S Fl F H σ tc tv Q', EnvV K S Fl F ρ σ → Rel K S Fl F H tc tv →
  (∀ o S' H', Q o → Same S S' → Rel K S' Fl F H' tc tv → Q' o H') → XW K mg W S (Fl ++ F) σ X → t σ H Q'
structure CO (X : Cx) (W : WX) (e : Option Expr) (t : TO) (w : WOp) : Prop where
  p : PO X e t
  s : OptOk X.K X.mg W t w
section
variable {X : Cx} {W : WX} {e lo hi : Expr} {te : TE} {we : WE}
def woNone : WOp := fun _ Q _ => Q none
def woSome (we : WE) : WOp := fun ρ Q X => we ρ (fun c => ∃ i, c.d = .int i ∧ Q (some i)) X
theorem co_none : CO X W none tNoPart woNone := ⟨po_none, fun ρ Q X h S Fl F H σ tc tv Q' ev r k kx => k none S H h (Same.refl S) r⟩
theorem co_some (h : CE X W e te we) : CO X W (some e) (tPart te) (woSome we) := by
  refine ⟨po_some h.p, ?_⟩
  intro ρ Q XQ w S Fl F H σ tc tv Q' ev r0 k kx
  refine h.s ρ _ XQ w S Fl F H σ tc tv _ ev r0 (fun c v S1 H1 q e1 r1 => ?_) kx
  obtain ⟨i, hi, q⟩ := q
  have hv := r1.sh
  rw [hi] at hv
  exact ⟨i, hv.intE, k (some i) S1 H1 q e1 r1.tail⟩
end
abbrev WSl := Cell → Option Int → Option Int → (Cell → Prop) → Prop
def SliceOk (K : PySem.W.Frag) (r : V → Option Int → Option Int → Hp → VK → Prop) (ws : WSl) : Prop := ∀ c lo hi Q, ws c lo hi Q → ∀ S Fl F H v tc tv Q', Rel K S Fl F H (c :: tc) (v :: tv) →
  (∀ c' v' S' H', Q c' → Same S S' → Rel K S' Fl F H' (c' :: tc) (v' :: tv) → Q' v' H') → r v lo hi H Q'
def wSl (ws : WSl) (we : WE) (wl wh : WOp) : WE := fun ρ Q X => we ρ (fun c => wl ρ (fun lo => wh ρ (fun hi => ws c lo hi Q) X) X) X
theorem ce_slice {X : Cx} {W : WX} {e : Expr} {lo hi : Option Expr} {te : TE} {we : WE} {tl th : TO} {wl wh : WOp} {r : V → Option Int → Option Int → Hp → VK → Prop} {ws : WSl} {p2 pos : Pos} (hr : SlR X r) (hs : SliceOk X.K r ws)
    (he : CE X W e te we) (hl : CO X W lo tl wl) (hh : CO X W hi th wh) : CE X W (.Subscript e (.Slice lo hi none p2) pos) (tSl r te tl th) (wSl ws we wl wh) := by
  refine ⟨pe_slice hr he.p hl.p hh.p, ?_⟩
  intro ρ Q XQ w S Fl F H σ tc tv Q' ev r0 k kx
  refine he.s ρ _ XQ w S Fl F H σ tc tv _ ev r0 (fun c v S1 H1 q e1 r1 => ?_) kx
  refine hl.s ρ _ XQ q S1 Fl F H1 σ _ _ _ (ev.ex e1) r1 (fun o1 S2 H2 q2 e2 r2 => ?_) (kx.ex e1)
  refine hh.s ρ _ XQ q2 S2 Fl F H2 σ _ _ _ (ev.ex (e1.trans e2)) r2 (fun o2 S3 H3 q3 e3 r3 => ?_) (kx.ex (e1.trans e2))
  exact hs c o1 o2 Q q3 S3 Fl F H3 v tc tv Q' r3 fun c' v' S4 H4 qc e4 r4 => k c' v' S4 H4 qc (((e1.trans e2).trans e3).trans e4) r4
theorem ShA.drop' {K : PySem.W.Frag} {S : Hp} : ∀ (n : Nat) {vs : List V} {ds : List D}, ShA K S vs ds → ShA K S (vs.drop n) (ds.drop n)
  | 0, _, _, h => h
  | _ + 1, _, _, .nil => .nil
  | n + 1, _, _, .cons _ t => ShA.drop' n t
theorem ShA.take' {K : PySem.W.Frag} {S : Hp} : ∀ (n : Nat) {vs : List V} {ds : List D}, ShA K S vs ds → ShA K S (vs.take n) (ds.take n)
  | 0, _, _, _ => .nil
  | _ + 1, _, _, .nil => .nil
  | n + 1, _, _, .cons h t => .cons h (ShA.take' n t)
theorem ShA.cut {K : PySem.W.Frag} {S : Hp} {vs : List V} {ds : List D} (h : ShA K S vs ds) (lo hi : Option Int) : ShA K S (cutV vs lo hi) (cutD ds lo hi) := by
  unfold cutV cutD
  rw [h.length]
  exact ShA.take' _ (ShA.drop' _ h)
/-- list or tuple -/
def rSlLT (K : PySem.W.Frag) : V → Option Int → Option Int → Hp → VK → Prop := fun x lo hi H Q => rSlL K x lo hi H Q ∨ rSlA K x lo hi H Q
theorem sl_lt {X : Cx} : SlR X (rSlLT X.K) := fun pins s σ H x v vl vu lo hi sl Q I rx hs pl pu h => h.elim (sl_list pins s σ H x v vl vu lo hi sl Q I rx hs pl pu) (sl_tupA pins s σ H x v vl vu lo hi sl Q I rx hs pl pu)
def slSeq : WSl := fun c lo hi Q => (∃ ds, c.d = .lst ds ∧ c.flat = true ∧ ds.length ≤ sizeLine ∧ Q (own 1 (.lst (cutD ds lo hi)))) ∨ ∃ ds, c.d = .tup ds ∧ c.frz.n = 0 ∧ Q (sh (.tup (cutD ds lo hi)))
theorem cut_whole {α : Type} {xs : List α} {lo hi : Option Int} (h : HT.sIx xs.length 0 lo = 0 ∧ HT.sIx xs.length xs.length hi = xs.length) : (xs.drop (HT.sIx xs.length 0 lo)).take (HT.sIx xs.length xs.length hi - HT.sIx xs.length 0 lo) = xs := by
  rw [h.1, h.2]
  simp
theorem ok_slice {K : PySem.W.Frag} : SliceOk K (rSlLT K) slSeq := by
  rintro c lo hi Q (⟨ds, hd, hf, hz, q⟩ | ⟨ds, hd, hn, q⟩) S Fl F H v tc tv Q' r k
  · obtain ⟨S1, a, vs, e1, rfl, h2, h3, h4, r1⟩ := r.items (ds := ds) (by rw [hd]; rfl) hf
    rw [hd] at h2
    refine .inl ⟨a, vs, rfl, h2, fun p hp => ?_⟩
    refine k _ _ S1 _ q e1 (r1.mkL hp (h3.cut lo hi) (Nat.le_trans (cutV_length vs lo hi) (by rw [h4]; exact hz)))
  · obtain ⟨S1, e1, r1, q1⟩ := r.frz
    have hs : Sh K S1 v (.tup ds) := by
      have hd' : c.frz.d = .tup ds := by rw [Cell.frz_d]; exact hd
      revert q1 hn hd'
      generalize c.frz = c'
      intro hn q1 hd'
      obtain ⟨b, n, d⟩ := c'
      obtain rfl : n = 0 := hn
      obtain rfl : d = .tup ds := hd'
      exact q1.zero.1
    cases hs with
    | @tup a vs _ h2 h3 =>
      have h4 := h3.length
      refine .inr ⟨a, vs, rfl, SqT.of (r1.same _ _ h2), fun hw => ?_, fun hw p hp => ?_⟩
      · have e : cutD ds lo hi = ds := cut_whole (by rw [← h4]; exact hw)
        rw [e] at q
        exact k _ _ S1 _ q e1 (r1.push (.tup h2 h3))
      · obtain ⟨S2, e2, r2⟩ := Rel.mkSh (d := .tup (cutD ds lo hi)) (o := .tup (cutV vs lo hi)) r1 hp fun S' h e => .tup h ((h3.cut lo hi).ex e)
        exact k _ _ S2 _ q (e1.trans e2) r2

/-! ### list + list, tuple + tuple, list * int -/
def rCatP (K : PySem.W.Frag) : R2 := fun x y H Q => ∃ l b xs zs, x = .ref l ∧ y = .ref b ∧ SqL K H l xs ∧ SqL K H b zs ∧ xs.length + zs.length ≤ sizeLine ∧ ∀ p, H p = none → Q (.ref p) (upd H p (.lst (xs ++ zs)))
theorem op_catP {X : Cx} : OpR X (binaryOp .Add) (rCatP X.K) := by
  intro pins s σ H x y v u Q I rx ry h
  obtain ⟨l, b, xs, zs, rfl, rfl, hH, hB, hz, q⟩ := h
  cases rx
  cases ry
  obtain ⟨its, r, ⟨o, n, ho, hc, hdd, hd⟩, _⟩ := I.list hH
  obtain ⟨its2, r2, ⟨o2, n2, ho2, hc2, hdd2, hd2⟩, _⟩ := I.list hB
  obtain ⟨cls, dd, data, sl⟩ := o
  obtain ⟨cls2, dd2, data2, sl2⟩ := o2
  simp only at hc hd hc2 hd2
  subst hc hd hc2 hd2
  have hl := r.length
  have hl2 := r2.length
  have ea : its.toArray ++ its2.toArray = (its ++ its2).toArray := by simp
  refine PySem.concat_meets ⟨_, ho, rfl⟩ ⟨_, ho2, rfl⟩ PySem.noFill_list_add PySem.seq_list_add PySem.F.slot_list_add PySem.F.entry_list_add (PySem.F.args_list_add_2 _ _) (PyProof.Rows.list_addW l b its.toArray its2.toArray n n2 dd dd2 sl sl2 (by rw [List.size_toArray, List.size_toArray]; omega)) ⟨ho, ho2, ?_⟩
  rw [ea]
  exact ⟨.ref _, _, I.lnew (t' := s.toks) (r.append r2) (by rw [List.length_append]; omega), rfl, q _ I.fresh⟩
/-- + of ints, texts, lists, tuples -/
def rAddP (K : PySem.W.Frag) : R2 := fun x y H Q => (∃ i j, x = .int i ∧ y = .int j ∧ Q (.int (i + j)) H) ∨ (∃ i j, x = .str i ∧ y = .str j ∧ i.length + j.length ≤ sizeLine ∧ Q (.str (i ++ j)) H) ∨ rCatP K x y H Q ∨ rCatA K x y H Q
theorem op_addP {X : Cx} : OpR X (binaryOp .Add) (rAddP X.K) := fun pins s σ H x y v u Q I rx ry h => by
  rcases h with h | h | h | h
  · exact op_add pins s σ H x y v u Q I rx ry h
  · exact op_add_str pins s σ H x y v u Q I rx ry h
  · exact op_catP pins s σ H x y v u Q I rx ry h
  · exact op_catA pins s σ H x y v u Q I rx ry h
def oAddP : WO := fun x y Q => (∃ i j, x.d = .int i ∧ y.d = .int j ∧ Q (sh (.int (i + j)))) ∨ (∃ i j, x.d = .str i ∧ y.d = .str j ∧ i.length + j.length ≤ sizeLine ∧ Q (sh (.str (i ++ j)))) ∨
  (∃ xs ys, x.d = .lst xs ∧ y.d = .lst ys ∧ x.flat = true ∧ y.flat = true ∧ xs.length + ys.length ≤ sizeLine ∧ Q (own 1 (.lst (xs ++ ys)))) ∨
  (∃ xs ys, x.d = .tup xs ∧ y.d = .tup ys ∧ x.n = 0 ∧ y.n = 0 ∧ xs.length + ys.length ≤ sizeLine ∧ Q (sh (.tup (xs ++ ys))))
theorem ok_addP {K : PySem.W.Frag} : OpOk K (rAddP K) oAddP := by
  intro c1 c2 Q h S Fl F H v1 v2 tc tv Q' r k
  rcases h with ⟨i, j, h1, h2, q⟩ | ⟨i, j, h1, h2, hz, q⟩ | ⟨xs, ys, h1, h2, f1, f2, hz, q⟩ | ⟨xs, ys, h1, h2, n1, n2, hz, q⟩
  · have a := r.sh2; have b := r.sh
    rw [h1] at a; rw [h2] at b
    exact .inl ⟨i, j, a.intE, b.intE, k _ _ S H q (Same.refl S) (r.tail.tail.push (.int _))⟩
  · have a := r.sh2; have b := r.sh
    rw [h1] at a; rw [h2] at b
    exact .inr (.inl ⟨i, j, a.strE, b.strE, hz, k _ _ S H q (Same.refl S) (r.tail.tail.push (.str _))⟩)
  · obtain ⟨S1, a, vs, e1, rfl, g2, g3, g4, r1⟩ := r.items (ds := ys) (by rw [h2]; rfl) f2
    obtain ⟨S2, b, ws, e2, rfl, k2, k3, k4, r2⟩ := r1.items (ds := xs) (by rw [h1]; rfl) f1
    rw [h2] at g2; rw [h1] at k2
    refine .inr (.inr (.inl ⟨b, a, ws, vs, rfl, rfl, k2, g2, by rw [k4, g4]; exact hz, fun p hp => ?_⟩))
    exact k _ _ S2 _ q (e1.trans e2) (r2.mkL hp (k3.append (g3.ex e2)) (by rw [List.length_append, k4, g4]; exact hz))
  · have hx : Sh K S v1 (.tup xs) := by
      obtain ⟨L, t, hr⟩ := r.tail
      cases t with
      | cons a _ => obtain ⟨b, n, d⟩ := c1; obtain rfl : n = 0 := n1; obtain rfl : d = .tup xs := h1; exact a.zero.1
    have hy : Sh K S v2 (.tup ys) := by
      obtain ⟨L, t, hr⟩ := r
      cases t with
      | cons a _ => obtain ⟨b, n, d⟩ := c2; obtain rfl : n = 0 := n2; obtain rfl : d = .tup ys := h2; exact a.zero.1
    have r1 := r.tail.tail
    cases hx with
    | @tup a vs _ g1 g2 =>
      cases hy with
      | @tup b ws _ k1 k2 =>
        refine .inr (.inr (.inr ⟨a, b, vs, ws, rfl, rfl, SqT.of (r1.same _ _ g1), SqT.of (r1.same _ _ k1), by rw [g2.length, k2.length]; exact hz, fun he => ?_, fun _ he => ?_, fun _ _ p hp => ?_⟩))
        · subst he
          cases g2
          exact k _ _ S H q (Same.refl S) (r1.push (.tup k1 k2))
        · subst he
          cases k2
          rw [List.append_nil] at q
          exact k _ _ S H q (Same.refl S) (r1.push (.tup g1 g2))
        · obtain ⟨S2, e2, r2⟩ := Rel.mkSh (d := .tup (xs ++ ys)) (o := .tup (vs ++ ws)) r1 hp fun S' h e => .tup h ((g2.append k2).ex e)
          exact k _ _ S2 _ q e2 r2
def rRepP : R2 := fun x y H Q => ∃ l k xs, x = .ref l ∧ y = .int k ∧ H l = some (.lst xs) ∧ -(2 ^ 63) ≤ k ∧ k < 2 ^ 63 ∧ xs.length * k.toNat ≤ sizeLine ∧ ∀ p, H p = none → Q (.ref p) (upd H p (.lst (List.replicate k.toNat xs).flatten))
/-- * of ints (either side small, or both together below a million bits), of a new list and an int -/
def rMulP : R2 := fun x y H Q => (∃ i j, x = .int i ∧ y = .int j ∧ (CMul i j ∨ CMulW i j) ∧ Q (.int (i * j)) H) ∨ rRepP x y H Q
theorem op_mulP {X : Cx} : OpR X (binaryOp .Mult) rMulP := fun pins s σ H x y v u Q I rx ry h => by
  rcases h with ⟨i, j, h1, h2, h3 | h3, q⟩ | h
  · exact op_mul pins s σ H x y v u Q I rx ry ⟨i, j, h1, h2, h3, q⟩
  · exact op_mulW pins s σ H x y v u Q I rx ry ⟨i, j, h1, h2, h3, q⟩
  · exact op_rep pins s σ H x y v u Q I rx ry h
theorem ShA.flatRep {K : PySem.W.Frag} {S : Hp} {vs : List V} {ds : List D} (h : ShA K S vs ds) : ∀ n : Nat, ShA K S (List.replicate n vs).flatten (List.replicate n ds).flatten
  | 0 => .nil
  | n + 1 => by
    rw [List.replicate_succ, List.replicate_succ, List.flatten_cons, List.flatten_cons]
    exact h.append (ShA.flatRep h n)
def oMulP : WO := fun x y Q => (∃ i j, x.d = .int i ∧ y.d = .int j ∧ (CMul i j ∨ CMulW i j) ∧ Q (sh (.int (i * j)))) ∨
  (∃ xs k, x = own 1 (.lst xs) ∧ y.d = .int k ∧ -(2 ^ 63) ≤ k ∧ k < 2 ^ 63 ∧ xs.length * k.toNat ≤ sizeLine ∧ Q (own 1 (.lst (List.replicate k.toNat xs).flatten)))
theorem len_flat_rep {α : Type} (xs : List α) : ∀ n : Nat, (List.replicate n xs).flatten.length = n * xs.length
  | 0 => by simp
  | n + 1 => by rw [List.replicate_succ, List.flatten_cons, List.length_append, len_flat_rep xs n, Nat.succ_mul, Nat.add_comm]
theorem ok_mulP {K : PySem.W.Frag} : OpOk K rMulP oMulP := by
  intro c1 c2 Q h S Fl F H v1 v2 tc tv Q' r k
  rcases h with ⟨i, j, h1, h2, hc, q⟩ | ⟨xs, n, rfl, h2, hn, hn2, hz, q⟩
  · have a := r.sh2; have b := r.sh
    rw [h1] at a; rw [h2] at b
    exact .inl ⟨i, j, a.intE, b.intE, hc, k _ _ S H q (Same.refl S) (r.tail.tail.push (.int _))⟩
  · have b := r.sh
    rw [h2] at b
    have r1 := r.tail.tail
    obtain ⟨L, t, hr⟩ := r.tail
    cases t with
    | cons a _ =>
      cases a with
      | o a =>
        cases a with
        | @lst _ ad vs _ L1 hz1 oa =>
          obtain ⟨sa, rfl⟩ := oa.to_sh
          have hm := hr.all (ad, .lst vs) (List.mem_append_left _ (List.mem_append_left _ List.mem_cons_self))
          refine .inr ⟨ad, n, vs, rfl, b.intE, hm, hn, hn2, by rw [sa.length]; exact hz, fun p hp => ?_⟩
          exact k _ _ S _ q (Same.refl S) (r1.mkL hp (sa.flatRep _) (by rw [len_flat_rep, sa.length, Nat.mul_comm]; exact hz))
def rDivP : R2 := rI (fun i j => CDiv i j ∨ CDivW i j) fun i j => .int (i / j)
theorem op_divP {X : Cx} : OpR X (binaryOp .FloorDiv) rDivP := fun pins s σ H x y v u Q I rx ry h => by
  obtain ⟨i, j, h1, h2, h3 | h3, q⟩ := h
  · exact op_fdiv pins s σ H x y v u Q I rx ry ⟨i, j, h1, h2, h3, q⟩
  · exact op_fdivW pins s σ H x y v u Q I rx ry ⟨i, j, h1, h2, h3, q⟩
abbrev oDivP : WO := oI (fun i j => CDiv i j ∨ CDivW i j) fun i j => i / j

/-! ### list(xs), tuple(xs), sum -/
def cList : WF := fun cs Q => ∃ c ds, cs = [c] ∧ c.d.items = some ds ∧ c.flat = true ∧ ds.length ≤ sizeLine ∧ Q (own 1 (.lst ds))
theorem ok_list {K : PySem.W.Frag} : CallOk K (fun xs H Q => ∃ p ys, xs = [.ref p] ∧ (SqL K H p ys ∨ SqT K H p ys) ∧ ∀ l, H l = none → Q (.ref l) (upd H l (.lst ys))) cList := by
  rintro cs Q ⟨c, ds, rfl, hd, hf, hz, q⟩ S Fl F H vs tc tv Q' hl r k
  obtain ⟨v, rfl⟩ := vs1 hl rfl
  obtain ⟨S1, a, ws, e1, rfl, h2, h3, h4, r1⟩ := Rel.items r hd hf
  refine ⟨a, ws, rfl, ?_, fun p hp => k _ _ S1 _ q e1 (r1.mkL hp h3 (by rw [h4]; exact hz))⟩
  cases hc : c.d with
  | lst xs => rw [hc] at h2; exact .inl h2
  | tup xs => rw [hc] at h2; exact .inr h2
  | _ => rw [hc] at hd; cases hd
def cTuple : WF := fun cs Q => (∃ c ds, cs = [c] ∧ c.d = .lst ds ∧ c.flat = true ∧ Q (sh (.tup ds))) ∨ (∃ c ds, cs = [c] ∧ c.d = .tup ds ∧ c.n = 0 ∧ Q (sh (.tup ds)))
theorem ok_tuple {K : PySem.W.Frag} : CallOk K (fun xs H Q => ∃ p ys, xs = [.ref p] ∧ ((SqL K H p ys ∧ ∀ l, H l = none → Q (.ref l) (upd H l (.tup ys))) ∨ (SqT K H p ys ∧ Q (.ref p) H))) cTuple := by
  rintro cs Q (⟨c, ds, rfl, hd, hf, q⟩ | ⟨c, ds, rfl, hd, hn, q⟩) S Fl F H vs tc tv Q' hl r k
  · obtain ⟨v, rfl⟩ := vs1 hl rfl
    obtain ⟨S1, a, ws, e1, rfl, h2, h3, h4, r1⟩ := Rel.items r (ds := ds) (by rw [hd]; rfl) hf
    rw [hd] at h2
    refine ⟨a, ws, rfl, .inl ⟨h2, fun p hp => ?_⟩⟩
    obtain ⟨S2, e2, r2⟩ := Rel.mkSh (d := .tup ds) (o := .tup ws) r1 hp fun S' h e => .tup h (h3.ex e)
    exact k _ _ S2 _ q (e1.trans e2) r2
  · obtain ⟨v, rfl⟩ := vs1 hl rfl
    have r1 : Rel K S Fl F H tc tv := Rel.tail r
    have hx : Sh K S v (.tup ds) := by
      obtain ⟨L, t, hr⟩ := r
      cases t with
      | cons a _ => obtain ⟨b, n, d⟩ := c; obtain rfl : n = 0 := hn; obtain rfl : d = .tup ds := hd; exact a.zero.1
    cases hx with
    | @tup a ws _ g1 g2 => exact ⟨a, ws, rfl, (.inr ⟨SqT.of (r1.same _ _ g1), k _ _ S H q (Same.refl S) (r1.push (.tup g1 g2))⟩)⟩
def cSum : WF := fun cs Q => ∃ (c : Cell) (ns : List Int), cs = [c] ∧ c.d = .lst (ns.map D.int) ∧ Q (sh (.int ns.sum))
theorem ShA.ints {K : PySem.W.Frag} {H : Hp} : ∀ {vs : List V} {ns : List Int}, ShA K H vs (ns.map D.int) → vs = ns.map V.int
  | _, [], h => by cases h; rfl
  | _, n :: ns, h => by
    cases h with
    | cons a t => rw [a.intE, ShA.ints t]; rfl
theorem ok_sum {K : PySem.W.Frag} : CallOk K (rSum K) cSum := by
  rintro cs Q ⟨c, ns, rfl, hd, q⟩ S Fl F H vs tc tv Q' hl r k
  obtain ⟨v, rfl⟩ := vs1 hl rfl
  have hs := Rel.sh r
  rw [hd] at hs
  cases hs with
  | @lst a ws _ h t =>
    have e := t.ints
    subst e
    exact ⟨a, ns, rfl, h, k _ _ S H q (Same.refl S) ((Rel.tail r).push (.int _))⟩

/-! ### bit_length -/
theorem ce_bits {X : Cx} {W : WX} {o : Expr} {to : TE} {wo : WE} {apos pos : Pos} (ho : CE X W o to wo) (hbase : attributeBase o "bit_length" X.env (eval o X.env) = eval o X.env := by rfl) (hline : (apos.endLine == pos.line) = true := by rfl) :
    CE X W (.Call (.Attribute o "bit_length" apos) [] [] pos) (tBits to) (wUn (uI fun i => (Builtin.Int.intBits i : Nat)) wo) := by
  refine ⟨pe_bits ho.p hbase hline, ?_⟩
  intro ρ Q XQ w S Fl F H σ tc tv Q' ev r0 k kx
  refine ho.s ρ _ XQ w S Fl F H σ tc tv _ ev r0 (fun c v S1 H1 q e1 r1 => ?_) kx
  obtain ⟨i, hi, q⟩ := q
  have hv := r1.sh
  rw [hi] at hv
  exact ⟨i, hv.intE, k _ _ S1 H1 q e1 (r1.tail.push (.int _))⟩
end VL
set_option maxRecDepth 100000
/-! WA: the same as functions: what a def's parts hand back, by cells (R: a value, an exception, or nothing known). -/
namespace VL
open PySem L2
variable [TB : Tbs]

/-- a question's answer, hidden from evaluation (what is symbolic would be computed without end) -/
noncomputable def dB (p : Prop) : Bool := @decide p (Classical.propDecidable p)
theorem dB_eq (p : Prop) [h : Decidable p] : dB p = decide p := by
  unfold dB
  congr
theorem dB_iff (p : Prop) : (dB p = true) = p := by
  unfold dB
  exact @decide_eq_true_eq p (Classical.propDecidable p)
theorem dB_not (p : Prop) : (dB p = false) = ¬ p := by
  unfold dB
  exact @decide_eq_false_iff_not p (Classical.propDecidable p) |> propext
theorem dB_t : dB True = true := by rw [dB_iff]; trivial
theorem dB_f : dB False = false := by rw [dB_not]; exact id

inductive R (α : Type) where
  | ok (a : α) | ex (x : Exn) | bad
def R.bind {α β : Type} (r : R α) (f : α → R β) : R β := match r with
  | .ok a => f a | .ex x => .ex x | .bad => .bad
def R.opt {α : Type} : Option α → R α
  | some a => .ok a | none => .bad
theorem R.bind_ok {α β : Type} (a : α) (f : α → R β) : (R.ok a).bind f = f a := rfl
theorem R.bind_ex {α β : Type} (x : Exn) (f : α → R β) : (R.ex x).bind f = .ex x := rfl
theorem R.bind_bad {α β : Type} (f : α → R β) : (R.bad : R α).bind f = .bad := rfl
theorem R.opt_some {α : Type} (a : α) : R.opt (some a) = .ok a := rfl
theorem R.opt_none {α : Type} : (R.opt none : R α) = .bad := rfl
def wR {α : Type} (r : R α) (Q : α → Prop) (X : XQ) : Prop := match r with
  | .ok a => Q a | .ex x => X x | .bad => False
theorem wR_bind {α β : Type} (r : R α) (f : α → R β) (Q : β → Prop) (X : XQ) : wR (r.bind f) Q X = wR r (fun a => wR (f a) Q X) X := by cases r <;> rfl
theorem wR_mono {α : Type} {r : R α} {Q Q' : α → Prop} {X : XQ} (h : wR r Q X) (q : ∀ a, r = .ok a → Q a → Q' a) : wR r Q' X := by
  cases r with
  | ok a => exact q a rfl h
  | ex x => exact h
  | bad => exact h
abbrev ME := Env → R Cell
abbrev MA := Env → R (List Cell)
abbrev MT := Env → R Bool
abbrev we_ {α : Type} (m : Env → R α) : Env → (α → Prop) → XQ → Prop := fun ρ Q X => wR (m ρ) Q X
abbrev EM (X : Cx) (W : WX) (e : Expr) (t : TE) (m : ME) : Prop := CE X W e t (we_ m)
abbrev AM (X : Cx) (W : WX) (e : List Expr) (t : TA) (m : MA) : Prop := CA X W e t (we_ m)
abbrev TM (X : Cx) (W : WX) (e : Expr) (t : TT) (m : MT) : Prop := CT X W e t (we_ m)
theorem CE.mono {X : Cx} {W : WX} {e : Expr} {t : TE} {w w' : WE} (h : CE X W e t w) (q : ∀ ρ Q X, w' ρ Q X → w ρ Q X) : CE X W e t w' := by
  obtain ⟨a, b⟩ := h
  exact ⟨a, fun ρ Q X hw => b ρ Q X (q ρ Q X hw)⟩
theorem CA.mono {X : Cx} {W : WX} {e : List Expr} {t : TA} {w w' : WA} (h : CA X W e t w) (q : ∀ ρ Q X, w' ρ Q X → w ρ Q X) : CA X W e t w' := by
  obtain ⟨a, b⟩ := h
  exact ⟨a, fun ρ Q X hw => b ρ Q X (q ρ Q X hw)⟩
theorem CT.mono {X : Cx} {W : WX} {e : Expr} {t : TT} {w w' : WT} (h : CT X W e t w) (q : ∀ ρ Q X, w' ρ Q X → w ρ Q X) : CT X W e t w' := by
  obtain ⟨a, b⟩ := h
  exact ⟨a, fun ρ Q X hw => b ρ Q X (q ρ Q X hw)⟩
theorem CW.mono {X : Cx} {W : WX} {e : Expr} {t : TT} {w w' : WT} (h : CW X W e t w) (q : ∀ ρ Q X, w' ρ Q X → w ρ Q X) : CW X W e t w' := by
  obtain ⟨a, b⟩ := h
  exact ⟨a, fun ρ Q X hw => b ρ Q X (q ρ Q X hw)⟩

/-! ### names, constants, arguments -/
def mVar (i : Nat) : ME := fun ρ => match ρ[i]? with
  | some (some c) => .ok c.view | _ => .bad
def mC (d : D) : ME := fun _ => .ok (sh d)
def mNil : MA := fun _ => .ok []
def mCons (a : ME) (r : MA) : MA := fun ρ => (a ρ).bind fun c => (r ρ).bind fun cs => .ok (c :: cs)
section
variable {X : Cx} {W : WX} {e : Expr} {es : List Expr} {te : TE} {tr : TA} {a : ME} {r : MA} {pos : Pos}
theorem em_var (i : Nat) {x : Str} (h : PE X (.Name x pos) (tVar i)) : EM X W (.Name x pos) (tVar i) (mVar i) := (ce_var i h).mono fun ρ Q XQ h => by
  simp only [we_, mVar] at h
  split at h
  · next h1 => exact ⟨_, h1, h⟩
  · exact h.elim
theorem em_c {v : V} {d : D} (h : PE X e (tC v)) (q : ∀ S, Sh X.K S v d) : EM X W e (tC v) (mC d) := ce_c h q
theorem em_int {i : Int} {j} : EM X W (.Constant (.int i) j pos) (tC (.int i)) (mC (.int i)) := ce_int
theorem em_bl {b : Bool} {j} : EM X W (.Constant (.bool b) j pos) (tC (.bl b)) (mC (.bl b)) := ce_bl
theorem em_non {j} : EM X W (.Constant .none j pos) (tC .non) (mC .non) := ce_non
theorem em_str {x : Str} {j} : EM X W (.Constant (.str x) j pos) (tC (.str x)) (mC (.str x)) := ce_str
theorem am_nil : AM X W [] tNil mNil := ca_nil
theorem am_cons (ha : EM X W e te a) (hr : AM X W es tr r) (hs : starEach (e :: es) X.env = (false, eval e X.env) :: starEach es X.env := by rfl) : AM X W (e :: es) (tCons te tr) (mCons a r) :=
  (ca_cons ha hr hs).mono fun ρ Q XQ h => by
    unfold mCons at h
    simp only [we_, wR_bind] at h
    exact h
end

/-! ### operations -/
abbrev MO := Cell → Cell → Option Cell
abbrev MU := Cell → Option Cell
abbrev MC := List Cell → Option Cell
def OpM (K : PySem.W.Frag) (r : R2) (mo : MO) : Prop := ∃ wo, OpOk K r wo ∧ ∀ c1 c2 c, mo c1 c2 = some c → ∀ Q : Cell → Prop, Q c → wo c1 c2 Q
def UnM (K : PySem.W.Frag) (r : V → Hp → VK → Prop) (mo : MU) : Prop := ∃ wo, UnOk K r wo ∧ ∀ c1 c, mo c1 = some c → ∀ Q : Cell → Prop, Q c → wo c1 Q
def CbM (K : PySem.W.Frag) (r : List V → Hp → VK → Prop) (mo : MC) : Prop := ∃ wo, CallOk K r wo ∧ ∀ cs c, mo cs = some c → ∀ Q : Cell → Prop, Q c → wo cs Q
def mOp (o : MO) (a b : ME) : ME := fun ρ => (a ρ).bind fun x => (b ρ).bind fun y => .opt (o x y)
def mUn (o : MU) (a : ME) : ME := fun ρ => (a ρ).bind fun x => .opt (o x)
def mCB (o : MC) (a : MA) : ME := fun ρ => (a ρ).bind fun x => .opt (o x)
theorem wR_opt {α : Type} {o : Option α} {Q : α → Prop} {X : XQ} (h : wR (R.opt o) Q X) : ∃ a, o = some a ∧ Q a := by
  cases o with
  | some a => exact ⟨a, rfl, h⟩
  | none => exact h.elim
section
variable {X : Cx} {W : WX} {a b : Expr} {es : List Expr} {ta tb : TE} {tA : TA} {ma mb : ME} {mA : MA} {pos : Pos} {r : R2} {mo : MO}
theorem op_m {wo : WO} (q : ∀ c1 c2 c, mo c1 c2 = some c → ∀ Q : Cell → Prop, Q c → wo c1 c2 Q) : ∀ ρ Q XQ, we_ (mOp mo ma mb) ρ Q XQ → wOp wo (we_ ma) (we_ mb) ρ Q XQ := fun ρ Q XQ h => by
  simp only [we_, mOp, wR_bind] at h
  refine wR_mono h fun x _ h => wR_mono h fun y _ h => ?_
  obtain ⟨c, h1, h2⟩ := wR_opt h
  exact q x y c h1 Q h2
theorem em_op {op : Operator} (ho : OpR X (binaryOp op) r) (h : OpM X.K r mo) (ha : EM X W a ta ma) (hb : EM X W b tb mb) : EM X W (.BinOp a op b pos) (tOp r ta tb) (mOp mo ma mb) := by
  obtain ⟨wo, h1, h2⟩ := h
  exact (ce_op ho h1 ha hb).mono (op_m h2)
theorem em_un {op : UnaryOp} {r : V → Hp → VK → Prop} {mo : MU} (ho : UnR X (unaryOp op) r) (h : UnM X.K r mo) (ha : EM X W a ta ma) : EM X W (.UnaryOp op a pos) (tUn r ta) (mUn mo ma) := by
  obtain ⟨wo, h1, h2⟩ := h
  refine (ce_un ho h1 ha).mono fun ρ Q XQ h => ?_
  simp only [we_, mUn, wR_bind] at h
  refine wR_mono h fun x _ h => ?_
  obtain ⟨c, h3, h4⟩ := wR_opt h
  exact h2 x c h3 Q h4
theorem em_cmp {op : CmpOp} (ho : OpR X (compareOp op) r) (h : OpM X.K r mo) (ha : EM X W a ta ma) (hb : EM X W b tb mb) (hm : behindInMarks op b = false) : EM X W (.Compare a [op] [b] pos) (tOp r ta tb) (mOp mo ma mb) := by
  obtain ⟨wo, h1, h2⟩ := h
  exact (ce_cmp ho h1 ha hb hm).mono (op_m h2)
theorem em_ix (ho : IxR X r) (h : OpM X.K r mo) (ha : EM X W a ta ma) (hb : EM X W b tb mb) (hs : PlainIx b) : EM X W (.Subscript a b pos) (tOp r ta tb) (mOp mo ma mb) := by
  obtain ⟨wo, h1, h2⟩ := h
  exact (ce_ix ho h1 ha hb hs).mono (op_m h2)
theorem cb_m {wc : WF} {mo : MC} (q : ∀ cs c, mo cs = some c → ∀ Q : Cell → Prop, Q c → wc cs Q) : ∀ ρ Q XQ, we_ (mCB mo mA) ρ Q XQ → wCB wc (we_ mA) ρ Q XQ := fun ρ Q XQ h => by
  simp only [we_, mCB, wR_bind] at h
  refine wR_mono h fun x _ h => ?_
  obtain ⟨c, h1, h2⟩ := wR_opt h
  exact q x c h1 Q h2
end

/-! ### tests -/
def asBl (c : Cell) : R Bool := match c.d with
  | .bl b => .ok b | _ => .bad
def mTst (e : ME) : MT := fun ρ => (e ρ).bind asBl
def mAnd (a b : MT) : MT := fun ρ => (a ρ).bind fun x => if x = true then b ρ else .ok false
def mOr (a b : MT) : MT := fun ρ => (a ρ).bind fun x => if x = true then .ok true else b ρ
def mNot (a : MT) : MT := fun ρ => (a ρ).bind fun x => .ok (!x)
def mIf (t : MT) (a b : ME) : ME := fun ρ => (t ρ).bind fun x => if x = true then a ρ else b ρ
def mAndV (a b : ME) : ME := fun ρ => (a ρ).bind fun c => (asBl c).bind fun x => if x = true then b ρ else .ok (sh (.bl false))
def mOrV (a b : ME) : ME := fun ρ => (a ρ).bind fun c => (asBl c).bind fun x => if x = true then .ok (sh (.bl true)) else b ρ
def mNotV (a : ME) : ME := fun ρ => (a ρ).bind fun c => (asBl c).bind fun x => .ok (sh (.bl (!x)))
theorem asBl_of {c : Cell} {b : Bool} (h : asBl c = .ok b) : c.d = .bl b := by
  unfold asBl at h
  split at h
  · next h1 => cases h; exact h1
  · cases h
theorem wR_asBl {c : Cell} {Q : Bool → Prop} {X : XQ} (h : wR (asBl c) Q X) : ∃ b, c.d = .bl b ∧ Q b := by
  unfold asBl wR at h
  split at h
  · next h1 => split at h1 <;> first | (next h2 => cases h1; exact ⟨_, h2, h⟩) | cases h1
  · next h1 => split at h1 <;> cases h1
  · exact h.elim
section
variable {X : Cx} {W : WX} {a b c : Expr} {rest : List Expr} {ta tb : TE} {sa sb sc : TT} {ma mb : ME} {ua ub uc : MT} {pos : Pos} {r : R2} {mo : MO}
theorem tst_m {w : WE} {m : ME} (q : ∀ ρ Q XQ, we_ m ρ Q XQ → w ρ Q XQ) : ∀ ρ Q XQ, we_ (mTst m) ρ Q XQ → wTst w ρ Q XQ := fun ρ Q XQ h => by
  simp only [we_, mTst, wR_bind] at h
  refine q ρ _ XQ ?_
  refine wR_mono h fun x _ h => wR_asBl h
theorem tm_val {e : Expr} {te : TE} {m : ME} (h : EM X W e te m) (he : ∀ whole, isTrue e X.env whole = (do let v ← whole; standAt e.pos; holding [v] (truthy v)) := by intro _; rfl) : TM X W e (tB te) (mTst m) :=
  (ct_val h he).mono (tst_m fun _ _ _ h => h)
theorem tm_cmp {op : CmpOp} (ho : OpR X (compareOp op) r) (h : OpM X.K r mo) (ha : EM X W a ta ma) (hb : EM X W b tb mb) (hm : behindInMarks op b = false) : TM X W (.Compare a [op] [b] pos) (tTest (tOp r ta tb)) (mTst (mOp mo ma mb)) := by
  obtain ⟨wo, h1, h2⟩ := h
  exact (ct_cmp ho h1 ha hb hm).mono (tst_m (op_m h2))
theorem tm_not (ha : TM X W a sa ua) : TM X W (.UnaryOp .Not a pos) (tNot sa) (mNot ua) := (ct_not ha).mono fun ρ Q XQ h => by
  simp only [we_, mNot, wR_bind] at h
  exact h
abbrev WM_ (X : Cx) (W : WX) (e : Expr) (t : TT) (m : MT) : Prop := CW X W e t (we_ m)
theorem wm_and (ha : TM X W a sa ua) (hb : WM_ X W (.BoolOp .And (b :: rest) pos) sb ub) : WM_ X W (.BoolOp .And (a :: b :: rest) pos) (tAnd sa sb) (mAnd ua ub) := (cw_and ha hb).mono fun ρ Q XQ h => by
  simp only [we_, mAnd, wR_bind] at h
  refine wR_mono h fun x _ h => ?_
  cases x with
  | true => exact iteT h
  | false => exact iteF h
theorem wm_or (ha : TM X W a sa ua) (hb : WM_ X W (.BoolOp .Or (b :: rest) pos) sb ub) : WM_ X W (.BoolOp .Or (a :: b :: rest) pos) (tOr sa sb) (mOr ua ub) := (cw_or ha hb).mono fun ρ Q XQ h => by
  simp only [we_, mOr, wR_bind] at h
  refine wR_mono h fun x _ h => ?_
  cases x with
  | true => exact iteT h
  | false => exact iteF h
theorem wm_and1 (ha : TM X W a sa ua) : WM_ X W (.BoolOp .And [a] pos) sa ua := cw_and1 ha
theorem wm_or1 (ha : TM X W a sa ua) : WM_ X W (.BoolOp .Or [a] pos) sa ua := cw_or1 ha
theorem wm_tm {e : Expr} {t : TT} {m : MT} (h : WM_ X W e t m) : TM X W e t m := h.ct
theorem em_one {op} (h : EM X W a ta ma) : EM X W (.BoolOp op [a] pos) ta ma := ce_one h
theorem em_and (ha : EM X W a ta ma) (hb : EM X W (.BoolOp .And (b :: rest) pos) tb mb) : EM X W (.BoolOp .And (a :: b :: rest) pos) (tAndV ta tb) (mAndV ma mb) := (ce_and ha hb).mono fun ρ Q XQ h => by
  simp only [we_, mAndV, wR_bind] at h
  refine wR_mono h fun x _ h => ?_
  obtain ⟨b, h1, h⟩ := wR_asBl h
  refine ⟨b, h1, ?_⟩
  cases b with
  | true => exact iteT h
  | false => exact iteF h
theorem em_or (ha : EM X W a ta ma) (hb : EM X W (.BoolOp .Or (b :: rest) pos) tb mb) : EM X W (.BoolOp .Or (a :: b :: rest) pos) (tOrV ta tb) (mOrV ma mb) := (ce_or ha hb).mono fun ρ Q XQ h => by
  simp only [we_, mOrV, wR_bind] at h
  refine wR_mono h fun x _ h => ?_
  obtain ⟨b, h1, h⟩ := wR_asBl h
  refine ⟨b, h1, ?_⟩
  cases b with
  | true => exact iteT h
  | false => exact iteF h
theorem em_not (ha : EM X W a ta ma) : EM X W (.UnaryOp .Not a pos) (tNotV ta) (mNotV ma) := (ce_not ha).mono fun ρ Q XQ h => by
  simp only [we_, mNotV, wR_bind] at h
  exact wR_mono h fun x _ h => wR_asBl h
theorem em_if (hc : TM X W c sc uc) (ha : EM X W a ta ma) (hb : EM X W b tb mb) : EM X W (.IfExp c a b pos) (tIf sc ta tb) (mIf uc ma mb) := (ce_if hc ha hb).mono fun ρ Q XQ h => by
  simp only [we_, mIf, wR_bind] at h
  refine wR_mono h fun x _ h => ?_
  cases x with
  | true => exact iteT h
  | false => exact iteF h
end

/-! ### displays -/
def fitsN (n : Nat) (cs : List Cell) : Bool := cs.all (Cell.fits n)
def mLst (n : Nat) (a : MA) : ME := fun ρ => (a ρ).bind fun cs => if fitsN n cs = true ∧ cs.length ≤ sizeLine then .ok (own (n + 1) (.lst (cs.map Cell.d))) else .bad
def tupC : Nat → List Cell → Cell
  | 0, cs => sh (.tup (cs.map Cell.d))
  | n + 1, cs => own (n + 2) (.tup (cs.map Cell.d))
def mTup (n : Nat) (a : MA) : ME := fun ρ => (a ρ).bind fun cs => if fitsN n cs = true ∧ cs.length ≤ sizeLine then .ok (tupC n cs) else .bad
theorem wR_ite {α : Type} {c : Prop} [Decidable c] {r : R α} {Q : α → Prop} {X : XQ} (h : wR (if c then r else .bad) Q X) : c ∧ wR r Q X := by
  by_cases hc : c
  · rw [if_pos hc] at h; exact ⟨hc, h⟩
  · rw [if_neg hc] at h; exact h.elim
section
variable {X : Cx} {W : WX} {es : List Expr} {ts : TA} {ms : MA} {pos : Pos}
theorem em_lst (n : Nat) (h : AM X W es ts ms) : EM X W (.List es pos) (tLst ts) (mLst n ms) := (ce_lst n h).mono fun ρ Q XQ h => by
  simp only [we_, mLst, wR_bind] at h
  refine wR_mono h fun x _ h => ?_
  obtain ⟨⟨h1, h2⟩, h3⟩ := wR_ite h
  exact ⟨h1, h2, h3⟩
theorem em_tup {x1} (n : Nat) (h : AM X W es ts ms) : EM X W (.Tuple es x1 pos) (tTup ts) (mTup n ms) := (ce_tup n h).mono fun ρ Q XQ h => by
  simp only [we_, mTup, wR_bind] at h
  refine wR_mono h fun x _ h => ?_
  obtain ⟨⟨h1, h2⟩, h3⟩ := wR_ite h
  refine ⟨h1, h2, ?_⟩
  cases n <;> exact h3
end

/-! ### ints -/
def intM (f : Int → Int → Int) : MO := fun x y => match x.d, y.d with
  | .int i, .int j => some (sh (.int (f i j))) | _, _ => none
open Classical in
noncomputable def intCM (C : Int → Int → Prop) (f : Int → Int → Int) : MO := fun x y => match x.d, y.d with
  | .int i, .int j => if C i j then some (sh (.int (f i j))) else none | _, _ => none
def cmpM (f : Int → Int → Bool) : MO := fun x y => match x.d, y.d with
  | .int i, .int j => some (sh (.bl (f i j))) | _, _ => none
def intU (f : Int → Int) : MU := fun x => match x.d with
  | .int i => some (sh (.int (f i))) | _ => none
section
variable {K : PySem.W.Frag} {f : Int → Int → Int} {C : Int → Int → Prop}
theorem om_I0 : OpM K (rI0 fun i j => .int (f i j)) (intM f) := ⟨_, ok_I0, fun c1 c2 c h Q q => by
  unfold intM at h
  split at h
  · next h1 h2 => cases h; exact ⟨_, _, h1, h2, q⟩
  · cases h⟩
theorem om_I : OpM K (rI C fun i j => .int (f i j)) (intCM C f) := ⟨_, ok_I, fun c1 c2 c h Q q => by
  unfold intCM at h
  split at h
  · next h1 h2 =>
    split at h
    · next h3 => cases h; exact ⟨_, _, h1, h2, h3, q⟩
    · cases h
  · cases h⟩
theorem om_B0 {f : Int → Int → Bool} : OpM K (rI0 fun i j => .bl (f i j)) (cmpM f) := ⟨_, ok_B0, fun c1 c2 c h Q q => by
  unfold cmpM at h
  split at h
  · next h1 h2 => cases h; exact ⟨_, _, h1, h2, q⟩
  · cases h⟩
theorem um_I {f : Int → Int} : UnM K (rU fun i => .int (f i)) (intU f) := ⟨_, ok_uI, fun c1 c h Q q => by
  unfold intU at h
  split at h
  · next h1 => cases h; exact ⟨_, h1, q⟩
  · cases h⟩
end
end VL
set_option maxRecDepth 100000
/-! WB: statements as functions of the slots' cells; loops turn by turn. -/
namespace VL
open PySem L2
variable [TB : Tbs]

inductive SR where
  | nx (ρ : Env) | rt (c : Cell) (ρ : Env) | bk (ρ : Env) | ct (ρ : Env) | ex (x : Exn) (ρ : Env) | bad
abbrev MS := Env → SR
abbrev MG := Cell → Env → Option Env
abbrev MGs := List Cell → Env → Option Env
/-- what is walked: whether it stays as it is for certain, and the items -/
abbrev MI := Env → R (Bool × List Cell)
def wSR (r : SR) (D : WEnds) : Prop := match r with
  | .nx ρ => D.nx ρ | .rt c ρ => D.rt c ρ | .bk ρ => D.bk ρ | .ct ρ => D.ct ρ | .ex x ρ => D.ex x ρ | .bad => False
abbrev ws_ (m : MS) : WS := fun D ρ => wSR (m ρ) D
abbrev SM (X : Cx) (W : WX) (s : Stmt) (t : TS) (m : MS) : Prop := CS X W s t (ws_ m)
abbrev SsM (X : Cx) (W : WX) (s : List Stmt) (t : TS) (m : MS) : Prop := CSs X W s t (ws_ m)
def GM (X : Cx) (e : Expr) (g : TG) (m : MG) : Prop := ∃ w, CG X e g w ∧ ∀ c ρ ρ', m c ρ = some ρ' → ∀ Q : Env → Prop, Q ρ' → w c ρ Q
def GsM (X : Cx) (e : List Expr) (g : TGs) (m : MGs) : Prop := ∃ w, CGs X e g w ∧ ∀ c ρ ρ', m c ρ = some ρ' → ∀ Q : Env → Prop, Q ρ' → w c ρ Q
abbrev wi_ (m : MI) : WI := fun ρ Q XQ => wR (m ρ) (fun p => ∀ cs, (p.1 = true → cs.all Cell.noL = true) → Q cs p.2) XQ
abbrev IM (X : Cx) (W : WX) (tg e : Expr) (t : TI) (m : MI) : Prop := CI X W tg e t (wi_ m)
theorem CI.mono {X : Cx} {W : WX} {tg e : Expr} {t : TI} {w w' : WI} (h : CI X W tg e t w) (q : ∀ ρ Q XQ, w' ρ Q XQ → w ρ Q XQ) : CI X W tg e t w' := by
  obtain ⟨a, b⟩ := h
  exact ⟨a, fun ρ Q X hw => b ρ Q X (q ρ Q X hw)⟩
theorem StmtOk.mono {K : PySem.W.Frag} {mg : Str → Option Value} {W : WX} {t : TS} {w w' : WS} (h : StmtOk K mg W t w) (q : ∀ D ρ, w' D ρ → w D ρ) : StmtOk K mg W t w' := fun D ρ hw => h D ρ (q D ρ hw)
theorem CS.mono {X : Cx} {W : WX} {s : Stmt} {t : TS} {w w' : WS} (h : CS X W s t w) (q : ∀ D ρ, w' D ρ → w D ρ) : CS X W s t w' := ⟨h.p, h.s.mono q⟩
theorem CSs.mono {X : Cx} {W : WX} {s : List Stmt} {t : TS} {w w' : WS} (h : CSs X W s t w) (q : ∀ D ρ, w' D ρ → w D ρ) : CSs X W s t w' := ⟨h.p, h.s.mono q⟩

/-! ### statements -/
def SR.then (r : SR) (k : Env → SR) : SR := match r with
  | .nx ρ => k ρ | .rt c ρ => .rt c ρ | .bk ρ => .bk ρ | .ct ρ => .ct ρ | .ex x ρ => .ex x ρ | .bad => .bad
def ofR {α : Type} (r : R α) (ρ : Env) (k : α → SR) : SR := match r with
  | .ok a => k a | .ex x => .ex x ρ | .bad => .bad
def ofO {α : Type} (o : Option α) (k : α → SR) : SR := match o with
  | some a => k a | none => .bad
def sNext : MS := fun ρ => .nx ρ
def sSeq (a b : MS) : MS := fun ρ => (a ρ).then b
def sBreak : MS := fun ρ => .bk ρ
def sCont : MS := fun ρ => .ct ρ
def sRetN : MS := fun ρ => .rt (sh .non) ρ
def sRet (e : ME) : MS := fun ρ => ofR (e ρ) ρ fun c => ofO c.ret fun c' => .rt c' (c.left ρ)
def sDrop (e : ME) : MS := fun ρ => ofR (e ρ) ρ fun _ => .nx ρ
def sIf (t : MT) (a b : MS) : MS := fun ρ => ofR (t ρ) ρ fun x => if x = true then a ρ else b ρ
def sAsg (e : ME) (g : MG) : MS := fun ρ => ofR (e ρ) ρ fun c => if c.noL = true then ofO (g c ρ) fun ρ' => .nx ρ' else .bad
def sFrz (i : Nat) (s : MS) : MS := fun ρ => match ρ[i]? with
  | some (some ⟨.o, _, d⟩) => s (ρ.set i (some (sh d)))
  | _ => .bad
theorem wSR_then {r : SR} {k : Env → SR} {D : WEnds} (h : wSR (r.then k) D) : wSR r { D with nx := fun ρ => wSR (k ρ) D } := by
  cases r <;> exact h
theorem wSR_ofR {α : Type} {r : R α} {ρ : Env} {k : α → SR} {D : WEnds} (h : wSR (ofR r ρ k) D) : wR r (fun a => wSR (k a) D) (D.x ρ) := by
  cases r <;> exact h
theorem wSR_ofO {α : Type} {o : Option α} {k : α → SR} {D : WEnds} (h : wSR (ofO o k) D) : ∃ a, o = some a ∧ wSR (k a) D := by
  cases o with
  | some a => exact ⟨a, rfl, h⟩
  | none => exact h.elim
theorem wSR_ite {c : Prop} [Decidable c] {r : SR} {D : WEnds} (h : wSR (if c then r else .bad) D) : c ∧ wSR r D := by
  by_cases hc : c
  · rw [if_pos hc] at h; exact ⟨hc, h⟩
  · rw [if_neg hc] at h; exact h.elim
section
variable {X : Cx} {W : WX} {st : Stmt} {rest : List Stmt} {t t2 : TS} {te : TE} {a b : MS} {pos : Pos} {e : Expr} {m : ME}
theorem ssm_nil : SsM X W [] tNext sNext := css_nil
theorem ssm_cons (h1 : SM X W st t a) (h2 : SsM X W rest t2 b) : SsM X W (st :: rest) (tSeq t t2) (sSeq a b) := (css_cons h1 h2).mono fun D ρ h => wSR_then h
theorem ssm_one (h1 : SM X W st t a) : SsM X W [st] t a := css_one h1
theorem sm_pass : SM X W (.Pass pos) tNext sNext := cs_pass
theorem sm_doc {x j p p'} : SM X W (.Expr (.Constant (.str x) j p) p') tNext sNext := cs_doc
theorem sm_break : SM X W (.Break pos) tBreak sBreak := cs_break
theorem sm_cont : SM X W (.Continue pos) tCont sCont := cs_cont
theorem sm_retN : SM X W (.Return none pos) tRetN sRetN := cs_retN
theorem sm_ret (h : EM X W e te m) : SM X W (.Return (some e) pos) (tRet te) (sRet m) := (cs_ret h).mono fun D ρ h => by
  refine wR_mono (wSR_ofR h) fun c _ h => ?_
  obtain ⟨c', h1, h2⟩ := wSR_ofO h
  exact ⟨c', h1, h2⟩
theorem sm_expr (h : EM X W e te m) (hs : swapsWith e none pos.line X.env = pure false := by rfl) : SM X W (.Expr e pos) (tDrop te) (sDrop m) := (cs_expr h hs).mono fun D ρ h => wSR_ofR h
theorem sm_if {c : Expr} {x y : List Stmt} {tc : TT} {mt : MT} (hc : TM X W c tc mt) (ha : SsM X W x t a) (hb : SsM X W y t2 b) : SM X W (.If c x y pos) (tIfS tc t t2) (sIf mt a b) := (cs_if hc ha hb).mono fun D ρ h => by
  refine wR_mono (wSR_ofR h) fun x _ h => ?_
  cases x with
  | true => exact iteT h
  | false => exact iteF h
theorem ssm_frz {st : List Stmt} (i : Nat) (h : SsM X W st t a) : SsM X W st t (sFrz i a) := (css_frz i h).mono fun D ρ h => by
  simp only [ws_, sFrz] at h
  split at h
  · next h1 => exact ⟨_, h1, rfl, h⟩
  · exact h.elim
end

/-! ### targets -/
def gmName (i : Nat) : MG := fun c ρ => if i < ρ.length ∧ c.noL = true then some (ρ.set i (some c)) else none
def gmNil : MGs := fun cs ρ => match cs with | [] => some ρ | _ => none
def gmCons (g : MG) (u : MGs) : MGs := fun cs ρ => match cs with | c :: r => (g c ρ).bind (u r) | [] => none
def gmTup (n : Nat) (u : MGs) : MG := fun c ρ => match c.d with
  | .tup ds => if ds.length = n then u (ds.map c.item) ρ else none
  | _ => none
section
variable {X : Cx} {W : WX} {e tg : Expr} {es : List Expr} {te : TE} {m : ME} {g : TG} {gs : TGs} {mg' : MG} {u : MGs} {pos : Pos}
theorem gm_name {i : Nat} {x : Str} (h : PG X (.Name x pos) (gName i)) : GM X (.Name x pos) (gName i) (gmName i) := ⟨_, cg_name h, fun c ρ ρ' h Q q => by
  unfold gmName at h
  split at h
  · next h1 => cases h; exact ⟨h1.1, h1.2, q⟩
  · cases h⟩
theorem gsm_nil : GsM X [] gNil gmNil := ⟨_, cgs_nil, fun c ρ ρ' h Q q => by
  cases c with
  | nil => cases h; exact ⟨rfl, q⟩
  | cons _ _ => cases h⟩
theorem gsm_cons (h1 : GM X e g mg') (h2 : GsM X es gs u) (hs : (assignEach (e :: es) X.env).map (·.2) = assign e X.env :: (assignEach es X.env).map (·.2) := by rfl) : GsM X (e :: es) (gCons g gs) (gmCons mg' u) := by
  obtain ⟨w, a1, a2⟩ := h1
  obtain ⟨v, b1, b2⟩ := h2
  refine ⟨_, cgs_cons a1 b1 hs, fun c ρ ρ' h Q q => ?_⟩
  cases c with
  | nil => cases h
  | cons c r =>
    obtain ⟨ρ1, h1, h2⟩ := Option.bind_eq_some_iff.mp h
    exact ⟨c, r, rfl, a2 c ρ ρ1 h1 _ (b2 r ρ1 ρ' h2 Q q)⟩
theorem gm_tup {k n : Nat} (h : GsM X es gs u) (hc : X.calm = true)
    (hn : (assignEach es X.env).length = n := by rfl) (hst : (assignEach es X.env).findIdx? (·.1) = none := by rfl) : GM X (.Tuple es k pos) (gTup X.K n gs) (gmTup n u) := by
  obtain ⟨w, a1, a2⟩ := h
  refine ⟨_, cg_tup a1 hc hn hst, fun c ρ ρ' h Q q => ?_⟩
  unfold gmTup at h
  split at h
  · next ds hd =>
    split at h
    · next hl => exact ⟨ds, hd, hl, a2 _ ρ ρ' h Q q⟩
    · cases h
  · cases h
theorem sm_asg (he : EM X W e te m) (hg : GM X tg g mg') (hs : swapsWithSole [tg] e pos.line X.env = pure false := by rfl) (hw : swappedStores [tg] e X.env = pure none := by rfl)
    (h1 : (assignEach [tg] X.env).map (·.2) = [assign tg X.env] := by rfl) : SM X W (.Assign [tg] e pos) (tAsg te g) (sAsg m mg') := by
  obtain ⟨w, a1, a2⟩ := hg
  refine (cs_asg he a1 hs hw h1).mono fun D ρ h => ?_
  refine wR_mono (wSR_ofR h) fun c _ h => ?_
  obtain ⟨h2, h3⟩ := wSR_ite h
  obtain ⟨ρ', h4, h5⟩ := wSR_ofO h3
  exact ⟨h2, a2 c ρ ρ' h4 _ h5⟩
theorem asg_name_m {D : WEnds} {ρ : Env} {i : Nat} (h : wSR (sAsg m (gmName i) ρ) D) : wAsg (we_ m) (wgName i) D ρ := by
  refine wR_mono (wSR_ofR h) fun c _ h => ?_
  obtain ⟨h2, h3⟩ := wSR_ite h
  obtain ⟨ρ', h4, h5⟩ := wSR_ofO h3
  unfold gmName at h4
  split at h4
  · next h6 => cases h4; exact ⟨h2, h6.1, h6.2, h5⟩
  · cases h4
theorem sm_name {i : Nat} {x : Str} {pos' : Pos} (hN : X.N.Nodup) (hi : X.N[i]? = some x) (hx : Loc X.env.scope x) (he : EM X W e te m) (hs : swapsWith e (some (.Name x pos')) pos.line X.env = pure false := by rfl)
    (hf : X.fn x = true ∨ X.env.scope.names.lookup x = some .local := by first | exact .inl rfl | exact .inr rfl | assumption) : SM X W (.Assign [.Name x pos'] e pos) (tAsg te (gName i)) (sAsg m (gmName i)) :=
  (cs_set he.s (ps_set hN hi hx he.p hs hf)).mono fun D ρ h => asg_name_m h
end

/-! ### what is walked -/
def miSeq (e : ME) : MI := fun ρ => (e ρ).bind fun c => match c.d.items with
  | some ds => .ok (c.frz.noL, ds.map c.frz.item)
  | none => .bad
noncomputable def i62 (i : Int) : Bool := dB (-(2 ^ 62) ≤ i) && dB (i < 2 ^ 62)
noncomputable def miRange1 (a : MA) : MI := fun ρ => (a ρ).bind fun cs => match cs with
  | [x] => (match x.d with
    | .int j => if i62 j = true then .ok (true, rangeD 0 j.toNat) else .bad
    | _ => .bad)
  | _ => .bad
noncomputable def miRange2 (a : MA) : MI := fun ρ => (a ρ).bind fun cs => match cs with
  | [x, y] => (match x.d, y.d with
    | .int i, .int j => if i62 i = true ∧ i62 j = true then .ok (true, rangeD i (j - i).toNat) else .bad
    | _, _ => .bad)
  | _ => .bad
theorem i62_of {i : Int} (h : i62 i = true) : -(2 ^ 62) ≤ i ∧ i < 2 ^ 62 := by
  unfold i62 at h
  rw [Bool.and_eq_true, dB_iff, dB_iff] at h
  exact h
section
variable {X : Cx} {W : WX} {tg e a b : Expr} {te : TE} {m : ME} {ta : TA} {ma : MA} {p pos : Pos}
theorem im_seq (h : EM X W e te m) : IM X W tg e (iSeq X.K te) (miSeq m) := (ci_seq h).mono fun ρ Q XQ h => by
  simp only [wi_, miSeq, wR_bind] at h
  refine wR_mono h fun c _ h => ?_
  split at h
  · next ds hd => exact ⟨ds, hd, h _ fun z => by simpa using z⟩
  · exact h.elim
theorem im_range1 (hg : Gl X "range") (hm : X.mg "range" = none) (ha : AM X W [a] ta ma) (hs : starEach [a] X.env = [(false, eval a X.env)] := by rfl) : IM X W tg (.Call (.Name "range" p) [a] [] pos) (iRng1 ta) (miRange1 ma) := (ci_range1 hg hm ha hs).mono fun ρ Q XQ h => by
  simp only [wi_, miRange1, wR_bind] at h
  refine wR_mono h fun cs hcs h => ?_
  clear hcs
  split at h
  · split at h
    · next j hj =>
      obtain ⟨h1, h2⟩ := wR_ite h
      have h3 := i62_of h1
      exact ⟨_, j, rfl, hj, h3.1, h3.2, h2 [] fun _ => rfl⟩
    · exact h.elim
  · exact h.elim
theorem im_range2 (hg : Gl X "range") (hm : X.mg "range" = none) (ha : AM X W [a, b] ta ma) (hs : starEach [a, b] X.env = [(false, eval a X.env), (false, eval b X.env)] := by rfl) (hs2 : starEach [b] X.env = [(false, eval b X.env)] := by rfl) :
    IM X W tg (.Call (.Name "range" p) [a, b] [] pos) (iRng2 ta) (miRange2 ma) := (ci_range2 hg hm ha hs hs2).mono fun ρ Q XQ h => by
  simp only [wi_, miRange2, wR_bind] at h
  refine wR_mono h fun cs hcs h => ?_
  clear hcs
  split at h
  · split at h
    · next i j hi hj =>
      obtain ⟨⟨h1, h1'⟩, h2⟩ := wR_ite h
      have h3 := i62_of h1
      have h4 := i62_of h1'
      exact ⟨_, _, i, j, rfl, hi, hj, ⟨h3.1, h3.2, h4.1, h4.2⟩, h2 [] fun _ => rfl⟩
    · exact h.elim
  · exact h.elim
end

/-! ### for -/
/-- a loop over the cells that are left -/
def forL (dead : List Nat) (g : MG) (body : MS) : List Cell → MS
  | [], ρ => .nx (wipeE ρ dead)
  | x :: xs, ρ => match g x (wipeE ρ dead) with
    | none => .bad
    | some ρ2 => match body ρ2 with
      | .nx ρ3 => forL dead g body xs ρ3
      | .ct ρ3 => forL dead g body xs ρ3
      | .bk ρ3 => .nx (wipeE ρ3 dead)
      | .rt c ρ3 => .rt c ρ3
      | .ex x ρ3 => .ex x ρ3
      | .bad => .bad
def sFor (dead : List Nat) (it : MI) (g : MG) (body : MS) : MS := fun ρ => ofR (it ρ) ρ fun (b, xs) => if b = true then forL dead g body xs ρ else .bad
theorem GM.ok {X : Cx} {tg : Expr} {gt : TG} {g : MG} (hg : GM X tg gt g) : GOk X.K gt (fun c ρ Q => ∃ ρ', g c ρ = some ρ' ∧ Q ρ') := by
  obtain ⟨w, a1, a2⟩ := hg
  rintro c ρ Q ⟨ρ', h1, h2⟩
  exact a1.s c ρ Q (a2 c ρ ρ' h1 Q h2)
section
variable {X : Cx} {W : WX} {tg iter : Expr} {body : List Stmt} {ti : TI} {it : MI} {gt : TG} {g : MG} {tb : TS} {mb : MS} {pos : Pos}
theorem sm_for (dead : List Nat) (hp : PassesOwn (model X.prog X.w) X.A X.env X.xe) (hc : X.calm = true) (hi : IM X W tg iter ti it) (hg : GM X tg gt g) (hb : SsM X W body tb mb) (hs : ∀ x, foldedSetIterable iter X.env x = pure x := by intro _; rfl) :
    SM X W (.For tg iter body [] pos) (tFor ti gt tb) (sFor dead it g mb) := by
  refine CS.mono ⟨ps_for hp hc hi.p hg.choose_spec.1.p hb.p hs, for_sound (dead := dead) hi.s hg.ok hb.s⟩ fun D ρ h => ?_
  refine wR_mono (wSR_ofR h) fun p _ h => ?_
  obtain ⟨b, xs⟩ := p
  intro cs h2
  obtain ⟨hb', h1⟩ := wSR_ite h
  refine ⟨h2 hb', fun pre ρ' => ∃ post, xs = pre ++ post ∧ wSR (forL dead g mb post ρ') D, ⟨xs, rfl, h1⟩, ?_, ?_⟩
  · rintro pre x post ρ' he ⟨post', he', hw⟩ _
    replace he : xs = pre ++ x :: post := he
    have : post' = x :: post := List.append_cancel_left (he'.symm.trans he)
    subst this
    rw [forL] at hw
    split at hw
    · exact hw.elim
    · next ρ2 hg2 =>
      refine ⟨ρ2, hg2, ?_⟩
      have e1 : ∀ ρ3, wSR (forL dead g mb post ρ3) D → ∃ post', xs = pre ++ [x] ++ post' ∧ wSR (forL dead g mb post' ρ3) D := fun ρ3 h => ⟨post, by rw [he]; simp, h⟩
      simp only [ws_]
      cases hm : mb ρ2 <;> rw [hm] at hw
      · exact e1 _ hw
      · exact hw
      · exact hw
      · exact e1 _ hw
      · exact hw
      · exact hw
  · rintro ρ' ⟨post, he, hw⟩ _
    replace he : xs = xs ++ post := he
    have : post = [] := by
      have := congrArg List.length he
      rw [List.length_append] at this
      exact List.eq_nil_of_length_eq_zero (by omega)
    subst this
    exact hw
end
end VL
set_option maxRecDepth 100000
/-! WC: while, comprehensions, what changes its slots, moves; defs and their calls. -/
namespace VL
open PySem L2
variable [TB : Tbs]

/-! ### while -/
def whN (dead : List Nat) (t : MT) (body : MS) : Nat → MS
  | 0, _ => .bad
  | n + 1, ρ => match t (wipeE ρ dead) with
    | .ok true => match body (wipeE ρ dead) with
      | .nx ρ3 => whN dead t body n ρ3
      | .ct ρ3 => whN dead t body n ρ3
      | .bk ρ3 => .nx (wipeE ρ3 dead)
      | .rt c ρ3 => .rt c ρ3
      | .ex x ρ3 => .ex x ρ3
      | .bad => .bad
    | .ok false => .nx (wipeE ρ dead)
    | .ex x => .ex x (wipeE ρ dead)
    | .bad => .bad
open Classical in
noncomputable def sWhile (dead : List Nat) (t : MT) (body : MS) : MS := fun ρ => if h : ∃ n, whN dead t body n ρ ≠ .bad then whN dead t body h.choose ρ else .bad
theorem whN_up {dead : List Nat} {t : MT} {body : MS} : ∀ {n k : Nat} {ρ : Env}, whN dead t body n ρ ≠ .bad → n ≤ k → whN dead t body k ρ = whN dead t body n ρ
  | 0, _, _, h, _ => absurd rfl h
  | n + 1, 0, _, _, h => by omega
  | n + 1, k + 1, ρ, h, hk => by
    rw [whN] at h ⊢
    rw [whN]
    split
    · next h1 =>
      rw [h1] at h
      simp only at h ⊢
      split
      · next ρ3 h2 => rw [h2] at h; simp only at h; exact whN_up h (by omega)
      · next ρ3 h2 => rw [h2] at h; simp only at h; exact whN_up h (by omega)
      · rfl
      · rfl
      · rfl
      · rfl
    · rfl
    · rfl
    · rfl
theorem sWhile_of {dead : List Nat} {t : MT} {body : MS} {ρ : Env} {r : SR} (n : Nat) (h : whN dead t body n ρ = r) (hr : r ≠ .bad) : sWhile dead t body ρ = r := by
  have hn : whN dead t body n ρ ≠ .bad := by rw [h]; exact hr
  have he : ∃ n, whN dead t body n ρ ≠ .bad := ⟨n, hn⟩
  unfold sWhile
  rw [dif_pos he, ← h]
  rcases Nat.le_total n he.choose with hle | hle
  · exact whN_up hn hle
  · exact (whN_up he.choose_spec hle).symm
section
variable {X : Cx} {W : WX} {c : Expr} {body : List Stmt} {tt : TT} {mt : MT} {tb : TS} {mb : MS} {pos : Pos}
theorem sm_while (dead : List Nat) (hp : PassesOwn (model X.prog X.w) X.A X.env X.xe) (hc : TM X W c tt mt) (hb : SsM X W body tb mb) : SM X W (.While c body [] pos) (tWhile tt tb) (sWhile dead mt mb) :=
  (cs_while dead hp hc hb).mono fun D ρ h => by
    simp only [ws_, sWhile] at h
    split at h
    · next he =>
      refine ⟨fun n ρ' => wSR (whN dead mt mb n ρ') D, ⟨_, h⟩, fun n ρ' hw _ => ?_⟩
      cases n with
      | zero => exact hw.elim
      | succ n =>
        rw [whN] at hw
        simp only [we_]
        cases ht : mt (wipeE ρ' dead) with
        | ok b =>
          rw [ht] at hw
          cases b with
          | false =>
            simp only [wR, Bool.false_eq_true, if_false]
            exact hw
          | true =>
            simp only [wR, if_true, ws_]
            simp only at hw
            cases hm : mb (wipeE ρ' dead) <;> rw [hm] at hw
            · exact ⟨n, Nat.lt_succ_self n, hw⟩
            · exact hw
            · exact hw
            · exact ⟨n, Nat.lt_succ_self n, hw⟩
            · exact hw
            · exact hw
        | ex x => rw [ht] at hw; exact hw
        | bad => rw [ht] at hw; exact hw
    · exact h.elim
end

/-! ### list comprehensions -/
def lcL (n : Nat) (ow : List Nat) (g : MG) (t : MT) (e : ME) (ρ : Env) : List Cell → R (List D)
  | [] => .ok []
  | x :: xs => match g x (wipeE ρ ow) with
    | none => .bad
    | some ρ' => match t ρ' with
      | .ok true => (match e ρ' with
        | .ok c => if c.fits n = true then (lcL n ow g t e ρ xs).bind fun ds => .ok (c.d :: ds) else .bad
        | _ => .bad)
      | .ok false => lcL n ow g t e ρ xs
      | _ => .bad
def mLc (n : Nat) (it : MI) (g : MG) (t : MT) (e : ME) (ow : List Nat) : ME := fun ρ => (it ρ).bind fun p => if p.2.length < sizeLine then (lcL n ow g t e ρ p.2).bind fun ds => .ok (own (n + 1) (.lst ds)) else .bad
def mYes : MT := fun _ => .ok true
def gV (g : MG) : WG := fun c ρ Q => ∃ ρ', g c ρ = some ρ' ∧ Q ρ'
def GVM (X : Cx) (ow : List Nat) (e : Expr) (g : TG) (m : MG) : Prop := ∃ w, CGV X ow e g w ∧ ∀ c ρ ρ', m c ρ = some ρ' → ∀ Q : Env → Prop, Q ρ' → w c ρ Q
def GVsM (X : Cx) (ow : List Nat) (e : List Expr) (g : TGs) (m : MGs) : Prop := ∃ w, CGVs X ow e g w ∧ ∀ c ρ ρ', m c ρ = some ρ' → ∀ Q : Env → Prop, Q ρ' → w c ρ Q
abbrev TMs (X : Cx) (W : WX) (e : List Expr) (t : TT) (m : MT) : Prop := CTs X W e t (we_ m)
theorem GVM.cgv {X : Cx} {ow : List Nat} {e : Expr} {g : TG} {m : MG} (h : GVM X ow e g m) : CGV X ow e g (gV m) := by
  obtain ⟨w, a1, a2⟩ := h
  refine ⟨a1.p, ?_, a1.k⟩
  rintro c ρ Q ⟨ρ', h1, h2⟩
  exact a1.v c ρ Q (a2 c ρ ρ' h1 Q h2)
section
variable {X : Cx} {W : WX} {ow : List Nat}
theorem tms_nil : TMs X W [] tYes mYes := ⟨pts_nil, yes_sound⟩
theorem tms_one {c : Expr} {t : TT} {m : MT} (h : TM X W c t m) : TMs X W [c] t m := cts_one h
theorem gvm_name {i : Nat} {x : Str} {pos : Pos} (h : PG X (.Name x pos) (gName i)) (hi : i ∈ ow := by decide) : GVM X ow (.Name x pos) (gName i) (gmName i) := ⟨_, cgv_name h hi, fun c ρ ρ' h Q q => by
  unfold gmName at h
  split at h
  · next h1 => cases h; exact ⟨h1.1, h1.2, q⟩
  · cases h⟩
theorem gvsm_nil : GVsM X ow [] gNil gmNil := ⟨_, cgvs_nil, fun c ρ ρ' h Q q => by
  cases c with
  | nil => cases h; exact ⟨rfl, q⟩
  | cons _ _ => cases h⟩
theorem gvsm_cons {i : Nat} {x : Str} {pos : Pos} {es : List Expr} {gs : TGs} {u : MGs} (h : GVM X ow (.Name x pos) (gName i) (gmName i)) (h2 : GVsM X ow es gs u)
    (hs : (assignEach (.Name x pos :: es) X.env).map (·.2) = assign (.Name x pos) X.env :: (assignEach es X.env).map (·.2) := by rfl) : GVsM X ow (.Name x pos :: es) (gCons (gName i) gs) (gmCons (gmName i) u) := by
  obtain ⟨w, a1, a2⟩ := h
  obtain ⟨v, b1, b2⟩ := h2
  refine ⟨_, cgvs_cons (i := i) ⟨a1.p, gv_name, a1.k⟩ b1 hs, fun c ρ ρ' h Q q => ?_⟩
  cases c with
  | nil => cases h
  | cons c r =>
    obtain ⟨ρ1, h1, h2⟩ := Option.bind_eq_some_iff.mp h
    refine ⟨c, r, rfl, ?_⟩
    unfold gmName at h1
    split at h1
    · next h3 => cases h1; exact ⟨h3.1, h3.2, b2 r _ ρ' h2 Q q⟩
    · cases h1
theorem gvm_tup {es : List Expr} {k : Nat} {n : Nat} {pos : Pos} {gs : TGs} {u : MGs} (h : GVsM X ow es gs u) (hc : X.calm = true)
    (hn : (assignEach es X.env).length = n := by rfl) (hst : (assignEach es X.env).findIdx? (·.1) = none := by rfl) : GVM X ow (.Tuple es k pos) (gTup X.K n gs) (gmTup n u) := by
  obtain ⟨w, a1, a2⟩ := h
  refine ⟨_, cgv_tup a1 hc hn hst, fun c ρ ρ' h Q q => ?_⟩
  unfold gmTup at h
  split at h
  · next ds hd =>
    split at h
    · next hl => exact ⟨ds, hd, hl, a2 _ ρ ρ' h Q q⟩
    · cases h
  · cases h
end
/-- what a comprehension's turn says of an item -/
theorem lc_m {n : Nat} {it : MI} {g : MG} {t : MT} {e : ME} {ow : List Nat} : ∀ ρ Q XQ, we_ (mLc n it g t e ow) ρ Q XQ → wLc n (wi_ it) (gV g) (we_ t) (we_ e) ow ρ Q XQ := fun ρ Q XQ h => by
  simp only [we_, mLc, wR_bind] at h
  refine wR_mono h fun p _ h => ?_
  obtain ⟨b, xs⟩ := p
  intro cs _
  obtain ⟨hz, h⟩ := wR_ite h
  let pb : Cell → Bool := fun x => match g x (wipeE ρ ow) with | some ρ' => (match t ρ' with | .ok b => b | _ => false) | none => false
  let fd : Cell → D := fun x => match g x (wipeE ρ ow) with | some ρ' => (match e ρ' with | .ok c => c.d | _ => .non) | none => .non
  have key : ∀ xs : List Cell, ∀ Q : Cell → Prop, wR ((lcL n ow g t e ρ xs).bind fun ds => .ok (own (n + 1) (.lst ds))) Q XQ →
      ∃ ds, lcL n ow g t e ρ xs = .ok ds := fun xs Q h => by
    cases hl : lcL n ow g t e ρ xs with
    | ok ds => exact ⟨ds, rfl⟩
    | ex x =>
      exfalso
      clear h
      revert x
      induction xs with
      | nil => intro x hl; cases hl
      | cons y ys ih =>
        intro x hl
        rw [lcL] at hl
        split at hl
        · cases hl
        · split at hl
          · split at hl
            · split at hl
              · cases hy : lcL n ow g t e ρ ys with
                | ok ds => rw [hy] at hl; cases hl
                | ex z => exact ih z hy
                | bad => rw [hy] at hl; cases hl
              · cases hl
            · cases hl
          · exact ih x hl
          · cases hl
    | bad => rw [hl] at h; exact h.elim
  have all : ∀ xs : List Cell, ∀ ds, lcL n ow g t e ρ xs = .ok ds → ds = (xs.filter pb).map fd ∧ ∀ x ∈ xs, ∃ ρ', g x (wipeE ρ ow) = some ρ' ∧ wR (t ρ') (fun b => b = pb x ∧ (b = true → wR (e ρ') (fun c => c.fits n = true ∧ c.d = fd x) XF)) XF := by
    intro xs
    induction xs with
    | nil => intro ds h; cases h; exact ⟨rfl, fun x hx => nomatch hx⟩
    | cons y ys ih =>
      intro ds h
      rw [lcL] at h
      split at h
      · cases h
      · next ρ' hg =>
        split at h
        · next ht =>
          split at h
          · next c he =>
            split at h
            · next hf =>
              cases hy : lcL n ow g t e ρ ys with
              | ok dt =>
                rw [hy] at h
                cases h
                obtain ⟨i1, i2⟩ := ih dt hy
                have hp : pb y = true := by show (match g y (wipeE ρ ow) with | some ρ' => (match t ρ' with | .ok b => b | _ => false) | none => false) = true; rw [hg]; simp only; rw [ht]
                have hfd : fd y = c.d := by show (match g y (wipeE ρ ow) with | some ρ' => (match e ρ' with | .ok c => c.d | _ => .non) | none => .non) = c.d; rw [hg]; simp only; rw [he]
                refine ⟨by rw [List.filter_cons, if_pos hp, List.map_cons, hfd, i1], fun x hx => ?_⟩
                rcases List.mem_cons.mp hx with rfl | hx
                · exact ⟨ρ', hg, by rw [ht]; exact ⟨hp.symm, fun _ => by rw [he]; exact ⟨hf, hfd.symm⟩⟩⟩
                · exact i2 x hx
              | ex z => rw [hy] at h; cases h
              | bad => rw [hy] at h; cases h
            · cases h
          · cases h
        · next ht =>
          obtain ⟨i1, i2⟩ := ih ds h
          have hp : pb y = false := by show (match g y (wipeE ρ ow) with | some ρ' => (match t ρ' with | .ok b => b | _ => false) | none => false) = false; rw [hg]; simp only; rw [ht]
          refine ⟨by rw [List.filter_cons, if_neg (by rw [hp]; exact Bool.false_ne_true)]; exact i1, fun x hx => ?_⟩
          rcases List.mem_cons.mp hx with rfl | hx
          · exact ⟨ρ', hg, by rw [ht]; exact ⟨hp.symm, fun z => by cases z⟩⟩
          · exact i2 x hx
        · cases h
  obtain ⟨ds, hds⟩ := key xs Q h
  obtain ⟨h1, h2⟩ := all xs ds hds
  refine ⟨pb, fd, h2, hz, ?_⟩
  simp only at h
  rw [hds] at h
  rw [← h1]
  exact h
/-- the usual comprehension: items that a function f tells, of those that p lets through -/
theorem lcL_map {α : Type} {n : Nat} {ow : List Nat} {g : MG} {t : MT} {e : ME} {ρ : Env} (k : α → Cell) (p : α → Bool) (f : α → D) : ∀ (xs : List α),
    (∀ x ∈ xs, ∃ ρ', g (k x) (wipeE ρ ow) = some ρ' ∧ t ρ' = .ok (p x) ∧ (p x = true → ∃ c, e ρ' = .ok c ∧ c.fits n = true ∧ c.d = f x)) → lcL n ow g t e ρ (xs.map k) = .ok ((xs.filter p).map f)
  | [], _ => rfl
  | x :: xs, h => by
    obtain ⟨ρ', h1, h2, h3⟩ := h x List.mem_cons_self
    have ih := lcL_map k p f xs fun y hy => h y (List.mem_cons_of_mem _ hy)
    rw [List.map_cons, lcL, h1]
    simp only
    rw [h2]
    cases hp : p x with
    | true =>
      obtain ⟨c, h4, h5, h6⟩ := h3 hp
      simp only
      rw [h4]
      simp only
      rw [if_pos h5, ih, R.bind_ok, List.filter_cons, if_pos hp, List.map_cons, h6]
    | false =>
      simp only
      rw [ih, List.filter_cons, if_neg (by rw [hp]; exact Bool.false_ne_true)]
section
variable {X : Cx} {W : WX} {elt tg iter : Expr} {ifs : List Expr} {scope : Scope} {ow : List (Str × Nat)} {pos spos : Pos} {ti : TI} {it : MI} {g : MG} {mt : MT} {me : ME}
  {gt : Shared → Hp → Addr → List (Str × Addr) → List Addr → TG} {tt : Shared → Hp → Addr → List (Str × Addr) → List Addr → TT} {te : Shared → Hp → Addr → List (Str × Addr) → List Addr → TE}
theorem em_lc (n : Nat) (hc : X.calm = true) (hN : X.N.Nodup) (hi : IM X W tg iter ti it) (ok : BlkOk X.N X.env.scope scope ow)
    (hg : ∀ (s : Shared) (H : Hp) (C : Addr) (cl : List (Str × Addr)) (fp : List Addr), GVM (X.blk s H scope (compEnvC scope cl C X.env) fp) (ow.map (·.2)) tg (gt s H C cl fp) g)
    (ht : ∀ (s : Shared) (H : Hp) (C : Addr) (cl : List (Str × Addr)) (fp : List Addr), TMs (X.blk s H scope (compEnvC scope cl C X.env) fp) WF0 ifs (tt s H C cl fp) mt)
    (he : ∀ (s : Shared) (H : Hp) (C : Addr) (cl : List (Str × Addr)) (fp : List Addr), EM (X.blk s H scope (compEnvC scope cl C X.env) fp) WF0 elt (te s H C cl fp) me)
    (hs : ∀ x, foldedSetIterable iter X.env x = pure x := by intro _; rfl)
    (qg : ∀ (s : Shared) (H : Hp) (C : Addr) (cl : List (Str × Addr)) (fp : List Addr), gt s H C cl fp = gt X.s_0 X.H_0 0 [] [] := by intros; rfl) (qt : ∀ (s : Shared) (H : Hp) (C : Addr) (cl : List (Str × Addr)) (fp : List Addr), tt s H C cl fp = tt X.s_0 X.H_0 0 [] [] := by intros; rfl)
    (qe : ∀ (s : Shared) (H : Hp) (C : Addr) (cl : List (Str × Addr)) (fp : List Addr), te s H C cl fp = te X.s_0 X.H_0 0 [] [] := by intros; rfl) :
    EM X W (.ListComp elt [⟨tg, iter, ifs, 0⟩] scope pos) (tLc ti (gt X.s_0 X.H_0 0 [] []) (tt X.s_0 X.H_0 0 [] []) (te X.s_0 X.H_0 0 [] []) (ow.map (·.2))) (mLc n it g mt me (ow.map (·.2))) :=
  (ce_lc n hc hN hi ok (fun s H C cl fp => (hg s H C cl fp).cgv) ht he hs qg qt qe).mono lc_m
theorem sm_setLc {i : Nat} {y : Str} {py : Pos} (n : Nat) (hc : X.calm = true) (hN : X.N.Nodup) (hy : X.N[i]? = some y) (hyl : X.env.scope.names.lookup y = some .local)
    (hsw : swapsWith (.ListComp elt [⟨tg, iter, ifs, 0⟩] scope pos) (some (.Name y py)) spos.line X.env = pure true) (hi : IM X W tg iter ti it) (ok : BlkOk X.N X.env.scope scope ow)
    (hg : ∀ (s : Shared) (H : Hp) (C : Addr) (cl : List (Str × Addr)) (fp : List Addr), GVM (X.blk s H scope (compEnvC scope cl C X.env) fp) (ow.map (·.2)) tg (gt s H C cl fp) g)
    (ht : ∀ (s : Shared) (H : Hp) (C : Addr) (cl : List (Str × Addr)) (fp : List Addr), TMs (X.blk s H scope (compEnvC scope cl C X.env) fp) WF0 ifs (tt s H C cl fp) mt)
    (he : ∀ (s : Shared) (H : Hp) (C : Addr) (cl : List (Str × Addr)) (fp : List Addr), EM (X.blk s H scope (compEnvC scope cl C X.env) fp) WF0 elt (te s H C cl fp) me)
    (hs : ∀ x, foldedSetIterable iter X.env x = pure x := by intro _; rfl)
    (qg : ∀ (s : Shared) (H : Hp) (C : Addr) (cl : List (Str × Addr)) (fp : List Addr), gt s H C cl fp = gt X.s_0 X.H_0 0 [] [] := by intros; rfl) (qt : ∀ (s : Shared) (H : Hp) (C : Addr) (cl : List (Str × Addr)) (fp : List Addr), tt s H C cl fp = tt X.s_0 X.H_0 0 [] [] := by intros; rfl)
    (qe : ∀ (s : Shared) (H : Hp) (C : Addr) (cl : List (Str × Addr)) (fp : List Addr), te s H C cl fp = te X.s_0 X.H_0 0 [] [] := by intros; rfl) :
    SM X W (.Assign [.Name y py] (.ListComp elt [⟨tg, iter, ifs, 0⟩] scope pos) spos) (tAsg (tLc ti (gt X.s_0 X.H_0 0 [] []) (tt X.s_0 X.H_0 0 [] []) (te X.s_0 X.H_0 0 [] []) (ow.map (·.2))) (gName i)) (sAsg (mLc n it g mt me (ow.map (·.2))) (gmName i)) :=
  (cs_setLc n hc hN hy hyl hsw hi ok (fun s H C cl fp => (hg s H C cl fp).cgv) ht he hs qg qt qe).mono fun D ρ h => by
    exact lc_m ρ _ _ (asg_name_m h)
end
end VL
set_option maxRecDepth 100000
/-! WD: what changes the slots while it is evaluated; arguments that a callee may change; defs. -/
namespace VL
open PySem L2
variable [TB : Tbs]

inductive RF (α : Type) where
  | ok (a : α) (ρ : Env) | ex (x : Exn) (ρ : Env) | bad
abbrev MF := Env → RF Cell
abbrev MFA := Env → RF (List Cell)
def RF.bind {α β : Type} (r : RF α) (f : α → Env → RF β) : RF β := match r with
  | .ok a ρ => f a ρ | .ex x ρ => .ex x ρ | .bad => .bad
theorem RF.bind_ok {α β : Type} (a : α) (ρ : Env) (f : α → Env → RF β) : (RF.ok a ρ).bind f = f a ρ := rfl
theorem RF.bind_ex {α β : Type} (x : Exn) (ρ : Env) (f : α → Env → RF β) : (RF.ex x ρ).bind f = .ex x ρ := rfl
theorem RF.bind_bad {α β : Type} (f : α → Env → RF β) : (RF.bad : RF α).bind f = .bad := rfl
def RF.lift {α : Type} (r : R α) (ρ : Env) : RF α := match r with
  | .ok a => .ok a ρ | .ex x => .ex x ρ | .bad => .bad
def RF.opt {α : Type} (o : Option α) (ρ : Env) : RF α := match o with
  | some a => .ok a ρ | none => .bad
def Cell.nl (c : Cell) : Bool := match c.b with | .l => false | _ => true
theorem Cell.nl_ne {c : Cell} (h : c.nl = true) : c.b ≠ .l := fun e => by unfold Cell.nl at h; rw [e] at h; cases h
section
variable (K : PySem.W.Frag) (mg : Str → Option Value) (W : WX)
/-- an exception's way out, the slots being as ρ' tells -/
def XF_ (S : Hp) (F : Hl) (A : Nat → V) (σ : St) (x : Exn) (ρ' : Env) : Prop := ∀ cls d S' H', σ.length = ρ'.length → Same S S' → ExnOk K mg S' x cls d → SRel K S' F A H' ρ' σ → W cls d σ H'
def FxOk (t : TE) (m : MF) : Prop := ∀ ρ S F A H σ Le M Q', σ.length = ρ.length → Slots K S F A ρ σ Le → HRel S (M ++ (Le ++ F)) H → match m ρ with
  | .ok c ρ' => (∀ v S' H' Le' Lc, σ.length = ρ'.length → Same S S' → Slots K S' F A ρ' σ Le' → CellOk K S' [] F c v Lc → HRel S' (Lc ++ (M ++ (Le' ++ F))) H' → Q' v H') → t σ H Q'
  | .ex x ρ' => XF_ K mg W S F A σ x ρ' → t σ H Q'
  | .bad => True
def FaOk (t : TA) (m : MFA) : Prop := ∀ ρ S F A H σ Le M Q', σ.length = ρ.length → Slots K S F A ρ σ Le → HRel S (M ++ (Le ++ F)) H → match m ρ with
  | .ok cs ρ' => (∀ vs S' H' Le' Lc, σ.length = ρ'.length → Same S S' → Slots K S' F A ρ' σ Le' → Tmp K S' [] F cs vs Lc → HRel S' (Lc ++ (M ++ (Le' ++ F))) H' → Q' vs H') → t σ H Q'
  | .ex x ρ' => XF_ K mg W S F A σ x ρ' → t σ H Q'
  | .bad => True
end
structure FM (X : Cx) (W : WX) (e : Expr) (t : TE) (m : MF) : Prop where
  p : PE X e t
  s : FxOk X.K X.mg W t m
structure FAM (X : Cx) (W : WX) (es : List Expr) (t : TA) (m : MFA) : Prop where
  p : PA X es t
  s : FaOk X.K X.mg W t m
section
variable {K : PySem.W.Frag} {mg : Str → Option Value} {W : WX} {S S' : Hp} {F : Hl} {A : Nat → V} {H : Hp} {σ : St} {ρ ρ' : Env} {x : Exn}
theorem XF_.ex (h : XF_ K mg W S F A σ x ρ') (e : Same S S') : XF_ K mg W S' F A σ x ρ' := fun cls d S2 H2 l e2 => h cls d S2 H2 l (e.trans e2)
/-- a pure expression, its value no view -/
def fPure (m : ME) : MF := fun ρ => match m ρ with
  | .ok c => if c.nl = true then .ok c ρ else .bad
  | .ex x => .ex x ρ
  | .bad => .bad
def faPure (m : MA) : MFA := fun ρ => match m ρ with
  | .ok cs => if cs.all Cell.nl = true then .ok cs ρ else .bad
  | .ex x => .ex x ρ
  | .bad => .bad
theorem Tmp.lf2 {Fl Fl' : Hl} : ∀ {cs : List Cell} {vs : List V} {L : Hl}, Tmp K S Fl F cs vs L → cs.all Cell.nl = true → Tmp K S Fl' F cs vs L
  | _, _, _, .nil, _ => .nil
  | _, _, _, .cons (c := c) a t, h => by
    rw [List.all_cons, Bool.and_eq_true] at h
    exact .cons (a.lf (Cell.nl_ne h.1)) (Tmp.lf2 t h.2)
theorem fx_pure_s {t : TE} {m : ME} (h : ExprOk K mg W t (we_ m)) : FxOk K mg W t (fPure m) := by
  intro ρ S F A H σ Le M Q' hl sl hr
  unfold fPure
  have hr' : HRel S ([] ++ ((M ++ Le) ++ F)) H := by rw [List.nil_append, List.append_assoc]; exact hr
  have ev : EnvV K S (M ++ Le) F ρ σ := sl.view (List.sublist_append_right M Le)
  cases hm : m ρ with
  | ok c =>
    simp only
    by_cases hc : c.nl = true
    · rw [if_pos hc]
      intro k
      refine h ρ (fun c' => c' = c) (fun _ => False) (by simp only [we_]; rw [hm]; rfl) S (M ++ Le) F H σ [] [] Q' ev ⟨[], .nil, hr'⟩ (fun c' v S1 H1 q e1 r1 => ?_) (fun x cls d S' H' hx => hx.elim)
      subst q
      obtain ⟨L, t1, hr1⟩ := r1
      exact k v S1 H1 Le L hl e1 (sl.ex e1) (t1.one.lf (Cell.nl_ne hc)) (by rw [List.append_assoc] at hr1; exact hr1)
    · rw [if_neg hc]; trivial
  | ex x =>
    intro k
    refine h ρ (fun _ => False) (fun y => y = x) (by simp only [we_]; rw [hm]; rfl) S (M ++ Le) F H σ [] [] Q' ev ⟨[], .nil, hr'⟩ (fun _ _ _ _ q => q.elim) (fun y cls d S1 H1 hy e1 ex hr1 => ?_)
    subst hy
    exact k cls d S1 H1 hl e1 ex ⟨Le, sl.ex e1, hr1.sub (by rw [List.append_assoc]; exact List.sublist_append_right _ _)⟩
  | bad => trivial
theorem fa_pure_s {t : TA} {m : MA} (h : ArgsOk K mg W t (we_ m)) : FaOk K mg W t (faPure m) := by
  intro ρ S F A H σ Le M Q' hl sl hr
  unfold faPure
  have hr' : HRel S ([] ++ ((M ++ Le) ++ F)) H := by rw [List.nil_append, List.append_assoc]; exact hr
  have ev : EnvV K S (M ++ Le) F ρ σ := sl.view (List.sublist_append_right M Le)
  cases hm : m ρ with
  | ok cs =>
    simp only
    by_cases hc : cs.all Cell.nl = true
    · rw [if_pos hc]
      intro k
      refine h ρ (fun c' => c' = cs) (fun _ => False) (by simp only [we_]; rw [hm]; rfl) S (M ++ Le) F H σ [] [] Q' ev ⟨[], .nil, hr'⟩ (fun c' v S1 H1 q hln e1 r1 => ?_) (fun x cls d S' H' hx => hx.elim)
      subst q
      obtain ⟨L, t1, hr1⟩ := r1
      rw [List.append_nil, List.append_nil] at t1
      exact k v S1 H1 Le L hl e1 (sl.ex e1) (t1.lf2 hc) (by rw [List.append_assoc] at hr1; exact hr1)
    · rw [if_neg hc]; trivial
  | ex x =>
    intro k
    refine h ρ (fun _ => False) (fun y => y = x) (by simp only [we_]; rw [hm]; rfl) S (M ++ Le) F H σ [] [] Q' ev ⟨[], .nil, hr'⟩ (fun _ _ _ _ q => q.elim) (fun y cls d S1 H1 hy e1 ex hr1 => ?_)
    subst hy
    exact k cls d S1 H1 hl e1 ex ⟨Le, sl.ex e1, hr1.sub (by rw [List.append_assoc]; exact List.sublist_append_right _ _)⟩
  | bad => trivial
/-! arguments one by one -/
def faNil : MFA := fun ρ => .ok [] ρ
def faCons (a : MF) (r : MFA) : MFA := fun ρ => (a ρ).bind fun c ρ1 => if c.nl = true then (r ρ1).bind fun cs ρ2 => .ok (c :: cs) ρ2 else .bad
theorem fa_nil_s : FaOk K mg W tNil faNil := fun ρ S F A H σ Le M Q' hl sl hr k => k [] S H Le [] hl (Same.refl S) sl .nil hr
theorem hperm3 {L : Hl} {A B C : Hl} (h : HRel S (A ++ (B ++ C)) H) : HRel S (B ++ (A ++ C)) H := h.perm (perm_abc A B C)
theorem fa_cons_s {t : TE} {ts : TA} {a : MF} {r : MFA} (ha : FxOk K mg W t a) (hb : FaOk K mg W ts r) : FaOk K mg W (tCons t ts) (faCons a r) := by
  intro ρ S F A H σ Le M Q' hl sl hr
  have h1 := ha ρ S F A H σ Le M (fun v H1 => ts σ H1 fun vs H2 => Q' (v :: vs) H2) hl sl hr
  unfold faCons
  cases hm : a ρ with
  | bad => trivial
  | ex x ρ1 =>
    rw [hm] at h1
    exact h1
  | ok c ρ1 =>
    rw [hm] at h1
    simp only [RF.bind_ok]
    by_cases hc : c.nl = true
    · rw [if_pos hc]
      cases hm2 : r ρ1 with
      | bad => trivial
      | ex x ρ2 =>
        intro k
        refine h1 fun v S1 H1 Le1 Lc l1 e1 sl1 c1 hr1 => ?_
        have h2 := hb ρ1 S1 F A H1 σ Le1 (Lc ++ M) (fun vs H2 => Q' (v :: vs) H2) l1 sl1 (by rw [List.append_assoc]; exact hr1)
        rw [hm2] at h2
        exact h2 (k.ex e1)
      | ok cs ρ2 =>
        intro k
        refine h1 fun v S1 H1 Le1 Lc l1 e1 sl1 c1 hr1 => ?_
        have h2 := hb ρ1 S1 F A H1 σ Le1 (Lc ++ M) (fun vs H2 => Q' (v :: vs) H2) l1 sl1 (by rw [List.append_assoc]; exact hr1)
        rw [hm2] at h2
        refine h2 fun vs S2 H2 Le2 Ld l2 e2 sl2 t2 hr2 => ?_
        refine k (v :: vs) S2 H2 Le2 (Lc ++ Ld) l2 (e1.trans e2) sl2 (.cons (c1.ex e2) t2) ?_
        rw [List.append_assoc] at hr2 ⊢
        exact hr2.perm (perm_abc Ld Lc _)
    · rw [if_neg hc]; trivial
theorem CellOk.up {Fl : Hl} {c : Cell} {v : V} {L : Hl} (h : CellOk K S [] F c v L) : CellOk K S Fl F c v L := by
  cases h with
  | o h => exact .o h
  | l q h => exact .l (q.trans (List.nil_sublist _)) h
  | p q h => exact .p q h
  | m h => exact .m h
theorem Tmp.up {Fl : Hl} : ∀ {cs : List Cell} {vs : List V} {L : Hl}, Tmp K S [] F cs vs L → Tmp K S Fl F cs vs L
  | _, _, _, .nil => .nil
  | _, _, _, .cons a t => .cons a.up t.up
/-! operations over what was evaluated -/
def fCB (o : MC) (a : MFA) : MF := fun ρ => (a ρ).bind fun cs ρ1 => match o cs with
  | some c => if c.nl = true then .ok c ρ1 else .bad
  | none => .bad
theorem fx_cb_s {r : List V → Hp → VK → Prop} {mo : MC} {ta : TA} {a : MFA} (h : CbM K r mo) (ha : FaOk K mg W ta a) : FxOk K mg W (tCB r ta) (fCB mo a) := by
  obtain ⟨wo, q1, q2⟩ := h
  intro ρ S F A H σ Le M Q' hl sl hr
  have h1 := ha ρ S F A H σ Le M (fun vs H1 => r vs H1 Q') hl sl hr
  unfold fCB
  cases hm : a ρ with
  | bad => trivial
  | ex x ρ1 => rw [hm] at h1; exact h1
  | ok cs ρ1 =>
    rw [hm] at h1
    simp only [RF.bind_ok]
    cases ho : mo cs with
    | none => trivial
    | some c =>
      simp only
      by_cases hc : c.nl = true
      · rw [if_pos hc]
        intro k
        refine h1 fun vs S1 H1 Le1 Lc l1 e1 sl1 t1 hr1 => ?_
        refine q1 cs (fun c' => c' = c) (q2 cs c ho _ rfl) S1 (M ++ Le1) F H1 vs [] [] Q' t1.length ?_ fun c' v S2 H2 hq e2 r2 => ?_
        · rw [List.append_nil, List.append_nil]
          refine ⟨Lc, ?_, by rw [List.append_assoc]; exact hr1⟩
          exact t1.up
        · subst hq
          obtain ⟨L2, t2, hr2⟩ := r2
          exact k v S2 H2 Le1 L2 l1 (e1.trans e2) (sl1.ex e2) (t2.one.lf (Cell.nl_ne hc)) (by rw [List.append_assoc] at hr2; exact hr2)
      · rw [if_neg hc]; trivial
def fOp (o : MO) (a b : MF) : MF := fun ρ => (a ρ).bind fun x ρ1 => if x.nl = true then (b ρ1).bind fun y ρ2 => match o x y with
    | some c => if c.nl = true then .ok c ρ2 else .bad
    | none => .bad
  else .bad
theorem fx_op_s {r : R2} {mo : MO} {ta tb : TE} {a b : MF} (h : OpM K r mo) (ha : FxOk K mg W ta a) (hb : FxOk K mg W tb b) : FxOk K mg W (tOp r ta tb) (fOp mo a b) := by
  obtain ⟨wo, q1, q2⟩ := h
  intro ρ S F A H σ Le M Q' hl sl hr
  have h1 := ha ρ S F A H σ Le M (fun x H1 => tb σ H1 fun y H2 => r x y H2 Q') hl sl hr
  unfold fOp
  cases hm : a ρ with
  | bad => trivial
  | ex x ρ1 => rw [hm] at h1; exact h1
  | ok c ρ1 =>
    rw [hm] at h1
    simp only [RF.bind_ok]
    by_cases hc : c.nl = true
    · rw [if_pos hc]
      cases hm2 : b ρ1 with
      | bad => trivial
      | ex x ρ2 =>
        intro k
        refine h1 fun v S1 H1 Le1 Lc l1 e1 sl1 c1 hr1 => ?_
        have h2 := hb ρ1 S1 F A H1 σ Le1 (Lc ++ M) (fun y H2 => r v y H2 Q') l1 sl1 (by rw [List.append_assoc]; exact hr1)
        rw [hm2] at h2
        exact h2 (k.ex e1)
      | ok d ρ2 =>
        simp only [RF.bind_ok]
        cases ho : mo c d with
        | none => trivial
        | some z =>
          simp only
          by_cases hz : z.nl = true
          · rw [if_pos hz]
            intro k
            refine h1 fun v S1 H1 Le1 Lc l1 e1 sl1 c1 hr1 => ?_
            have h2 := hb ρ1 S1 F A H1 σ Le1 (Lc ++ M) (fun y H2 => r v y H2 Q') l1 sl1 (by rw [List.append_assoc]; exact hr1)
            rw [hm2] at h2
            refine h2 fun u S2 H2 Le2 Ld l2 e2 sl2 c2 hr2 => ?_
            refine q1 c d (fun c' => c' = z) (q2 c d z ho _ rfl) S2 (M ++ Le2) F H2 v u [] [] Q' ⟨Ld ++ (Lc ++ []), .cons c2.up (.cons (c1.ex e2).up .nil), ?_⟩ fun c' w S3 H3 hq e3 r3 => ?_
            · rw [List.append_nil, List.append_assoc, List.append_assoc]
              rw [List.append_assoc] at hr2
              exact hr2
            · subst hq
              obtain ⟨L2, t2, hr3⟩ := r3
              exact k w S3 H3 Le2 L2 l2 ((e1.trans e2).trans e3) (sl2.ex e3) (t2.one.lf (Cell.nl_ne hz)) (by rw [List.append_assoc] at hr3; exact hr3)
          · rw [if_neg hz]; trivial
    · rw [if_neg hc]; trivial
def fUn (o : MU) (a : MF) : MF := fun ρ => (a ρ).bind fun x ρ1 => match o x with
    | some c => if c.nl = true then .ok c ρ1 else .bad
    | none => .bad
theorem fx_un_s {r : V → Hp → VK → Prop} {mo : MU} {ta : TE} {a : MF} (h : UnM K r mo) (ha : FxOk K mg W ta a) : FxOk K mg W (tUn r ta) (fUn mo a) := by
  obtain ⟨wo, q1, q2⟩ := h
  intro ρ S F A H σ Le M Q' hl sl hr
  have h1 := ha ρ S F A H σ Le M (fun x H1 => r x H1 Q') hl sl hr
  unfold fUn
  cases hm : a ρ with
  | bad => trivial
  | ex x ρ1 => rw [hm] at h1; exact h1
  | ok c ρ1 =>
    rw [hm] at h1
    simp only [RF.bind_ok]
    cases ho : mo c with
    | none => trivial
    | some z =>
      simp only
      by_cases hz : z.nl = true
      · rw [if_pos hz]
        intro k
        refine h1 fun v S1 H1 Le1 Lc l1 e1 sl1 c1 hr1 => ?_
        refine q1 c (fun c' => c' = z) (q2 c z ho _ rfl) S1 (M ++ Le1) F H1 v [] [] Q' ⟨Lc ++ [], .cons c1.up .nil, ?_⟩ fun c' w S3 H3 hq e3 r3 => ?_
        · rw [List.append_nil, List.append_assoc]; exact hr1
        · subst hq
          obtain ⟨L2, t2, hr3⟩ := r3
          exact k w S3 H3 Le1 L2 l1 (e1.trans e3) (sl1.ex e3) (t2.one.lf (Cell.nl_ne hz)) (by rw [List.append_assoc] at hr3; exact hr3)
      · rw [if_neg hz]; trivial
end
/-! ### as rules -/
section
variable {X : Cx} {W : WX} {e a b : Expr} {es : List Expr} {te ta tb : TE} {tr : TA} {m : ME} {ma mb : MF} {mr : MFA} {mA : MA} {pos : Pos} {r : R2} {mo : MO}
theorem fm_pure (h : EM X W e te m) : FM X W e te (fPure m) := ⟨h.p, fx_pure_s h.s⟩
theorem fam_pure (h : AM X W es tr mA) : FAM X W es tr (faPure mA) := ⟨h.p, fa_pure_s h.s⟩
theorem fam_nil : FAM X W [] tNil faNil := ⟨pa_nil, fa_nil_s⟩
theorem fam_cons (ha : FM X W e te ma) (hr : FAM X W es tr mr) (hs : starEach (e :: es) X.env = (false, eval e X.env) :: starEach es X.env := by rfl) : FAM X W (e :: es) (tCons te tr) (faCons ma mr) := ⟨pa_cons ha.p hr.p hs, fa_cons_s ha.s hr.s⟩
theorem fm_op {op : Operator} (ho : OpR X (binaryOp op) r) (h : OpM X.K r mo) (ha : FM X W a ta ma) (hb : FM X W b tb mb) : FM X W (.BinOp a op b pos) (tOp r ta tb) (fOp mo ma mb) := ⟨pe_op ho ha.p hb.p, fx_op_s h ha.s hb.s⟩
theorem fm_un {op : UnaryOp} {r : V → Hp → VK → Prop} {mo : MU} (ho : UnR X (unaryOp op) r) (h : UnM X.K r mo) (ha : FM X W a ta ma) : FM X W (.UnaryOp op a pos) (tUn r ta) (fUn mo ma) := ⟨pe_un ho ha.p, fx_un_s h ha.s⟩
theorem fm_cmp {op : CmpOp} (ho : OpR X (compareOp op) r) (h : OpM X.K r mo) (ha : FM X W a ta ma) (hb : FM X W b tb mb) (hm : behindInMarks op b = false) : FM X W (.Compare a [op] [b] pos) (tOp r ta tb) (fOp mo ma mb) := ⟨pe_cmpR ho ha.p hb.p hm, fx_op_s h ha.s hb.s⟩
theorem fm_ix (ho : IxR X r) (h : OpM X.K r mo) (ha : FM X W a ta ma) (hb : FM X W b tb mb) (hs : PlainIx b) : FM X W (.Subscript a b pos) (tOp r ta tb) (fOp mo ma mb) := ⟨pe_ix ho ha.p hb.p hs, fx_op_s h ha.s hb.s⟩
end
/-! ### statements -/
section
variable {X : Cx} {W : WX} {e tg : Expr} {te : TE} {m : MF} {g : TG} {mg' : MG} {pos : Pos}
def ofRF {α : Type} (r : RF α) (k : α → Env → SR) : SR := match r with
  | .ok a ρ => k a ρ | .ex x ρ => .ex x ρ | .bad => .bad
def sAsgF (e : MF) (g : MG) : MS := fun ρ => ofRF (e ρ) fun c ρ1 => ofO (g c ρ1) fun ρ' => .nx ρ'
def sDropF (e : MF) : MS := fun ρ => ofRF (e ρ) fun _ ρ1 => .nx ρ1
def sRetF (e : MF) : MS := fun ρ => ofRF (e ρ) fun c ρ1 => ofO c.ret fun c' => .rt c' ρ1
/-- what stands behind an effect -/
theorem fx_at {K : PySem.W.Frag} {mg : Str → Option Value} {W : WX} {t : TE} {m : MF} {ρ : Env} {S : Hp} {F : Hl} {A : Nat → V} {H : Hp} {σ : St} {D : WEnds} {De : Ends} {k : Cell → Env → SR} {Q' : VK} (h : FxOk K mg W t m) (hw : wSR (ofRF (m ρ) k) D) (hl : σ.length = ρ.length) (r : SRel K S F A H ρ σ) (en : EndsOk K mg W S F A ρ.length D De)
    (q : ∀ c ρ' v S' H' Le' Lc, wSR (k c ρ') D → σ.length = ρ'.length → Same S S' → Slots K S' F A ρ' σ Le' → CellOk K S' [] F c v Lc → HRel S' (Lc ++ (Le' ++ F)) H' → Q' v H') : t σ H Q' := by
  obtain ⟨Le, sl, hr⟩ := r
  have h1 := h ρ S F A H σ Le [] Q' hl sl hr
  cases hm : m ρ with
  | bad => rw [hm] at hw; exact hw.elim
  | ex x ρ1 =>
    rw [hm] at hw h1
    exact h1 fun cls d S' H' l1 e ex r1 => en.ex x cls d ρ1 σ S' H' hw hl (l1.symm.trans hl) e ex r1
  | ok c ρ1 =>
    rw [hm] at hw h1
    exact h1 fun v S' H' Le' Lc l1 e sl1 c1 hr1 => q c ρ1 v S' H' Le' Lc hw l1 e sl1 c1 hr1
theorem sm_asgF (he : FM X W e te m) (hg : GM X tg g mg') (hs : swapsWithSole [tg] e pos.line X.env = pure false := by rfl) (hw : swappedStores [tg] e X.env = pure none := by rfl)
    (h1 : (assignEach [tg] X.env).map (·.2) = [assign tg X.env] := by rfl) : SM X W (.Assign [tg] e pos) (tAsg te g) (sAsgF m mg') := by
  obtain ⟨w, a1, a2⟩ := hg
  refine ⟨ps_asg he.p a1.p hs hw h1, ?_⟩
  intro D ρ hw S F A H σ De hl r en
  refine fx_at he.s hw hl r en fun c ρ1 v S' H' Le' Lc hw l1 e sl1 c1 hr1 => ?_
  obtain ⟨ρ', h4, h5⟩ := wSR_ofO hw
  refine a1.s c ρ1 D.nx (a2 c ρ1 ρ' h4 _ h5) S' F A H' [] Lc Le' σ v _ l1 sl1 c1 hr1 fun ρ2 σ2 Le2 S2 H2 q2 m1 m2 e2 sl2 hr2 => en.nx ρ2 σ2 S2 H2 q2 (m1.trans (l1.symm.trans hl)) (m2.trans (l1.symm.trans hl)) (e.trans e2) ⟨Le2, sl2, hr2⟩
theorem sm_exprF (he : FM X W e te m) (hs : swapsWith e none pos.line X.env = pure false := by rfl) : SM X W (.Expr e pos) (tDrop te) (sDropF m) := by
  refine ⟨ps_expr he.p hs, ?_⟩
  intro D ρ hw S F A H σ De hl r en
  refine fx_at he.s hw hl r en fun c ρ1 v S' H' Le' Lc hw l1 e sl1 c1 hr1 => ?_
  exact en.nx ρ1 σ S' H' hw hl (l1.symm.trans hl) e ⟨Le', sl1, hr1.sub (List.sublist_append_right _ _)⟩
theorem sm_retF (he : FM X W e te m) : SM X W (.Return (some e) pos) (tRet te) (sRetF m) := by
  refine ⟨ps_ret he.p, ?_⟩
  intro D ρ hw S F A H σ De hl r en
  refine fx_at he.s hw hl r en fun c ρ1 v S' H' Le' Lc hw l1 e sl1 c1 hr1 => ?_
  obtain ⟨c', hc, q⟩ := wSR_ofO hw
  cases c1 with
  | @o n d v L h => cases hc; exact en.rt _ v ρ1 σ _ _ S' H' q e (.o h) sl1 hr1
  | @m j n d v L h => cases hc; exact en.rt _ v ρ1 σ _ _ S' H' q e (.o h) sl1 hr1
  | @l n d v L q1 h =>
    cases hc
    cases List.sublist_nil.mp q1
    exact en.rt _ v ρ1 σ _ _ S' H' q e (.o h) sl1 hr1
  | @p n d v L q1 h =>
    cases n with
    | zero => cases hc; cases h with | sh h => exact en.rt _ v ρ1 σ [] _ S' H' q e (.o (.sh h)) sl1 hr1
    | succ n => cases hc
end
end VL
set_option maxRecDepth 100000
/-! WE: moves, methods that change a slot's own container, stores into it; defs and their calls. -/
namespace VL
open PySem L2
variable [TB : Tbs]

section
variable {K : PySem.W.Frag} {S S' : Hp} {F : Hl} {A : Nat → V} {H : Hp} {mg : Str → Option Value} {W : WX} {σ : St}
/-- a slot's cell taken out -/
theorem Slots.takeN {ρ : Env} {c : Cell} : ∀ {σ : St} {L : Hl} {i : Nat}, ρ[i]? = some (some c) → Slots K S F A ρ σ L → ∃ v Lf R, σ[i]? = some (some v) ∧ CellOk K S [] F c v Lf ∧ (∀ j, c.b = .m j → v = A j) ∧ L.Perm (Lf ++ R) ∧ Slots K S F A (ρ.set i none) σ R := by
  intro σ L i hi h
  induction h generalizing i with
  | nil => simp at hi
  | no t ih =>
    cases i with
    | zero => simp at hi
    | succ i =>
      obtain ⟨v, Lf, R, h1, h2, hg, h3, h4⟩ := ih (i := i) (by simpa using hi)
      exact ⟨v, Lf, R, by simpa using h1, h2, hg, h3, .no h4⟩
  | @yes c0 cs v0 vs L1 L2 b gb t ih =>
    cases i with
    | zero =>
      simp at hi
      subst hi
      exact ⟨v0, L1, L2, rfl, b, gb, List.Perm.refl _, .no t⟩
    | succ i =>
      obtain ⟨v, Lf, R, h1, h2, hg, h3, h4⟩ := ih (i := i) (by simpa using hi)
      exact ⟨v, Lf, L1 ++ R, by simpa using h1, h2, hg, (h3.append_left L1).trans (perm_abc _ _ _), .yes b gb h4⟩
/-- and put back -/
theorem Slots.putN {ρ : Env} {c : Cell} {v : V} {M : Hl} {L : Hl} {i : Nat} (a : CellOk K S [] F c v M) (ga : ∀ j, c.b = .m j → v = A j) (hl : σ.length = ρ.length) (hv : σ[i]? = some (some v)) (h : Slots K S F A ρ σ L) : ∃ L', Slots K S F A (ρ.set i (some c)) σ L' ∧ ∃ R, L'.Perm (M ++ R) ∧ R.Sublist L := by
  have hi : i < ρ.length := by
    have := (List.getElem?_eq_some_iff.mp hv).1
    omega
  obtain ⟨L', h1, h2⟩ := Slots.set a ga hi h
  have : σ.set i (some v) = σ := by
    apply List.ext_getElem?
    intro j
    by_cases hj : i = j
    · subst hj
      rw [List.getElem?_set_self (by omega), hv]
    · rw [List.getElem?_set_ne hj]
  rw [this] at h1
  exact ⟨L', h1, h2⟩
/-! ### a move out of a slot -/
def fMv (i : Nat) : MF := fun ρ => match ρ[i]? with
  | some (some c) => if c.noL = true then .ok c (ρ.set i none) else .bad
  | _ => .bad
theorem fx_mv_s {i : Nat} : FxOk K mg W (tVar i) (fMv i) := by
  intro ρ S F A H σ Le M Q' hl sl hr
  unfold fMv
  rcases hc : ρ[i]? with _ | _ | c
  · trivial
  · trivial
  · simp only
    by_cases hb : c.noL = true
    · rw [if_pos hb]
      intro k
      obtain ⟨v, Lf, R, h1, h2, _, h3, h4⟩ := sl.takeN hc
      refine ⟨v, h1, k v S H R Lf (by rw [List.length_set]; exact hl) (Same.refl S) h4 h2 (hr.perm ?_)⟩
      refine (List.Perm.append_left M (h3.append_right F)).trans ?_
      rw [List.append_assoc]
      exact perm_abc _ _ _
    · rw [if_neg hb]; trivial
/-! ### methods -/
abbrev MM := Nat → D → List Cell → Option (Cell × D)
def MutM (K : PySem.W.Frag) (r : V → List V → Hp → VK → Prop) (mo : MM) : Prop := ∃ wm, MutOk K r wm ∧ ∀ m e cs c e', mo m e cs = some (c, e') → ∀ Q : Cell → D → Prop, Q c e' → wm m e cs Q
/-- a slot's own container, by its kind -/
def ownAt (T : String) (i : Nat) (ρ : Env) : Option (Bm × Nat × D) := match ρ[i]? with
  | some (some ⟨b, n + 1, d⟩) => if b.mut = true ∧ d.ty = T ∧ d.cont = true then some (b, n, d) else none
  | _ => none
theorem ownAt_of {T : String} {i : Nat} {ρ : Env} {b : Bm} {n : Nat} {d : D} (h : ownAt T i ρ = some (b, n, d)) : ρ[i]? = some (some ⟨b, n + 1, d⟩) ∧ b.mut = true ∧ d.ty = T ∧ d.cont = true := by
  unfold ownAt at h
  split at h
  · next b n d hi =>
    split at h
    · next hc => cases h; exact ⟨hi, hc⟩
    · cases h
  · cases h
def fMut (T : String) (i : Nat) (a : MFA) (mo : MM) : MF := fun ρ => match ownAt T i ρ with
  | some _ => (a ρ).bind fun cs ρ1 => match ownAt T i ρ1 with
    | some (b, n, d) => (match mo n d cs with
      | some (c, d') => .ok c (ρ1.set i (some ⟨b, n + 1, d'⟩))
      | none => .bad)
    | none => .bad
  | none => .bad
theorem CellOk.own_of {b : Bm} {n : Nat} {d : D} {v : V} {L : Hl} (h : CellOk K S [] F ⟨b, n, d⟩ v L) (hb : b.mut = true) : Own K S n v d L := by
  cases h with
  | o h => exact h
  | m h => exact h
  | l _ _ => cases hb
  | p _ _ => cases hb
theorem CellOk.of_own {b : Bm} {n : Nat} {d : D} {v : V} {L : Hl} (h : Own K S n v d L) (hb : b.mut = true) : CellOk K S [] F ⟨b, n, d⟩ v L := by
  cases b with
  | o => exact .o h
  | m j => exact .m h
  | l => cases hb
  | p => cases hb
theorem own_sees {T : String} {i : Nat} {ρ : Env} {b : Bm} {n : Nat} {d : D} {Le M : Hl} (h : ownAt T i ρ = some (b, n, d)) (sl : Slots K S F A ρ σ Le) (hr : HRel S (M ++ (Le ++ F)) H) : ∃ ad, σ[i]? = some (some (.ref ad)) ∧ tyV K T (.ref ad) H := by
  obtain ⟨hi, hb, ht, hc⟩ := ownAt_of h
  obtain ⟨v, Lf, R, h1, h2, hg, h3, _⟩ := sl.takeN hi
  have ho := h2.own_of hb
  obtain ⟨ad, rfl⟩ := ho.cref hc
  refine ⟨ad, h1, ?_⟩
  rw [← ht]
  exact ho.tyV (Nat.succ_ne_zero n) hc fun p hp => hr.all p (List.mem_append_right _ (List.mem_append_left _ (h3.mem_iff.mpr (List.mem_append_left _ hp))))
theorem fx_mut_s {T : String} {i : Nat} {r : V → List V → Hp → VK → Prop} {ta : TA} {a : MFA} {mo : MM} (hm : MutM K r mo) (ha : FaOk K mg W ta a) : FxOk K mg W (tBM K T r (tVar i) ta) (fMut T i a mo) := by
  obtain ⟨wm, q1, q2⟩ := hm
  intro ρ S F A H σ Le M Q' hl sl hr
  unfold fMut
  cases ho : ownAt T i ρ with
  | none => trivial
  | some p =>
    obtain ⟨b0, n0, d0⟩ := p
    obtain ⟨ad, hv, hty⟩ := own_sees ho sl hr
    have h1 := ha ρ S F A H σ Le M (fun vs H1 => r (.ref ad) vs H1 Q') hl sl hr
    simp only
    cases hm2 : a ρ with
    | bad => trivial
    | ex x ρ1 =>
      rw [hm2] at h1
      intro k
      exact ⟨_, hv, hty, h1 k⟩
    | ok cs ρ1 =>
      rw [hm2] at h1
      simp only [RF.bind_ok]
      cases ho2 : ownAt T i ρ1 with
      | none => trivial
      | some p =>
        obtain ⟨b, n, d⟩ := p
        simp only
        cases hmo : mo n d cs with
        | none => trivial
        | some p =>
          obtain ⟨c, d'⟩ := p
          intro k
          refine ⟨_, hv, hty, h1 fun vs S1 H1 Le1 Lc l1 e1 sl1 t1 hr1 => ?_⟩
          obtain ⟨hi, hb, _, _⟩ := ownAt_of ho2
          obtain ⟨v, Lf, R, g1, g2, gg, g3, g4⟩ := sl1.take hi
          rw [hv] at g1
          cases g1
          have how := g2.own_of hb
          refine q1 n d cs (fun c0 e0 => c0 = c ∧ e0 = d') (q2 n d cs c d' hmo _ ⟨rfl, rfl⟩) S1 [] F (M ++ (R ++ F)) H1 ad Lf vs Lc Q' how t1 (hr1.perm ?_) fun c0 v e0 S2 H2 Lf2 Lc2 hq e2 o2 c2 hr2 => ?_
          · refine (List.Perm.append_left Lc (List.Perm.append_left M (g3.append_right F))).trans ?_
            rw [List.append_assoc]
            refine (List.Perm.append_left Lc (perm_abc M Lf _)).trans (perm_abc _ _ _)
          · obtain ⟨rfl, rfl⟩ := hq
            obtain ⟨Le2, s2, p2⟩ := g4 S2 _ Lf2 e2 (CellOk.of_own o2 hb) gg
            refine k v S2 H2 Le2 Lc2 (by rw [List.length_set]; exact l1) (e1.trans e2) s2 c2 (hr2.perm ?_)
            refine List.Perm.trans ?_ (List.Perm.append_left Lc2 (List.Perm.append_left M (p2.symm.append_right F)))
            rw [List.append_assoc]
            exact (perm_abc _ _ _).trans (List.Perm.append_left Lc2 (perm_abc _ _ _))
/-! ### stores -/
abbrev MSet := Nat → D → Cell → Cell → Option D
/-- o[k] = c over a private container -/
def SetM (K : PySem.W.Frag) (t : TSet) (ms : MSet) : Prop := ∀ n e ck c e', ms n e ck c = some e' → ∀ S F R H b Lf kv v Lc (Q : Hp → Prop), Own K S (n + 1) (.ref b) e Lf → Sh K H kv ck.d → CellOk K S [] F c v Lc → HRel S (Lf ++ (Lc ++ R)) H →
  (∀ S' H' Lf', Same S S' → Own K S' (n + 1) (.ref b) e' Lf' → HRel S' (Lf' ++ R) H' → Q H') → t (.ref b) kv v H Q
def gmSet (T : String) (i : Nat) (k : ME) (ms : MSet) : MG := fun c ρ => match ownAt T i ρ with
  | some (b, n, d) => (match k ρ with
    | .ok ck => (match ms n d ck c with
      | some d' => some (ρ.set i (some ⟨b, n + 1, d'⟩))
      | none => none)
    | _ => none)
  | none => none
end
section
variable {X : Cx} {W : WX} {k : Expr} {tk : TE} {mk : ME} {pos p : Pos} {T : String} {i : Nat} {ms : MSet} {t : TSet} {x : Str}
theorem gm_set (hs : PSet X t) (hm : SetM X.K t ms) (ho : PE X (.Name x p) (tVar i)) (hk : EM X W k tk mk)
    (ha : ∀ v, assign (.Subscript (.Name x p) k pos) X.env v = (do
      let ov ← holding [v] (eval (.Name x p) X.env)
      let iv ← holding [v, ov] (eval k X.env)
      standAt pos
      holding [v, ov, iv] (setItem ov iv v)
      release [v, ov, iv] []) := by intro _; rfl) : GM X (.Subscript (.Name x p) k pos) (gSub (tVar i) tk t) (gmSet T i mk ms) := by
  refine ⟨fun c ρ Q => ∃ ρ', gmSet T i mk ms c ρ = some ρ' ∧ Q ρ', ⟨pg_sub ho hk.p hs ha, ?_⟩, fun c ρ ρ' h Q q => ⟨ρ', h, q⟩⟩
  rintro c ρ Q ⟨ρ', h, q⟩ S F A H M Lc Le σ v Q' hl sl a hr kk
  unfold gmSet at h
  cases ho : ownAt T i ρ with
  | none => rw [ho] at h; cases h
  | some pp =>
    obtain ⟨b, n, d⟩ := pp
    rw [ho] at h
    simp only at h
    cases hk2 : mk ρ with
    | ex _ => rw [hk2] at h; cases h
    | bad => rw [hk2] at h; cases h
    | ok ck =>
      rw [hk2] at h
      simp only at h
      cases hms : ms n d ck c with
      | none => rw [hms] at h; cases h
      | some d' =>
        rw [hms] at h
        cases h
        obtain ⟨hi, hb, _, hcn⟩ := ownAt_of ho
        obtain ⟨v0, Lf, R, g1, g2, gg, g3, g4⟩ := sl.take hi
        have how := g2.own_of hb
        obtain ⟨ad, rfl⟩ := how.cref hcn
        refine ⟨_, g1, ?_⟩
        have hr' : HRel S ([] ++ ((M ++ (Lc ++ Le)) ++ F)) H := by
          rw [List.nil_append, List.append_assoc, List.append_assoc]; exact hr
        refine hk.s ρ (fun c' => c' = ck) (fun _ => False) (by simp only [we_]; rw [hk2]; rfl) S (M ++ (Lc ++ Le)) F H σ [] [] _ (sl.view ((List.sublist_append_right Lc Le).trans (List.sublist_append_right M _))) ⟨[], .nil, hr'⟩ (fun c' kv S1 H1 hq e1 r1 => ?_) (fun _ _ _ _ _ hx => hx.elim)
        subst hq
        have hks := r1.sh
        have hr1 := r1.tail.base
        rw [List.append_assoc, List.append_assoc] at hr1
        refine hm n d c' c d' hms S1 F (M ++ (R ++ F)) H1 ad Lf kv v Lc _ (how.ex e1) hks (a.ex e1) (hr1.perm ?_) fun S2 H2 Lf2 e2 o2 hr2 => ?_
        · refine (List.Perm.append_left M (List.Perm.append_left Lc (g3.append_right F))).trans ?_
          rw [List.append_assoc]
          refine (List.Perm.append_left M (perm_abc Lc Lf _)).trans ((perm_abc M Lf _).trans (List.Perm.append_left Lf (perm_abc M Lc _)))
        · obtain ⟨Le2, s2, p2⟩ := g4 S2 _ Lf2 (e1.trans e2) (CellOk.of_own o2 hb) gg
          refine kk _ σ Le2 S2 H2 q hl (List.length_set ..) (e1.trans e2) s2 (hr2.perm ?_)
          refine List.Perm.trans ?_ (List.Perm.append_left M (p2.symm.append_right F))
          rw [List.append_assoc]
          exact perm_abc _ _ _
end
end VL
set_option maxRecDepth 100000
/-! WF: defs as functions of cells (FR), their promise, their calls. -/
namespace VL
open PySem L2
variable [TB : Tbs]

inductive FR where
  | ok (n : Nat) (d : D) (ds : List D) | ex (x : Exn) (ds : List D) | bad
abbrev MFn := List Cell → FR
/-- which arguments come back changed: place, depth -/
def iosF : Nat → List Cell → List (Nat × Nat)
  | _, [] => []
  | k, c :: cs => match c.b with
    | .m j => if j = k then (k, c.n) :: iosF (k + 1) cs else iosF (k + 1) cs
    | _ => iosF (k + 1) cs
def ioOut (ρ : Env) : List (Nat × Nat) → Option (List D)
  | [] => some []
  | (j, n) :: r => match ρ[j]? with
    | some (some ⟨.m j', n', d⟩) => if j' = j ∧ n' = n then (ioOut ρ r).map (d :: ·) else none
    | _ => none
section
variable (K : PySem.W.Frag) (S : Hp) (A : Nat → V)
inductive OwnIo : List (Nat × Nat) → List D → Hl → Prop
  | nil : OwnIo [] [] []
  | cons {j n : Nat} {r : List (Nat × Nat)} {d : D} {ds : List D} {L1 L2 : Hl} : Own K S n (A j) d L1 → OwnIo r ds L2 → OwnIo ((j, n) :: r) (d :: ds) (L1 ++ L2)
end
def FRq (K : PySem.W.Frag) (mg : Str → Option Value) (S : Hp) (F : Hl) (A : Nat → V) (Q : VK) (E : XK) (ios : List (Nat × Nat)) (r : FR) : Prop := match r with
  | .ok m d ds => ∀ v S' H' Lc Lo, Same S S' → Own K S' m v d Lc → OwnIo K S' A ios ds Lo → HRel S' (Lc ++ (Lo ++ F)) H' → Q v H'
  | .ex x ds => ∀ cls d S' H' Lo, Same S S' → ExnOk K mg S' x cls d → OwnIo K S' A ios ds Lo → HRel S' (Lo ++ F) H' → E cls d H'
  | .bad => False
def spM (K : PySem.W.Frag) (mg : Str → Option Value) (n : Nat) (mf : MFn) : Sp := fun vs H Q E => ∃ cs S F A Lio, vs.length = n ∧ Slots K S F A (cs.map some) (vs.map some) Lio ∧ HRel S (Lio ++ F) H ∧ FRq K mg S F A Q E (iosF 0 cs) (mf cs)
theorem spM_len {K : PySem.W.Frag} {mg : Str → Option Value} {n : Nat} {mf : MFn} {ps : List Str} (hp : ps.length = n) : ∀ vs H Q E, spM K mg n mf vs H Q E → vs.length = ps.length := fun _ _ _ _ ⟨_, _, _, _, _, h, _⟩ => h.trans hp.symm
section
variable {K : PySem.W.Frag} {S S' : Hp} {F : Hl} {A : Nat → V} {H : Hp} {mg : Str → Option Value} {W : WX} {σ : St}
theorem OwnIo.ex (e : Same S S') : ∀ {ios : List (Nat × Nat)} {ds : List D} {L : Hl}, OwnIo K S A ios ds L → OwnIo K S' A ios ds L
  | _, _, _, .nil => .nil
  | _, _, _, .cons a t => .cons (a.ex e) (OwnIo.ex e t)
theorem iosF_ge : ∀ {cs : List Cell} {k : Nat}, ∀ p ∈ iosF k cs, k ≤ p.1
  | [], _, p, h => nomatch h
  | c :: cs, k, p, h => by
    unfold iosF at h
    split at h
    · split at h
      · rcases List.mem_cons.mp h with rfl | h
        · exact Nat.le_refl _
        · exact Nat.le_of_succ_le (iosF_ge p h)
      · exact Nat.le_of_succ_le (iosF_ge p h)
    · exact Nat.le_of_succ_le (iosF_ge p h)
theorem iosF_inc : ∀ {cs : List Cell} {k : Nat}, (iosF k cs).Pairwise (fun p q => p.1 < q.1)
  | [], _ => .nil
  | c :: cs, k => by
    unfold iosF
    split
    · split
      · exact .cons (fun q hq => iosF_ge q hq) iosF_inc
      · exact iosF_inc
    · exact iosF_inc
theorem ioOut_set {ρ : Env} {i : Nat} {x : Option Cell} : ∀ {ios : List (Nat × Nat)}, (∀ p ∈ ios, p.1 ≠ i) → ioOut (ρ.set i x) ios = ioOut ρ ios
  | [], _ => rfl
  | (j, n) :: r, h => by
    have hj : i ≠ j := fun e => h (j, n) List.mem_cons_self e.symm
    rw [ioOut, ioOut, List.getElem?_set_ne hj, ioOut_set fun p hp => h p (List.mem_cons_of_mem _ hp)]
theorem ioOut_ok : ∀ {ios : List (Nat × Nat)} {ρ : Env} {ds : List D} {L : Hl}, Slots K S F A ρ σ L → ioOut ρ ios = some ds → ios.Pairwise (fun p q => p.1 < q.1) → ∃ Lo R, OwnIo K S A ios ds Lo ∧ L.Perm (Lo ++ R)
  | [], ρ, ds, L, h, e, _ => by cases e; exact ⟨[], L, .nil, List.Perm.refl _⟩
  | (j, n) :: r, ρ, ds, L, h, e, hp => by
    rw [ioOut] at e
    split at e
    · next j' n' d hi =>
      split at e
      · next hc =>
        obtain ⟨rfl, rfl⟩ := hc
        obtain ⟨ds', h1, rfl⟩ := Option.map_eq_some_iff.mp e
        obtain ⟨v, Lf, R, g1, g2, g3, g4, g5⟩ := h.takeN hi
        have hn : ∀ p ∈ r, p.1 ≠ j' := fun p hm z => by
          have := (List.pairwise_cons.mp hp).1 p hm
          simp only at this
          omega
        obtain ⟨Lo, R2, k1, k2⟩ := ioOut_ok g5 (by rw [ioOut_set hn]; exact h1) (List.pairwise_cons.mp hp).2
        refine ⟨Lf ++ Lo, R2, .cons ?_ k1, ?_⟩
        · rw [← g3 j' rfl]
          exact g2.own_of rfl
        · rw [List.append_assoc]
          exact g4.trans (k2.append_left Lf)
      · cases e
    · cases e
end

/-! ### defs -/
def mfOf (body : MS) (m : Nat) : MFn := fun cs => match body (cs.map some ++ List.replicate (m - cs.length) none) with
  | .nx ρ => (match ioOut ρ (iosF 0 cs) with | some ds => .ok 0 .non ds | none => .bad)
  | .rt ⟨.o, n, d⟩ ρ => (match ioOut ρ (iosF 0 cs) with | some ds => .ok n d ds | none => .bad)
  | .ex x ρ => (match ioOut ρ (iosF 0 cs) with | some ds => .ex x ds | none => .bad)
  | _ => .bad
theorem slots_more {K : PySem.W.Frag} {S : Hp} {F : Hl} {A : Nat → V} : ∀ {cs : Env} {vs : St} {L : Hl} {m : Nat}, Slots K S F A cs vs L → Slots K S F A (cs ++ List.replicate m none) (vs ++ List.replicate m none) L := by
  intro cs vs L m h
  induction h with
  | nil =>
    induction m with
    | zero => exact .nil
    | succ m ih => rw [List.replicate_succ, List.replicate_succ]; exact .no ih
  | no _ ih => exact .no ih
  | yes a g _ ih => exact .yes a g ih
section
variable {P : Program} {w : World} {K : PySem.W.Frag} {mg : Str → Option Value} {base : Heap}
/-- a def as it stands behind the top, whatever its defaults -/
structure FunX (K : PySem.W.Frag) (x qual : Str) (st : Stmt) (f : Addr) (fd : FuncData) : Prop where
  ex : ∃ (oc : Value) (od : Option Addr) (dV kV doc pm : Value) (an : Option Addr) (cdv ct : Value) (osl : Array (Option Value)),
    fd = PySem.W.fnOf x qual (defArgs st) (defBody st) (defScope st) dV kV doc pm an cdv ct ∧ K.lookup f = some ⟨oc, od, .func fd, osl⟩ ∧ PySem.W.codeIn K cdv qual = true
theorem FunX.okX {x qual : Str} {st : Stmt} {f : Addr} {fd : FuncData} {N ps : List Str} {k : Nat} {sp : Sp} (F : FunX K x qual st f fd) (S : FnScope N ps (defScope st)) (len : ∀ vs H Q E, sp vs H Q E → vs.length = ps.length)
    (hbody : ∀ (cdv : Value), fd.code = cdv → ∀ (A : Around) (outer : List PySem.Env) (s : Shared) (H : Hp) (vs : List V) (Q : VK) (E : XK), Room k (A.deeper (PyProof.Rows.envOfC qual (defScope st) s.heap.objs.size f cdv)) → sp vs H Q E →
      ∃ t, PSs (cxOf (L2.CX P w) P w K mg base N qual (defScope st) f cdv A outer s H E) (defBody st) t ∧ t { nx := fun _ H' => Q .non H', rt := Q } (start N vs) H) : FnOk P w K mg base (L2.CX P w) (k + 1) f fd ps sp := by
  obtain ⟨oc, od, dV, kV, doc, pm, an, cdv, ct, osl, rfl, lk, hcd⟩ := F.ex
  exact fn_of lk hcd S len fun A outer s H vs Q E => hbody cdv rfl A outer s H vs Q E
theorem Fun.x {x qual : Str} {st : Stmt} {f : Addr} {fd : FuncData} (F : Fun K x qual st f fd) : FunX K x qual st f fd := by
  obtain ⟨oc, od, kV, doc, pm, an, cdv, ct, osl, h⟩ := F.ex
  exact ⟨oc, od, _, kV, doc, pm, an, cdv, ct, osl, h⟩
theorem FunD.x {x qual : Str} {st : Stmt} {f : Addr} {fd : FuncData} {dvs : List V} (F : FunD K x qual (defArgs st) (defBody st) (defScope st) dvs [] f fd) : FunX K x qual st f fd := by
  obtain ⟨oc, od, dV, kV, doc, pm, an, cdv, ct, osl, h1, h2, h3, _⟩ := F.ex
  exact ⟨oc, od, dV, kV, doc, pm, an, cdv, ct, osl, h1, h2, h3⟩
theorem def_mC {x qual : Str} {st : Stmt} {f : Addr} {fd : FuncData} {N ps : List Str} {k n : Nat} {ms : MS} (F : FunX K x qual st f fd) (S : FnScope N ps (defScope st)) (hn : ps.length = n)
    (hbody : ∀ (cdv : Value), fd.code = cdv → ∀ (A : Around) (outer : List PySem.Env) (s : Shared) (H : Hp) (E : XK), Room k (A.deeper (PyProof.Rows.envOfC qual (defScope st) s.heap.objs.size f cdv)) →
      ∃ t, SsM (cxOf (L2.CX P w) P w K mg base N qual (defScope st) f cdv A outer s H E) (fun cls d _ H => E cls d H) (defBody st) t ms) :
    FnOk P w K mg base (L2.CX P w) (k + 1) f fd ps (spM K mg n (mfOf ms N.length)) := by
  refine F.okX S (spM_len hn) fun cdv hcv A outer s H vs Q E hr hsp => ?_
  obtain ⟨t, hp, hs⟩ := hbody cdv hcv A outer s H E hr
  refine ⟨t, hp, ?_⟩
  obtain ⟨cs, S0, F0, A0, Lio, hvn, hsl, hh, hq⟩ := hsp
  have hcl : vs.length = cs.length := by
    have := hsl.length
    simpa using this
  have hlen : (L2.start N vs).length = (cs.map some ++ List.replicate (N.length - cs.length) none : Env).length := by
    unfold L2.start
    rw [List.length_append, List.length_append, List.length_map, List.length_map, List.length_replicate, List.length_replicate, hcl]
  have hst : Slots K S0 F0 A0 (cs.map some ++ List.replicate (N.length - cs.length) none) (L2.start N vs) Lio := by
    unfold L2.start
    rw [hcl]
    exact slots_more hsl
  unfold mfOf at hq
  generalize hρ : (cs.map some ++ List.replicate (N.length - cs.length) none : Env) = ρ0 at hq hlen hst
  refine hs ⟨fun ρ => ms ρ0 = .nx ρ, fun c ρ => ms ρ0 = .rt c ρ, fun _ => False, fun _ => False, fun x ρ => ms ρ0 = .ex x ρ⟩ ρ0 ?_ S0 F0 A0 H (L2.start N vs) _ hlen ⟨Lio, hst, hh⟩ ⟨?_, ?_, ?_, ?_, ?_⟩
  · simp only [ws_]
    cases hm : ms ρ0 with
    | nx ρ => rfl
    | rt c ρ => rfl
    | bk ρ => rw [hm] at hq; exact hq.elim
    | ct ρ => rw [hm] at hq; exact hq.elim
    | ex x ρ => rfl
    | bad => rw [hm] at hq; exact hq.elim
  · rintro ρ σ S' H' q l1 l2 e ⟨L, sl, hr⟩
    have q : ms ρ0 = .nx ρ := q
    rw [q] at hq
    simp only at hq
    cases ho : ioOut ρ (iosF 0 cs) with
    | none => rw [ho] at hq; exact hq.elim
    | some ds =>
      rw [ho] at hq
      obtain ⟨Lo, R, h1, h2⟩ := ioOut_ok sl ho iosF_inc
      refine hq .non S' H' [] Lo e (.sh .non) h1 ?_
      have hr2 : HRel S' ((Lo ++ R) ++ F0) H' := hr.perm (h2.append_right F0)
      exact hr2.sub (by
        rw [List.nil_append]
        exact (List.sublist_append_left Lo R).append (List.Sublist.refl F0))
  · rintro c v ρ σ Lc Le S' H' q e ok sl hr
    have q : ms ρ0 = .rt c ρ := q
    rw [q] at hq
    obtain ⟨b, n0, d⟩ := c
    cases b with
    | o =>
      simp only at hq
      cases ho : ioOut ρ (iosF 0 cs) with
      | none => rw [ho] at hq; exact hq.elim
      | some ds =>
        rw [ho] at hq
        obtain ⟨Lo, R, h1, h2⟩ := ioOut_ok sl ho iosF_inc
        cases ok with
        | o ok =>
          refine hq v S' H' Lc Lo e ok h1 ?_
          have hr2 : HRel S' (Lc ++ ((Lo ++ R) ++ F0)) H' := hr.perm (List.Perm.append_left Lc (h2.append_right F0))
          exact hr2.sub ((List.Sublist.refl Lc).append ((List.sublist_append_left Lo R).append (List.Sublist.refl F0)))
    | l => exact hq.elim
    | p => exact hq.elim
    | m j => exact hq.elim
  · intro ρ σ S' H' q
    exact q.elim
  · intro ρ σ S' H' q
    exact q.elim
  · rintro x cls d ρ σ S' H' q l1 l2 e ex ⟨L, sl, hr⟩
    have q : ms ρ0 = .ex x ρ := q
    rw [q] at hq
    simp only at hq
    cases ho : ioOut ρ (iosF 0 cs) with
    | none => rw [ho] at hq; exact hq.elim
    | some ds =>
      rw [ho] at hq
      obtain ⟨Lo, R, h1, h2⟩ := ioOut_ok sl ho iosF_inc
      refine hq cls d S' H' Lo e ex h1 ?_
      have hr2 : HRel S' ((Lo ++ R) ++ F0) H' := hr.perm (h2.append_right F0)
      exact hr2.sub ((List.sublist_append_left Lo R).append (List.Sublist.refl F0))
theorem def_m {x qual : Str} {st : Stmt} {f : Addr} {fd : FuncData} {N ps : List Str} {k n : Nat} {ms : MS} (F : FunX K x qual st f fd) (S : FnScope N ps (defScope st)) (hn : ps.length = n)
    (hbody : ∀ (cdv : Value) (A : Around) (outer : List PySem.Env) (s : Shared) (H : Hp) (E : XK), Room k (A.deeper (PyProof.Rows.envOfC qual (defScope st) s.heap.objs.size f cdv)) →
      ∃ t, SsM (cxOf (L2.CX P w) P w K mg base N qual (defScope st) f cdv A outer s H E) (fun cls d _ H => E cls d H) (defBody st) t ms) :
    FnOk P w K mg base (L2.CX P w) (k + 1) f fd ps (spM K mg n (mfOf ms N.length)) :=
  def_mC F S hn fun cdv _ A outer s H E hr => hbody cdv A outer s H E hr

end

/-! ### calls -/
theorem Slots.up {K : PySem.W.Frag} {S : Hp} {F B : Hl} {A : Nat → V} (q : F.Sublist B) : ∀ {cs : Env} {vs : St} {L : Hl}, Slots K S F A cs vs L → Slots K S B A cs vs L
  | _, _, _, .nil => .nil
  | _, _, _, .no t => .no (Slots.up q t)
  | _, _, _, .yes a g t => .yes (match a with
      | .o h => .o h
      | .l z h => .l z h
      | .p z h => .p (z.trans q) h
      | .m h => .m h) g (Slots.up q t)
section
variable {K : PySem.W.Frag} {S S' : Hp} {Fl F : Hl} {A : Nat → V} {H : Hp} {mg : Str → Option Value} {W : WX} {σ : St}
theorem CellOk.lend {c : Cell} {v : V} {L B : Hl} (h : CellOk K S Fl F c v L) (hB : (L ++ (Fl ++ F)).Sublist B) : CellOk K S [] B c.lend v [] := by
  have h0 : ∀ {M : Hl} {n : Nat} {d : D} {b : Bm}, Own K S n v d M → M.Sublist B → CellOk K S [] B (Cell.lend ⟨b, n, d⟩) v [] := fun {M n d b} q s => by
    cases n with
    | zero => cases q with | sh q => exact .o (.sh q)
    | succ n => exact .p s q
  cases h with
  | o h => exact h0 h ((List.sublist_append_left _ _).trans hB)
  | m h => exact h0 h ((List.sublist_append_left _ _).trans hB)
  | l q h => exact h0 h (q.trans ((List.sublist_append_left _ _).trans ((List.sublist_append_right _ _).trans hB)))
  | p q h => exact h0 h (q.trans ((List.sublist_append_right _ _).trans ((List.sublist_append_right _ _).trans hB)))
theorem lend_m {c : Cell} : ∀ j, c.lend.b ≠ .m j := by
  obtain ⟨b, n, d⟩ := c
  intro j z
  cases n <;> cases z
theorem Tmp.lendS : ∀ {cs : List Cell} {vs : List V} {L B : Hl}, Tmp K S Fl F cs vs L → (L ++ (Fl ++ F)).Sublist B → Slots K S B A ((cs.map Cell.lend).map some) (vs.map some) []
  | _, _, _, _, .nil, _ => .nil
  | _, _, _, _, .cons (L1 := L1) (L2 := L2) a t, h => .yes (L1 := []) (L2 := []) (a.lend (((List.sublist_append_left L1 L2).append (List.Sublist.refl _)).trans h)) (fun j z => absurd z (lend_m j)) (Tmp.lendS t (((List.sublist_append_right L1 L2).append (List.Sublist.refl _)).trans h))
theorem ShA.slots : ∀ {vs : List V} {ds : List D}, ShA K S vs ds → Slots K S F A ((ds.map sh).map some) (vs.map some) []
  | _, _, .nil => .nil
  | _, _, .cons a t => .yes (L1 := []) (L2 := []) (.o (.sh a)) (fun j z => nomatch z) (ShA.slots t)
theorem Slots.append : ∀ {cs ds : Env} {vs ws : St} {L M : Hl}, Slots K S F A cs vs L → Slots K S F A ds ws M → Slots K S F A (cs ++ ds) (vs ++ ws) (L ++ M)
  | _, _, _, _, _, _, .nil, h => h
  | _, _, _, _, _, _, .no t, h => .no (Slots.append t h)
  | _, _, _, _, _, _, .yes a g t, h => by rw [List.append_assoc]; exact .yes a g (Slots.append t h)
theorem iosF_lend : ∀ {cs : List Cell} {k : Nat}, (∀ c ∈ cs, ∀ j, c.b ≠ .m j) → iosF k cs = []
  | [], _, _ => rfl
  | c :: cs, k, h => by
    unfold iosF
    split
    · next j hj => exact absurd hj (h c List.mem_cons_self j)
    · exact iosF_lend fun c hc => h c (List.mem_cons_of_mem _ hc)
/-- a call whose arguments stay as they are -/
def mCall (n : Nat) (mf : MFn) (dds : List D) (a : MA) : ME := fun ρ => (a ρ).bind fun cs => if cs.length + dds.length = n then (match mf (cs.map Cell.lend ++ dds.map sh) with
  | .ok m d _ => .ok (own m d)
  | .ex x _ => .ex x
  | .bad => .bad) else .bad
theorem call_m_s {n : Nat} {mf : MFn} {dvs : List V} {dds : List D} {ta : TA} {a : MA} (hd : ∀ S, ShA K S dvs dds) (ha : ArgsOk K mg W ta (we_ a)) :
    ExprOk K mg W (tCallSD (spM K mg n mf) dvs (fun σ cls d H => W cls d σ H) ta) (we_ (mCall n mf dds a)) := by
  intro ρ Q XQ hw S Fl F H σ tc tv Q' ev r0 k kx
  simp only [we_, mCall, wR_bind] at hw
  refine ha ρ _ XQ hw S Fl F H σ tc tv _ ev r0 (fun cs vs S1 H1 q hl e1 r1 => ?_) kx
  obtain ⟨hcn, q⟩ := wR_ite q
  obtain ⟨L, t, hr⟩ := r1
  obtain ⟨La, Lb, rfl, t1, t2⟩ := Tmp.split hl t
  have hsub : (La ++ (Fl ++ F)).Sublist ((La ++ Lb) ++ (Fl ++ F)) := (List.sublist_append_left _ _).append (List.Sublist.refl _)
  have hdl : dvs.length = dds.length := (hd S1).length
  have hio : iosF 0 (cs.map Cell.lend ++ dds.map sh) = [] := iosF_lend fun c hc j z => by
    rcases List.mem_append.mp hc with hc | hc
    · obtain ⟨c', _, rfl⟩ := List.mem_map.mp hc; exact lend_m j z
    · obtain ⟨c', _, rfl⟩ := List.mem_map.mp hc; cases z
  refine ⟨cs.map Cell.lend ++ dds.map sh, S1, (La ++ Lb) ++ (Fl ++ F), fun _ => .non, [] ++ [], by rw [List.length_append, hdl, ← hl]; exact hcn, ?_, by simpa using hr, ?_⟩
  · rw [List.map_append, List.map_append]
    exact (t1.lendS hsub).append (hd S1).slots
  · rw [hio]
    cases hm : mf (cs.map Cell.lend ++ dds.map sh) with
    | ok m d ds =>
      rw [hm] at q
      intro v S' H' Lc Lo e2 o2 oo hr2
      cases oo
      refine k _ v S' H' q (e1.trans e2) ⟨Lc ++ Lb, .cons (.o o2) (t2.ex e2), hr2.sub ?_⟩
      rw [List.append_assoc, List.nil_append, List.append_assoc]
      exact (List.Sublist.refl Lc).append (List.sublist_append_right _ _)
    | ex x ds =>
      rw [hm] at q
      intro cls d S' H' Lo e2 ex oo hr2
      cases oo
      exact kx x cls d S' H' q (e1.trans e2) ex (hr2.sub (by rw [List.nil_append]; exact List.sublist_append_right _ _))
    | bad => rw [hm] at q; exact q.elim
end
/-- a def that stands behind the top, with its promise over cells -/
structure FnM (P : Program) (w : World) (K : PySem.W.Frag) (mg : Str → Option Value) (base : Heap) (k : Nat) (x : Str) (n : Nat) (mf : MFn) (dvs : List V) (dds : List D) : Prop where
  ex : ∃ (f : Addr) (fd : FuncData) (ps : List Str) (ds : List Value), FnOk P w K mg base (L2.CX P w) k f fd ps (spM K mg n mf) ∧ mg x = some (.ref f) ∧ PySem.W.keepIn K (.ref f) = true ∧ Binds K fd ps ds ∧ Vals dvs ds
  dd : ∀ S, ShA K S dvs dds
section
variable {X : Cx} {W : WX} {k n : Nat} {x : Str} {mf : MFn} {dvs : List V} {dds : List D} {p pos : Pos} {e : Expr} {es : List Expr} {ta : TA} {ma : MA}
theorem em_call (tk : Takes X W) (F : FnM X.prog X.w X.K X.mg X.base k x n mf dvs dds) (hr : Room k X.A) (hg : Gl X x) (ha : AM X W (e :: es) ta ma)
    (hdb : (x == ("__debug__" : Str)) = false := by decide) (he : starEach (e :: es) X.env = (false, eval e X.env) :: starEach es X.env := by rfl) (hpl : (backTo pos (starEach es X.env)).any (·.1) = false := by rfl) :
    EM X W (.Call (.Name x p) (e :: es) [] pos) (tCallSD (spM X.K X.mg n mf) dvs (fun σ cls d H => W cls d σ H) ta) (mCall n mf dds ma) := by
  obtain ⟨f, fd, ps, ds, h1, h2, h3, h4, h5⟩ := F.ex
  exact ⟨pe_callSD h1 hr hg h2 h3 h4 h5 (fun σ => passAt tk σ) ha.p hdb he hpl, call_m_s F.dd ha.s⟩
end
end VL
set_option maxRecDepth 100000
/-! WG: calls that may change what was handed in: a slot's own container, or a new one. -/
namespace VL
open PySem L2
variable [TB : Tbs]

inductive Arg where
  | c (c : Cell) | t (c : Cell) | io (i : Nat)
abbrev MR := Env → RF (List Arg)
section
variable (K : PySem.W.Frag) (S : Hp) (F : Hl) (σ : St)
inductive ArgV : List Arg → List V → Hl → Prop
  | nil : ArgV [] [] []
  | c {c : Cell} {v : V} {as : List Arg} {vs : List V} {L1 L2 : Hl} : CellOk K S [] F c v L1 → ArgV as vs L2 → ArgV (.c c :: as) (v :: vs) (L1 ++ L2)
  | t {c : Cell} {v : V} {as : List Arg} {vs : List V} {L1 L2 : Hl} : CellOk K S [] F c v L1 → ArgV as vs L2 → ArgV (.t c :: as) (v :: vs) (L1 ++ L2)
  | io {i : Nat} {v : V} {as : List Arg} {vs : List V} {L : Hl} : σ[i]? = some (some v) → ArgV as vs L → ArgV (.io i :: as) (v :: vs) L
end
def FrOk (K : PySem.W.Frag) (mg : Str → Option Value) (W : WX) (t : TA) (m : MR) : Prop := ∀ ρ S F A H σ Le M Q', σ.length = ρ.length → Slots K S F A ρ σ Le → HRel S (M ++ (Le ++ F)) H → match m ρ with
  | .ok as ρ' => (∀ vs S' H' Le' Lc, σ.length = ρ'.length → Same S S' → Slots K S' F A ρ' σ Le' → ArgV K S' F σ as vs Lc → HRel S' (Lc ++ (M ++ (Le' ++ F))) H' → Q' vs H') → t σ H Q'
  | .ex x ρ' => XF_ K mg W S F A σ x ρ' → t σ H Q'
  | .bad => True
structure FRM (X : Cx) (W : WX) (es : List Expr) (t : TA) (m : MR) : Prop where
  p : PA X es t
  s : FrOk X.K X.mg W t m
def frNil : MR := fun ρ => .ok [] ρ
def frC (a : MF) (r : MR) : MR := fun ρ => (a ρ).bind fun c ρ1 => if c.nl = true then (r ρ1).bind fun as ρ2 => .ok (.c c :: as) ρ2 else .bad
def frT (a : MF) (r : MR) : MR := fun ρ => (a ρ).bind fun c ρ1 => if c.nl = true then (r ρ1).bind fun as ρ2 => .ok (.t c :: as) ρ2 else .bad
def frIo (i : Nat) (r : MR) : MR := fun ρ => match ρ[i]? with
  | some (some _) => (r ρ).bind fun as ρ2 => .ok (.io i :: as) ρ2
  | _ => .bad
section
variable {K : PySem.W.Frag} {mg : Str → Option Value} {W : WX} {S S' : Hp} {F : Hl} {A : Nat → V} {H : Hp} {σ : St} {ρ ρ' : Env} {x : Exn}
theorem ArgV.ex (e : Same S S') : ∀ {as : List Arg} {vs : List V} {L : Hl}, ArgV K S F σ as vs L → ArgV K S' F σ as vs L
  | _, _, _, .nil => .nil
  | _, _, _, .c a q => .c (a.ex e) (ArgV.ex e q)
  | _, _, _, .t a q => .t (a.ex e) (ArgV.ex e q)
  | _, _, _, .io h q => .io h (ArgV.ex e q)
theorem fr_nil_s : FrOk K mg W tNil frNil := fun ρ S F A H σ Le M Q' hl sl hr k => k [] S H Le [] hl (Same.refl S) sl .nil hr
theorem fr_c_s {t : TE} {ts : TA} {a : MF} {r : MR} (ha : FxOk K mg W t a) (hb : FrOk K mg W ts r) : FrOk K mg W (tCons t ts) (frC a r) := by
  intro ρ S F A H σ Le M Q' hl sl hr
  have h1 := ha ρ S F A H σ Le M (fun v H1 => ts σ H1 fun vs H2 => Q' (v :: vs) H2) hl sl hr
  unfold frC
  cases hm : a ρ with
  | bad => trivial
  | ex x ρ1 => rw [hm] at h1; exact h1
  | ok c ρ1 =>
    rw [hm] at h1
    simp only [RF.bind_ok]
    by_cases hc : c.nl = true
    · rw [if_pos hc]
      cases hm2 : r ρ1 with
      | bad => trivial
      | ex x ρ2 =>
        intro k
        refine h1 fun v S1 H1 Le1 Lc l1 e1 sl1 c1 hr1 => ?_
        have h2 := hb ρ1 S1 F A H1 σ Le1 (Lc ++ M) (fun vs H2 => Q' (v :: vs) H2) l1 sl1 (by rw [List.append_assoc]; exact hr1)
        rw [hm2] at h2
        exact h2 (k.ex e1)
      | ok cs ρ2 =>
        intro k
        refine h1 fun v S1 H1 Le1 Lc l1 e1 sl1 c1 hr1 => ?_
        have h2 := hb ρ1 S1 F A H1 σ Le1 (Lc ++ M) (fun vs H2 => Q' (v :: vs) H2) l1 sl1 (by rw [List.append_assoc]; exact hr1)
        rw [hm2] at h2
        refine h2 fun vs S2 H2 Le2 Ld l2 e2 sl2 t2 hr2 => ?_
        refine k (v :: vs) S2 H2 Le2 (Lc ++ Ld) l2 (e1.trans e2) sl2 (.c (c1.ex e2) t2) ?_
        rw [List.append_assoc] at hr2 ⊢
        exact hr2.perm (perm_abc Ld Lc _)
    · rw [if_neg hc]; trivial
theorem fr_t_s {t : TE} {ts : TA} {a : MF} {r : MR} (ha : FxOk K mg W t a) (hb : FrOk K mg W ts r) : FrOk K mg W (tCons t ts) (frT a r) := by
  intro ρ S F A H σ Le M Q' hl sl hr
  have h1 := ha ρ S F A H σ Le M (fun v H1 => ts σ H1 fun vs H2 => Q' (v :: vs) H2) hl sl hr
  unfold frT
  cases hm : a ρ with
  | bad => trivial
  | ex x ρ1 => rw [hm] at h1; exact h1
  | ok c ρ1 =>
    rw [hm] at h1
    simp only [RF.bind_ok]
    by_cases hc : c.nl = true
    · rw [if_pos hc]
      cases hm2 : r ρ1 with
      | bad => trivial
      | ex x ρ2 =>
        intro k
        refine h1 fun v S1 H1 Le1 Lc l1 e1 sl1 c1 hr1 => ?_
        have h2 := hb ρ1 S1 F A H1 σ Le1 (Lc ++ M) (fun vs H2 => Q' (v :: vs) H2) l1 sl1 (by rw [List.append_assoc]; exact hr1)
        rw [hm2] at h2
        exact h2 (k.ex e1)
      | ok cs ρ2 =>
        intro k
        refine h1 fun v S1 H1 Le1 Lc l1 e1 sl1 c1 hr1 => ?_
        have h2 := hb ρ1 S1 F A H1 σ Le1 (Lc ++ M) (fun vs H2 => Q' (v :: vs) H2) l1 sl1 (by rw [List.append_assoc]; exact hr1)
        rw [hm2] at h2
        refine h2 fun vs S2 H2 Le2 Ld l2 e2 sl2 t2 hr2 => ?_
        refine k (v :: vs) S2 H2 Le2 (Lc ++ Ld) l2 (e1.trans e2) sl2 (.t (c1.ex e2) t2) ?_
        rw [List.append_assoc] at hr2 ⊢
        exact hr2.perm (perm_abc Ld Lc _)
    · rw [if_neg hc]; trivial
theorem fr_io_s {i : Nat} {ts : TA} {r : MR} (hb : FrOk K mg W ts r) : FrOk K mg W (tCons (tVar i) ts) (frIo i r) := by
  intro ρ S F A H σ Le M Q' hl sl hr
  unfold frIo
  rcases hi : ρ[i]? with _ | _ | c
  · trivial
  · trivial
  · obtain ⟨v, _, _, hv, _⟩ := sl.takeN hi
    have h2 := hb ρ S F A H σ Le M (fun vs H2 => Q' (v :: vs) H2) hl sl hr
    simp only
    cases hm : r ρ with
    | bad => trivial
    | ex x ρ1 =>
      rw [hm] at h2
      intro k
      exact ⟨v, hv, h2 k⟩
    | ok as ρ1 =>
      rw [hm] at h2
      intro k
      exact ⟨v, hv, h2 fun vs S2 H2 Le2 Ld l2 e2 sl2 t2 hr2 => k (v :: vs) S2 H2 Le2 Ld l2 e2 sl2 (.io hv t2) hr2⟩
/-! the callee's cells, and what comes back -/
def takeArgs : Nat → List Arg → Env → Option (List Cell × Env)
  | _, [], ρ => some ([], ρ)
  | k, .c c :: as, ρ => (takeArgs (k + 1) as ρ).map fun p => (c.lend :: p.1, p.2)
  | k, .t ⟨b, n, d⟩ :: as, ρ => if b.mut = true then (takeArgs (k + 1) as ρ).map fun p => (⟨.m k, n, d⟩ :: p.1, p.2) else none
  | k, .io i :: as, ρ => match ρ[i]? with
    | some (some ⟨b, n, d⟩) => if b.mut = true then (takeArgs (k + 1) as (ρ.set i none)).map fun p => (⟨.m k, n, d⟩ :: p.1, p.2) else none
    | _ => none
def putArgs : List Arg → Env → List D → Env → Option Env
  | [], _, _, ρ => some ρ
  | .c _ :: as, ρ0, ds, ρ => putArgs as ρ0 ds ρ
  | .t _ :: as, ρ0, ds, ρ => match ds with | _ :: ds => putArgs as ρ0 ds ρ | [] => none
  | .io i :: as, ρ0, ds, ρ => match ds, ρ0[i]? with
    | d :: ds, some (some c) => (putArgs as ρ0 ds ρ).map fun ρ' => ρ'.set i (some ⟨c.b, c.n, d⟩)
    | _, _ => none
/-- after the call -/
def PutOk (K : PySem.W.Frag) (S : Hp) (F : Hl) (A : Nat → V) (A' : Nat → V) (σ : St) (as : List Arg) (ρ0 ρ2 : Env) (ios : List (Nat × Nat)) (R : Hl) : Prop :=
  ∀ S' ds Lo, Same S S' → OwnIo K S' A' ios ds Lo → ∃ ρ3, putArgs as ρ0 ds ρ2 = some ρ3 ∧ ρ3.length = ρ2.length ∧ ∃ Le3 Lx, Slots K S' F A ρ3 σ Le3 ∧ (Lo ++ R).Perm (Le3 ++ Lx)
theorem take_ok {A' : Nat → V} {ρ0 : Env} : ∀ {as : List Arg} {vs : List V} {La : Hl} {k : Nat} {ρ : Env} {Le : Hl} {cells : List Cell} {ρ2 : Env}, ArgV K S F σ as vs La → takeArgs k as ρ = some (cells, ρ2) → Slots K S F A ρ σ Le → σ.length = ρ.length →
    (∀ (i : Nat) (v : V), vs[i]? = some v → v = A' (k + i)) → (∀ (i : Nat) (c : Cell), ρ[i]? = some (some c) → ρ0[i]? = some (some c)) → cells.length = vs.length ∧
    ∃ Lio Lr R, (∀ B : Hl, (Lr ++ F).Sublist B → Slots K S B A' (cells.map some) (vs.map some) Lio) ∧ Slots K S F A ρ2 σ R ∧ (La ++ Le).Perm (Lio ++ (Lr ++ R)) ∧ ρ2.length = ρ.length ∧ PutOk K S F A A' σ as ρ0 ρ2 (iosF k cells) R
  | [], _, _, k, ρ, Le, cells, ρ2, .nil, h, sl, hl, _, _ => by
    cases h
    refine ⟨rfl, [], [], Le, fun B _ => .nil, sl, List.Perm.refl _, rfl, ?_⟩
    intro S' ds Lo e o
    cases o
    exact ⟨ρ, rfl, rfl, Le, [], sl.ex e, by rw [List.append_nil, List.nil_append]⟩
  | .c c :: as, _, _, k, ρ, Le, cells, ρ2, .c (v := v) (vs := vs) (L1 := L1) (L2 := L2) a t, h, sl, hl, hA, h0 => by
    rw [takeArgs] at h
    obtain ⟨p, hp, he⟩ := Option.map_eq_some_iff.mp h
    cases he
    obtain ⟨cl, Lio, Lr, R, g1, g2, g3, g4, g5⟩ := take_ok (k := k + 1) (A' := A') (ρ0 := ρ0) t hp sl hl (fun i v hv => by rw [show k + 1 + i = k + (i + 1) by omega]; exact hA (i + 1) v (by simpa using hv)) h0
    refine ⟨congrArg (· + 1) cl, Lio, L1 ++ Lr, R, fun B hB => ?_, g2, ?_, g4, ?_⟩
    · refine .yes (L1 := []) (a.lend (B := B) ?_) (fun j z => absurd z (lend_m j)) (g1 B ?_)
      · refine List.Sublist.trans ?_ hB
        rw [List.nil_append, List.append_assoc]
        exact (List.Sublist.refl L1).append (List.sublist_append_right _ _)
      · refine List.Sublist.trans ?_ hB
        rw [List.append_assoc]
        exact List.sublist_append_right _ _
    · rw [List.append_assoc]
      refine (g3.append_left L1).trans ?_
      rw [List.append_assoc L1 Lr R]
      exact perm_abc _ _ _
    · have : iosF k (c.lend :: p.1) = iosF (k + 1) p.1 := by
        rw [iosF]
        split
        · next j hj => exact absurd hj (lend_m j)
        · rfl
      rw [this]
      exact g5
  | .t ⟨b, n, d⟩ :: as, _, _, k, ρ, Le, cells, ρ2, .t (v := v) (vs := vs) (L1 := L1) (L2 := L2) a t, h, sl, hl, hA, h0 => by
    rw [takeArgs] at h
    split at h
    · next hb =>
      obtain ⟨p, hp, he⟩ := Option.map_eq_some_iff.mp h
      cases he
      obtain ⟨cl, Lio, Lr, R, g1, g2, g3, g4, g5⟩ := take_ok (k := k + 1) (A' := A') (ρ0 := ρ0) t hp sl hl (fun i v hv => by rw [show k + 1 + i = k + (i + 1) by omega]; exact hA (i + 1) v (by simpa using hv)) h0
      refine ⟨congrArg (· + 1) cl, L1 ++ Lio, Lr, R, fun B hB => ?_, g2, ?_, g4, ?_⟩
      · refine .yes (.m (a.own_of hb)) (fun j z => ?_) (g1 B hB)
        cases z
        exact hA 0 v rfl
      · rw [List.append_assoc, List.append_assoc]
        exact g3.append_left L1
      · have : iosF k (⟨.m k, n, d⟩ :: p.1) = (k, n) :: iosF (k + 1) p.1 := by rw [iosF]; simp
        rw [this]
        intro S' ds Lo e o
        cases o with
        | @cons _ _ _ d' ds' La' Lb' o1 o2 =>
          obtain ⟨ρ3, k1, k2, Le3, Lx, k3, k4⟩ := g5 S' ds' Lb' e o2
          refine ⟨ρ3, k1, k2, Le3, La' ++ Lx, k3, ?_⟩
          rw [List.append_assoc]
          exact (k4.append_left La').trans (perm_abc _ _ _)
    · cases h
  | .io i :: as, _, _, k, ρ, Le, cells, ρ2, .io (v := v) (vs := vs) hv t, h, sl, hl, hA, h0 => by
    rw [takeArgs] at h
    split at h
    · next b n d hi =>
      split at h
      · next hb =>
        obtain ⟨p, hp, he⟩ := Option.map_eq_some_iff.mp h
        cases he
        obtain ⟨v', Lf, Rr, q1, q2, q3, q4, q5⟩ := sl.takeN hi
        rw [hv] at q1
        cases q1
        obtain ⟨cl, Lio, Lr, R, g1, g2, g3, g4, g5⟩ := take_ok (k := k + 1) (A' := A') (ρ0 := ρ0) t hp q5 (by rw [List.length_set]; exact hl) (fun i v hv => by rw [show k + 1 + i = k + (i + 1) by omega]; exact hA (i + 1) v (by simpa using hv)) (fun j c hj => by
          by_cases hij : i = j
          · subst hij
            by_cases hlt : i < ρ.length
            · rw [List.getElem?_set_self hlt] at hj; cases hj
            · rw [List.getElem?_eq_none (by rw [List.length_set]; omega)] at hj; cases hj
          · rw [List.getElem?_set_ne hij] at hj; exact h0 j c hj)
        rw [List.length_set] at g4
        refine ⟨congrArg (· + 1) cl, Lf ++ Lio, Lr, R, fun B hB => ?_, g2, ?_, g4, ?_⟩
        · refine .yes (.m (q2.own_of hb)) (fun j z => ?_) (g1 B hB)
          cases z
          exact hA 0 v rfl
        · refine (List.Perm.append_left _ q4).trans ((perm_abc _ Lf _).trans ?_)
          rw [List.append_assoc]
          exact g3.append_left Lf
        · have : iosF k (⟨.m k, n, d⟩ :: p.1) = (k, n) :: iosF (k + 1) p.1 := by rw [iosF]; simp
          rw [this]
          intro S' ds Lo e o
          cases o with
          | @cons _ _ _ d' ds' La' Lb' o1 o2 =>
            obtain ⟨ρ3, k1, k2, Le3, Lx, k3, k4⟩ := g5 S' ds' Lb' e o2
            have hz0 : v = A' k := hA 0 v rfl
            rw [← hz0] at o1
            obtain ⟨L4, s4, R4, p4, z4⟩ := k3.putN (CellOk.of_own o1 hb) (fun j z => q3 j z) (by rw [k2, g4]; exact hl) hv
            refine ⟨ρ3.set i (some ⟨b, n, d'⟩), ?_, by rw [List.length_set]; exact k2, L4, ?_⟩
            · rw [putArgs.eq_def]
              simp only [h0 i _ hi, k1]
              rfl
            · obtain ⟨Lz, hz⟩ : ∃ Lz, Le3.Perm (R4 ++ Lz) := z4.exists_perm_append
              refine ⟨Lz ++ Lx, s4, ?_⟩
              rw [List.append_assoc]
              refine (k4.append_left La').trans ?_
              refine (List.Perm.append_left La' (hz.append_right Lx)).trans ?_
              rw [← List.append_assoc, ← List.append_assoc, ← List.append_assoc]
              exact (List.Perm.append_right Lz p4.symm |>.append_right Lx)
      · cases h
    · cases h
def fCall (n : Nat) (mf : MFn) (dds : List D) (r : MR) : MF := fun ρ => (r ρ).bind fun as ρ1 => match takeArgs 0 as ρ1 with
  | some (cells, ρ2) => if cells.length + dds.length = n then (match mf (cells ++ dds.map sh) with
    | .ok m d ds => (match putArgs as ρ1 ds ρ2 with | some ρ3 => .ok (own m d) ρ3 | none => .bad)
    | .ex x ds => (match putArgs as ρ1 ds ρ2 with | some ρ3 => .ex x ρ3 | none => .bad)
    | .bad => .bad) else .bad
  | none => .bad
theorem iosF_app : ∀ {cs ds : List Cell} {k : Nat}, (∀ c ∈ ds, ∀ j, c.b ≠ .m j) → iosF k (cs ++ ds) = iosF k cs
  | [], ds, k, h => iosF_lend h
  | c :: cs, ds, k, h => by
    rw [List.cons_append, iosF, iosF, iosF_app h]
theorem fcall_s {n : Nat} {mf : MFn} {dvs : List V} {dds : List D} {ta : TA} {r : MR} (hd : ∀ S, ShA K S dvs dds) (ha : FrOk K mg W ta r) :
    FxOk K mg W (tCallSD (spM K mg n mf) dvs (fun σ cls d H => W cls d σ H) ta) (fCall n mf dds r) := by
  intro ρ S F A H σ Le M Q' hl sl hr
  have h1 := ha ρ S F A H σ Le M (fun vs H1 => spM K mg n mf (vs ++ dvs) H1 Q' (fun cls d H => W cls d σ H)) hl sl hr
  unfold fCall
  cases hm : r ρ with
  | bad => trivial
  | ex x ρ1 => rw [hm] at h1; exact h1
  | ok as ρ1 =>
    rw [hm] at h1
    simp only [RF.bind_ok]
    cases ht : takeArgs 0 as ρ1 with
    | none => trivial
    | some p =>
      obtain ⟨cells, ρ2⟩ := p
      simp only
      by_cases hn : cells.length + dds.length = n
      · rw [if_pos hn]
        have main : ∀ vs S1 H1 Le1 Lc, σ.length = ρ1.length → Slots K S1 F A ρ1 σ Le1 → ArgV K S1 F σ as vs Lc → HRel S1 (Lc ++ (M ++ (Le1 ++ F))) H1 →
            ∃ Lio Lr R A', (vs ++ dvs).length = n ∧ Slots K S1 (Lr ++ (M ++ (R ++ F))) A' ((cells ++ dds.map sh).map some) ((vs ++ dvs).map some) Lio ∧ HRel S1 (Lio ++ (Lr ++ (M ++ (R ++ F)))) H1 ∧ ρ2.length = ρ1.length ∧ PutOk K S1 F A A' σ as ρ1 ρ2 (iosF 0 (cells ++ dds.map sh)) R := by
          intro vs S1 H1 Le1 Lc l1 sl1 t1 hr1
          obtain ⟨cl, Lio, Lr, R, g1, g2, g3, g4, g5⟩ := take_ok (A' := fun i => vs.getD i .non) (ρ0 := ρ1) t1 ht sl1 l1 (fun i v hv => by
            simp only [Nat.zero_add, List.getD_eq_getElem?_getD, hv, Option.getD_some]) (fun _ _ h => h)
          have hdl : dvs.length = dds.length := (hd S1).length
          refine ⟨Lio, Lr, R, fun i => vs.getD i .non, by rw [List.length_append, hdl, ← cl]; exact hn, ?_, hr1.perm ?_, g4, ?_⟩
          · rw [List.map_append, List.map_append]
            have := (g1 (Lr ++ (M ++ (R ++ F))) ((List.Sublist.refl Lr).append ((List.sublist_append_right R F).trans (List.sublist_append_right M _)))).append (hd S1).slots
            rwa [List.append_nil] at this
          · refine (perm_abc Lc M _).trans ?_
            rw [← List.append_assoc Lc Le1 F]
            refine (List.Perm.append_left M (g3.append_right F)).trans ?_
            rw [List.append_assoc, List.append_assoc]
            refine (perm_abc M Lio _).trans (List.Perm.append_left Lio (perm_abc M Lr _))
          · have hz : ∀ c ∈ dds.map sh, ∀ j, c.b ≠ .m j := by
              intro c hc j z
              obtain ⟨c', _, rfl⟩ := List.mem_map.mp hc
              cases z
            rw [iosF_app hz]
            exact g5
        cases hmf : mf (cells ++ dds.map sh) with
        | bad => trivial
        | ok m d ds =>
          simp only
          cases hp : putArgs as ρ1 ds ρ2 with
          | none => trivial
          | some ρ3 =>
            intro k
            refine h1 fun vs S1 H1 Le1 Lc l1 e1 sl1 t1 hr1 => ?_
            obtain ⟨Lio, Lr, R, A', m1, m2, m3, m4, m5⟩ := main vs S1 H1 Le1 Lc l1 sl1 t1 hr1
            refine ⟨cells ++ dds.map sh, S1, _, A', Lio, m1, m2, m3, ?_⟩
            rw [hmf]
            intro v S2 H2 Ld Lo e2 o2 oo hr2
            obtain ⟨ρ3', k1, k2, Le3, Lx, k3, k4⟩ := m5 S2 ds Lo e2 oo
            rw [hp] at k1
            cases k1
            refine k v S2 H2 Le3 Ld (by rw [k2, m4]; exact l1) (e1.trans e2) k3 (.o o2) ?_
            have h3 : HRel S2 (Ld ++ (Lr ++ (M ++ ((Lo ++ R) ++ F)))) H2 := hr2.perm (by
              refine List.Perm.append_left Ld ((perm_abc Lo Lr _).trans (List.Perm.append_left Lr ((perm_abc Lo M _).trans ?_)))
              rw [List.append_assoc])
            have h4 := h3.perm (List.Perm.append_left Ld (List.Perm.append_left Lr (List.Perm.append_left M (k4.append_right F))))
            refine h4.sub ((List.Sublist.refl Ld).append ?_)
            refine List.Sublist.trans ?_ (List.sublist_append_right Lr _)
            exact (List.Sublist.refl M).append ((List.sublist_append_left Le3 Lx).append (List.Sublist.refl F))
        | ex x ds =>
          simp only
          cases hp : putArgs as ρ1 ds ρ2 with
          | none => trivial
          | some ρ3 =>
            intro k
            refine h1 fun vs S1 H1 Le1 Lc l1 e1 sl1 t1 hr1 => ?_
            obtain ⟨Lio, Lr, R, A', m1, m2, m3, m4, m5⟩ := main vs S1 H1 Le1 Lc l1 sl1 t1 hr1
            refine ⟨cells ++ dds.map sh, S1, _, A', Lio, m1, m2, m3, ?_⟩
            rw [hmf]
            intro cls d S2 H2 Lo e2 ex oo hr2
            obtain ⟨ρ3', k1, k2, Le3, Lx, k3, k4⟩ := m5 S2 ds Lo e2 oo
            rw [hp] at k1
            cases k1
            refine k cls d S2 H2 (by rw [k2, m4]; exact l1) (e1.trans e2) ex ⟨Le3, k3, ?_⟩
            have h3 : HRel S2 ((Lo ++ R) ++ (Lr ++ (M ++ F))) H2 := hr2.perm (by
              rw [List.append_assoc]
              refine List.Perm.append_left Lo ?_
              refine (List.Perm.append_left Lr (perm_abc M R F)).trans (perm_abc Lr R _))
            have h4 := h3.perm (k4.append_right _)
            refine h4.sub ((List.sublist_append_left Le3 Lx).append ?_)
            exact (List.sublist_append_right M F).trans (List.sublist_append_right Lr _)
      · rw [if_neg hn]; trivial
end
section
variable {X : Cx} {W : WX} {k n : Nat} {x : Str} {mf : MFn} {dvs : List V} {dds : List D} {p pos : Pos} {e : Expr} {es : List Expr} {te : TE} {ta : TA} {a : MF} {r : MR}
theorem frm_nil : FRM X W [] tNil frNil := ⟨pa_nil, fr_nil_s⟩
theorem frm_c (ha : FM X W e te a) (hr : FRM X W es ta r) (hs : starEach (e :: es) X.env = (false, eval e X.env) :: starEach es X.env := by rfl) : FRM X W (e :: es) (tCons te ta) (frC a r) := ⟨pa_cons ha.p hr.p hs, fr_c_s ha.s hr.s⟩
theorem frm_t (ha : FM X W e te a) (hr : FRM X W es ta r) (hs : starEach (e :: es) X.env = (false, eval e X.env) :: starEach es X.env := by rfl) : FRM X W (e :: es) (tCons te ta) (frT a r) := ⟨pa_cons ha.p hr.p hs, fr_t_s ha.s hr.s⟩
theorem frm_io (i : Nat) {y : Str} {py : Pos} (h : PE X (.Name y py) (tVar i)) (hr : FRM X W es ta r) (hs : starEach (.Name y py :: es) X.env = (false, eval (.Name y py) X.env) :: starEach es X.env := by rfl) : FRM X W (.Name y py :: es) (tCons (tVar i) ta) (frIo i r) := ⟨pa_cons h hr.p hs, fr_io_s hr.s⟩
theorem fm_call (tk : Takes X W) (F : FnM X.prog X.w X.K X.mg X.base k x n mf dvs dds) (hr : Room k X.A) (hg : Gl X x) (ha : FRM X W (e :: es) ta r)
    (hdb : (x == ("__debug__" : Str)) = false := by decide) (he : starEach (e :: es) X.env = (false, eval e X.env) :: starEach es X.env := by rfl) (hpl : (backTo pos (starEach es X.env)).any (·.1) = false := by rfl) :
    FM X W (.Call (.Name x p) (e :: es) [] pos) (tCallSD (spM X.K X.mg n mf) dvs (fun σ cls d H => W cls d σ H) ta) (fCall n mf dds r) := by
  obtain ⟨f, fd, ps, ds, h1, h2, h3, h4, h5⟩ := F.ex
  exact ⟨pe_callSD h1 hr hg h2 h3 h4 h5 (fun σ => passAt tk σ) ha.p hdb he hpl, fcall_s F.dd ha.s⟩
theorem fm_mv (i : Nat) {y : Str} {py : Pos} (h : PE X (.Name y py) (tVar i)) : FM X W (.Name y py) (tVar i) (fMv i) := ⟨h, fx_mv_s⟩
end
section
variable {X : Cx} {W : WX} {e : Expr} {es : List Expr} {y : Str} {py : Pos} {i : Nat} {ta : TA} {a : MFA} {name : Str} {apos cpos : Pos} {T id : String} {r : V → List V → Hp → VK → Prop} {mo : MM}
theorem fm_mut (hm : MtR X id r) (hk : MutM X.K r mo) (pa : PlainAttrs T) (slot : Slot T name id) (hty : typeOf (.builtin id) = pure (.type "method_descriptor")) (ho : PE X (.Name y py) (tVar i)) (ha : FAM X W (e :: es) ta a)
    (hbase : attributeBase (.Name y py) name X.env (eval (.Name y py) X.env) = eval (.Name y py) X.env := by rfl)
    (hfew : ((backTo cpos (starEach (e :: es) X.env)).all (fun x => !x.1) && (backToKw cpos (keywordEach [] X.env)).all (fun x => x.1.isSome)
      && decide ((e :: es).length + ([] : List Keyword).length + (if ([] : List Keyword).isEmpty then 0 else 1) < 30)) = true := by rfl)
    (hline : (apos.endLine == cpos.line) = true := by rfl) (hs : starEach (e :: es) X.env = (false, eval e X.env) :: starEach es X.env := by rfl) (hplain : (backTo cpos (starEach es X.env)).any (·.1) = false := by rfl) :
    FM X W (.Call (.Attribute (.Name y py) name apos) (e :: es) [] cpos) (tBM X.K T r (tVar i) ta) (fMut T i a mo) :=
  ⟨pe_bm pa slot hty hm ho ha.p hbase hfew hline hs hplain, fx_mut_s hk ha.s⟩
theorem fm_mut0 (hm : MtR X id r) (hk : MutM X.K r mo) (pa : PlainAttrs T) (slot : Slot T name id) (hty : typeOf (.builtin id) = pure (.type "method_descriptor")) (ho : PE X (.Name y py) (tVar i))
    (hbase : attributeBase (.Name y py) name X.env (eval (.Name y py) X.env) = eval (.Name y py) X.env := by rfl) (hline : (apos.endLine == cpos.line) = true := by rfl) : FM X W (.Call (.Attribute (.Name y py) name apos) [] [] cpos) (tBM0 X.K T r (tVar i)) (fMut T i faNil mo) :=
  ⟨pe_bm0 pa slot hty hm ho hbase hline, fx_mut_s (ta := tNil) hk fa_nil_s⟩
end
/-! ### a law's end -/
/-- all but the tables -/
def noTbl (H : Hp) : Hp := fun b => match H b with
  | some (.tbl _) => none
  | x => x
theorem noTbl_at {H : Hp} {b : Addr} {o : HO} (h : H b = some o) (n : ∀ ps, o ≠ .tbl ps) : noTbl H b = some o := by
  unfold noTbl
  rw [h]
  cases o <;> first | rfl | exact absurd rfl (n _)
theorem noTbl_of {H : Hp} {b : Addr} {o : HO} (h : noTbl H b = some o) : H b = some o ∧ ∀ ps, o ≠ .tbl ps := by
  unfold noTbl at h
  split at h
  · cases h
  · next h2 => exact ⟨h, fun ps z => h2 ps (by rw [h, z])⟩
theorem sql_noTbl {K : PySem.W.Frag} {H : Hp} {a : Addr} {vs : List V} (h : SqL K H a vs) : SqL K (noTbl H) a vs := by
  rcases h with (h | ⟨o, h⟩) | h
  · exact .inl (.inl (noTbl_at h fun _ z => by cases z))
  · exact .inl (.inr ⟨o, noTbl_at h fun _ z => by cases z⟩)
  · exact .inr h
theorem start_m {K : PySem.W.Frag} {mg : Str → Option Value} {mf : MFn} {ns : List Int} {H : Hp} {a : Addr} (hT : LamX.Tabs TB.T H) (hN : NdefX.TabsN TB.N H) (hS : SqL K H a (ns.map V.int)) (he : ∃ m ds, mf [sh (.lst (ns.map D.int))] = .ok m (.bl true) ds) :
    spM K mg 1 mf [.ref a] H (fun v _ => v = .bl true) fun _ _ _ => False := by
  obtain ⟨m, ds, he⟩ := he
  have ints0 : ∀ ns : List Int, ShA K (noTbl H) (ns.map V.int) (ns.map D.int) := fun ns => by
    induction ns with
    | nil => exact .nil
    | cons n ns ih => exact .cons (.int n) ih
  refine ⟨[sh (.lst (ns.map D.int))], noTbl H, [], fun _ => .non, [] ++ [], rfl, .yes (.o (.sh (.lst (sql_noTbl hS) (ints0 ns)))) (fun j z => nomatch z) .nil, ⟨fun b o h => (noTbl_of h).1, fun p hp => (nomatch hp), List.nodup_nil, hT, hN, fun b ps z => (noTbl_of z).2 ps rfl, fun p hp => (nomatch hp)⟩, ?_⟩
  rw [he]
  intro v S' H' Lc Lo e o oo hr
  have : v = .bl true := by cases o with | sh o => exact o.blE | bl => rfl
  exact this
theorem law_walkM {l : PySem.W.OpenLaw} {k : Nat} {q : Program} {loose : List Str} {XP : (Str → Option Value) → Heap → Prop} {YP : World → Heap → Prop} {d : DefRec} {K : Params → PySem.W.Frag} {x : Str} {mf : MFn}
    (hT : TB.T = []) (hn : l.most = some 63) (hdf : d.params.defaults = []) (hr : Room k callerA)
    (htrue : ∀ ns : List Int, ns.length ≤ 63 → (∀ z ∈ ns, Builtin.Int.intBits z ≤ 1048576) → ∃ m ds, mf [sh (.lst (ns.map D.int))] = .ok m (.bl true) ds)
    (hY : ∀ (w : World) (h : Heap), YP w h → (K w.params).In h)
    (F : ∀ (w : World) (mg : Str → Option Value) (fa : Addr) (h : Heap), (K w.params).In h → h.Ns mainGlobals mg → mg d.name = some (.ref fa) →
      ∃ fd : FuncData, (∀ (s : Shared) (u : Value), BindsTo s fd ⟨[u], []⟩ [(x, u)]) ∧
        ∀ base : Heap, (K w.params).In base → base.Ns mainGlobals mg → FnOk l.prog w (K w.params) mg base (L2.CX l.prog w) k fa fd [x] (spM (K w.params) mg 1 mf)) 
    (hNN : TB.N = [] := by rfl) : PySem.W.WalkO q loose XP YP l.row.toRowW d [] (fun f vs => PySem.call f vs) := by
  refine L2.walk_ofB (n := 63) (k := k) (x := x) (CX := fun w => L2.CX l.prog w) (sp := fun w => fun vs H Q E => ∀ mg, spM (K w.params) mg 1 mf vs H Q E) hn (by decide) hdf hr hY (fun w mg fa h h1 h2 h3 => ?_) (fun w H a ns hl hb hO hS mg => ?_) (fun w H s e s' hx => ?_)
  · obtain ⟨fd, g1, g2⟩ := F w mg fa h h1 h2 h3
    exact ⟨fd, g1, fun base b1 b2 => (g2 base b1 b2).imp fun vs H Q E hq => hq mg⟩
  · exact start_m (fun p hp => by rw [hT] at hp; cases hp) (fun p hp => by rw [hNN] at hp; cases hp) hS (htrue ns hl hb)
  · obtain ⟨_, _, _, _, _, _, _, _, _, _, _, _, z⟩ := hx
    exact z
/-- the same where the row makes lambdas: cs, the makers' code objects and their tables -/
theorem law_walkT {l : PySem.W.OpenLaw} {k : Nat} {q : Program} {loose : List Str} {XP : (Str → Option Value) → Heap → Prop} {YP : World → Heap → Prop} {d : DefRec} {K : Params → PySem.W.Frag} {x : Str} {mf : MFn} {cs : List (Addr × Addr)}
    (hT : ∀ p ∈ TB.T, p.1 ∈ cs.map (·.2)) (hn : l.most = some 63) (hdf : d.params.defaults = []) (hr : Room k callerA)
    (htrue : ∀ ns : List Int, ns.length ≤ 63 → (∀ z ∈ ns, Builtin.Int.intBits z ≤ 1048576) → ∃ m ds, mf [sh (.lst (ns.map D.int))] = .ok m (.bl true) ds)
    (hY : ∀ (w : World) (h : Heap), YP w h → (K w.params).In h)
    (hC : ∀ (w : World) (h : Heap), YP w h → ∀ p ∈ cs, h.get? p.2 = some { cls := .none, data := .fields #[] } ∧ (K w.params).lookup p.2 = none ∧ PySem.W.codeHdIn (K w.params) p.1 p.2 = true)
    (F : ∀ (w : World) (mg : Str → Option Value) (fa : Addr) (h : Heap), (K w.params).In h → h.Ns mainGlobals mg → mg d.name = some (.ref fa) →
      ∃ fd : FuncData, (∀ (s : Shared) (u : Value), BindsTo s fd ⟨[u], []⟩ [(x, u)]) ∧
        ∀ base : Heap, (K w.params).In base → base.Ns mainGlobals mg → (∀ p ∈ cs, LamX.TabB base mg p.1 p.2) → FnOk l.prog w (K w.params) mg base (L2.CX l.prog w) k fa fd [x] (spM (K w.params) mg 1 mf)) 
    (hNN : ∀ p ∈ TB.N, p.1 ∈ cs.map (·.2) := by intro p hp; cases hp) : PySem.W.WalkO q loose XP YP l.row.toRowW d [] (fun f vs => PySem.call f vs) := by
  refine LamX.walk_ofTs (n := 63) (k := k) (x := x) (CX := fun w => L2.CX l.prog w) hn (by decide) hdf hr hY (fun w mg fa h Y h1 h2 h3 => ?_) fun w H s e s' hx => ?_
  · obtain ⟨fd, g1, g2⟩ := F w mg fa h h1 h2 h3
    have c := hC w h Y
    refine ⟨fd, cs, spM (K w.params) mg 1 mf, fun p hp => (c p hp).1, fun p hp => (c p hp).2.1, fun p hp => PySem.W.codeHd_of_K h1 (c p hp).2.2, g1, fun H a ns hl hb hH hS => ?_, g2⟩
    refine start_m (fun p hp => ?_) (fun p hp => ?_) hS (htrue ns hl hb)
    rotate_left 1
    · obtain ⟨c0, hc0, e⟩ := List.mem_map.mp (hNN p hp)
      have := hH c0 hc0
      rw [e] at this
      exact NdefX.TabN.nil this
    obtain ⟨c0, hc0, e⟩ := List.mem_map.mp (hT p hp)
    have := hH c0 hc0
    rw [e] at this
    exact LamX.TabS.nil this
  · obtain ⟨_, _, _, _, _, _, _, _, _, _, _, _, z⟩ := hx
    exact z
end VL
set_option maxRecDepth 100000
/-! WH: built-ins as functions of cells. -/
namespace VL
open PySem L2
variable [TB : Tbs]

open Classical in
noncomputable def addM : MO := fun x y => match x.d, y.d with
  | .int i, .int j => some (sh (.int (i + j)))
  | .str i, .str j => if i.length + j.length ≤ sizeLine then some (sh (.str (i ++ j))) else none
  | .lst xs, .lst ys => if x.flat = true ∧ y.flat = true ∧ xs.length + ys.length ≤ sizeLine then some (own 1 (.lst (xs ++ ys))) else none
  | .tup xs, .tup ys => if x.n = 0 ∧ y.n = 0 ∧ xs.length + ys.length ≤ sizeLine then some (sh (.tup (xs ++ ys))) else none
  | _, _ => none
theorem om_add {K : PySem.W.Frag} : OpM K (rAddP K) addM := ⟨_, ok_addP, fun c1 c2 c h Q q => by
  unfold addM at h
  split at h
  · next h1 h2 => cases h; exact .inl ⟨_, _, h1, h2, q⟩
  · next h1 h2 => split at h <;> first | (next h3 => cases h; exact .inr (.inl ⟨_, _, h1, h2, h3, q⟩)) | cases h
  · next h1 h2 => split at h <;> first | (next h3 => cases h; exact .inr (.inr (.inl ⟨_, _, h1, h2, h3.1, h3.2.1, h3.2.2, q⟩))) | cases h
  · next h1 h2 => split at h <;> first | (next h3 => cases h; exact .inr (.inr (.inr ⟨_, _, h1, h2, h3.1, h3.2.1, h3.2.2, q⟩))) | cases h
  · cases h⟩
open Classical in
noncomputable def mulM : MO := fun x y => match x.d, y.d with
  | .int i, .int j => if CMul i j ∨ CMulW i j then some (sh (.int (i * j))) else none
  | .lst xs, .int k => if x.b = .o ∧ x.n = 1 ∧ i62 k = true ∧ xs.length * k.toNat ≤ sizeLine then some (own 1 (.lst (List.replicate k.toNat xs).flatten)) else none
  | _, _ => none
theorem om_mul {K : PySem.W.Frag} : OpM K rMulP mulM := ⟨_, ok_mulP, fun c1 c2 c h Q q => by
  unfold mulM at h
  split at h
  · next h1 h2 => split at h <;> first | (next h3 => cases h; exact .inl ⟨_, _, h1, h2, h3, q⟩) | cases h
  · next h1 h2 =>
    split at h
    · next h3 =>
      cases h
      have h4 := i62_of h3.2.2.1
      obtain ⟨b, n, d⟩ := c1
      obtain ⟨e1, e2, _, e4⟩ := h3
      simp only at e1 e2 h1
      subst e1 e2 h1
      exact .inr ⟨_, _, rfl, h2, by omega, by omega, e4, q⟩
    · cases h
  · cases h⟩
abbrev subM : MO := intM fun i j => i - j
noncomputable abbrev divM : MO := intCM (fun i j => CDiv i j ∨ CDivW i j) fun i j => i / j
noncomputable abbrev modM : MO := intCM (fun _ j => 0 < j) fun i j => i % j
noncomputable abbrev powM : MO := intCM CPow fun i j => i ^ j.toNat
noncomputable abbrev shlM : MO := intCM CPow fun i j => i * 2 ^ j.toNat
noncomputable abbrev shrM : MO := intCM (fun _ j => 0 ≤ j) fun i j => i / 2 ^ j.toNat
abbrev andM : MO := intM fun i j => Builtin.bitAnd i j
abbrev orM : MO := intM fun i j => Builtin.bitOr i j
abbrev xorM : MO := intM fun i j => Builtin.bitXor i j
noncomputable abbrev ltM : MO := cmpM fun i j => dB (i < j)
noncomputable abbrev leM : MO := cmpM fun i j => dB (i ≤ j)
noncomputable abbrev gtM : MO := cmpM fun i j => dB (j < i)
noncomputable abbrev geM : MO := cmpM fun i j => dB (j ≤ i)
abbrev negU : MU := intU fun i => -i
/-- the bits of a number; hidden, so that nothing is computed where it stands -/
noncomputable def bitLen (i : Int) : Nat := Classical.choose (⟨Builtin.Int.intBits i, rfl⟩ : ∃ k, k = Builtin.Int.intBits i)
theorem bitLen_eq (i : Int) : bitLen i = Builtin.Int.intBits i := Classical.choose_spec (⟨Builtin.Int.intBits i, rfl⟩ : ∃ k, k = Builtin.Int.intBits i)
noncomputable abbrev bitsU : MU := intU fun i => (bitLen i : Nat)
/-- ==, != of plain data -/
def eqM (neg : Bool) : MO := fun x y => if D.pl 60 x.d = true ∧ D.pl 60 y.d = true then some (sh (.bl (xor neg (x.d.eqv y.d)))) else none
theorem om_eq {K : PySem.W.Frag} {neg : Bool} : OpM K (rEqP K neg) (eqM neg) := ⟨_, ok_eq, fun c1 c2 c h Q q => by
  unfold eqM at h
  split at h
  · next h1 => cases h; exact ⟨h1.1, h1.2, q⟩
  · cases h⟩
def inSeqM (neg : Bool) : MO := fun x y => match y.d.items with
  | some ys => if D.pl 60 x.d = true ∧ D.pl 60 y.d = true then some (sh (.bl (xor neg (x.d.mem ys)))) else none
  | none => none
theorem om_inSeq {K : PySem.W.Frag} {neg : Bool} : OpM K (rInP K neg) (inSeqM neg) := ⟨_, ok_in, fun c1 c2 c h Q q => by
  unfold inSeqM at h
  split at h
  · next ys hy =>
    split at h
    · next h1 => cases h; exact ⟨ys, hy, h1.1, h1.2, q⟩
    · cases h
  · cases h⟩
def ixM : MO := fun x y => match x.d, y.d with
  | .lst ds, .int z => (match ixN ds.length z with | some j => (match ds[j]? with | some d => some (x.item d) | none => none) | none => none)
  | .tup ds, .int z => (match ixN ds.length z with | some j => (match ds[j]? with | some d => some (x.item d) | none => none) | none => none)
  | .str s, .int z => if s.length ≤ sizeLine then (match atI s.cps.toList z with | some c => some (sh (.str ⟨#[c]⟩)) | none => none) else none
  | _, _ => none
theorem om_ix {K : PySem.W.Frag} : OpM K (rIx K) ixM := ⟨_, ok_ix, fun c1 c2 c h Q q => by
  unfold ixM at h
  split at h
  · next h1 h2 =>
    split at h
    · next j hj =>
      split at h
      · next d hd => cases h; exact .inl ⟨_, _, j, d, by rw [h1]; rfl, h2, hj, hd, q⟩
      · cases h
    · cases h
  · next h1 h2 =>
    split at h
    · next j hj =>
      split at h
      · next d hd => cases h; exact .inl ⟨_, _, j, d, by rw [h1]; rfl, h2, hj, hd, q⟩
      · cases h
    · cases h
  · next h1 h2 =>
    split at h
    · next hz =>
      split at h
      · next c hc => cases h; exact .inr ⟨_, _, c, h1, h2, hz, hc, q⟩
      · cases h
    · cases h
  · cases h⟩
/-! calls -/
def lenM : MC := fun cs => match cs with
  | [c] => (match c.d.len with | some n => if n ≤ sizeLine then some (sh (.int n)) else none | none => none)
  | _ => none
theorem cm_len {K : PySem.W.Frag} : CbM K (fun xs H Q => ∃ x n, xs = [x] ∧ LenV K x H n ∧ Q (.int n) H) lenM := ⟨_, ok_len, fun cs c h Q q => by
  unfold lenM at h
  split at h
  · split at h
    · next n hn =>
      split at h
      · next hz => cases h; exact ⟨_, n, rfl, hn, hz, q⟩
      · cases h
    · cases h
  · cases h⟩
open Classical in
noncomputable def divmodM : MC := fun cs => match cs with
  | [x, y] => (match x.d, y.d with
    | .int i, .int j => if CDiv i j then some (sh (.tup [.int (i / j), .int (i % j)])) else none
    | _, _ => none)
  | _ => none
theorem cm_divmod {K : PySem.W.Frag} : CbM K (fun xs H Q => ∃ i j, xs = [.int i, .int j] ∧ CDiv i j ∧ ∀ p, H p = none → Q (.ref p) (upd H p (.tup [.int (i / j), .int (i % j)]))) divmodM := ⟨_, ok_divmod, fun cs c h Q q => by
  unfold divmodM at h
  split at h
  · split at h
    · next e1 e2 =>
      split at h
      · next h1 => cases h; exact ⟨_, _, _, _, rfl, e1, e2, h1, q⟩
      · cases h
    · cases h
  · cases h⟩
def int1M (f : Int → Int) : MC := fun cs => match cs with
  | [x] => (match x.d with | .int i => some (sh (.int (f i))) | _ => none)
  | _ => none
def int2M (f : Int → Int → Int) : MC := fun cs => match cs with
  | [x, y] => (match x.d, y.d with | .int i, .int j => some (sh (.int (f i j))) | _, _ => none)
  | _ => none
theorem cm_I1 {K : PySem.W.Frag} {f : Int → Int} : CbM K (fun xs H Q => ∃ i, xs = [.int i] ∧ Q (.int (f i)) H) (int1M f) := ⟨_, ok_I1, fun cs c h Q q => by
  unfold int1M at h
  split at h
  · split at h
    · next e1 => cases h; exact ⟨_, _, rfl, e1, q⟩
    · cases h
  · cases h⟩
theorem cm_I2 {K : PySem.W.Frag} {f : Int → Int → Int} : CbM K (fun xs H Q => ∃ i j, xs = [.int i, .int j] ∧ Q (.int (f i j)) H) (int2M f) := ⟨_, ok_I2, fun cs c h Q q => by
  unfold int2M at h
  split at h
  · split at h
    · next e1 e2 => cases h; exact ⟨_, _, _, _, rfl, e1, e2, q⟩
    · cases h
  · cases h⟩
abbrev absM : MC := int1M fun i => if i < 0 then -i else i
abbrev max2M : MC := int2M fun i j => if j > i then j else i
abbrev min2M : MC := int2M fun i j => if j < i then j else i
def listM : MC := fun cs => match cs with
  | [c] => (match c.d.items with | some ds => if c.flat = true ∧ ds.length ≤ sizeLine then some (own 1 (.lst ds)) else none | none => none)
  | _ => none
theorem cm_list {K : PySem.W.Frag} : CbM K (fun xs H Q => ∃ p ys, xs = [.ref p] ∧ (SqL K H p ys ∨ SqT K H p ys) ∧ ∀ l, H l = none → Q (.ref l) (upd H l (.lst ys))) listM := ⟨_, ok_list, fun cs c h Q q => by
  unfold listM at h
  split at h
  · split at h
    · next ds hd =>
      split at h
      · next h1 => cases h; exact ⟨_, ds, rfl, hd, h1.1, h1.2, q⟩
      · cases h
    · cases h
  · cases h⟩
def tupleM : MC := fun cs => match cs with
  | [c] => (match c.d with
    | .lst ds => if c.flat = true then some (sh (.tup ds)) else none
    | .tup ds => if c.n = 0 then some (sh (.tup ds)) else none
    | _ => none)
  | _ => none
theorem cm_tuple {K : PySem.W.Frag} : CbM K (fun xs H Q => ∃ p ys, xs = [.ref p] ∧ ((SqL K H p ys ∧ ∀ l, H l = none → Q (.ref l) (upd H l (.tup ys))) ∨ (SqT K H p ys ∧ Q (.ref p) H))) tupleM := ⟨_, ok_tuple, fun cs c h Q q => by
  unfold tupleM at h
  split at h
  · split at h
    · next ds hd =>
      split at h
      · next h1 => cases h; exact .inl ⟨_, ds, rfl, hd, h1, q⟩
      · cases h
    · next ds hd =>
      split at h
      · next h1 => cases h; exact .inr ⟨_, ds, rfl, hd, h1, q⟩
      · cases h
    · cases h
  · cases h⟩
/-- a list's ints -/
def D.intA : List D → Option (List Int)
  | [] => some []
  | .int i :: r => (D.intA r).map (i :: ·)
  | _ => none
theorem intA_map : ∀ ns : List Int, D.intA (ns.map D.int) = some ns
  | [] => rfl
  | n :: ns => by rw [List.map_cons, D.intA, intA_map ns]; rfl
theorem intA_of : ∀ {ds : List D} {ns : List Int}, D.intA ds = some ns → ds = ns.map D.int
  | [], ns, h => by cases h; rfl
  | .int i :: r, ns, h => by
    obtain ⟨m, h1, rfl⟩ := Option.map_eq_some_iff.mp h
    rw [List.map_cons, intA_of h1]
  | .non :: _, _, h => by cases h
  | .bl _ :: _, _, h => by cases h
  | .str _ :: _, _, h => by cases h
  | .lst _ :: _, _, h => by cases h
  | .tup _ :: _, _, h => by cases h
  | .dK _ :: _, _, h => by cases h
  | .dT _ :: _, _, h => by cases h
  | .exn _ _ :: _, _, h => by cases h
  | .dF _ :: _, _, h => by cases h
def sumM : MC := fun cs => match cs with
  | [x] => (match x.d with
    | .lst ds => (match D.intA ds with | some ns => some (sh (.int ns.sum)) | none => none)
    | _ => none)
  | _ => none
theorem cm_sum {K : PySem.W.Frag} : CbM K (rSum K) sumM := ⟨_, ok_sum, fun cs c h Q q => by
  unfold sumM at h
  split at h
  · split at h
    · next e1 =>
      split at h
      · next ns hn => cases h; exact ⟨_, ns, rfl, by rw [e1, intA_of hn], q⟩
      · cases h
    · cases h
  · cases h⟩
/-! slices -/
def slM : Cell → Option Int → Option Int → Option Cell := fun c lo hi => match c.d with
  | .lst ds => if c.flat = true ∧ ds.length ≤ sizeLine then some (own 1 (.lst (cutD ds lo hi))) else none
  | .tup ds => if c.frz.n = 0 then some (sh (.tup (cutD ds lo hi))) else none
  | _ => none
abbrev MOp := Env → R (Option Int)
abbrev OM (X : Cx) (W : WX) (e : Option Expr) (t : TO) (m : MOp) : Prop := CO X W e t (we_ m)
def moNone : MOp := fun _ => .ok none
def moSome (e : ME) : MOp := fun ρ => (e ρ).bind fun c => match c.d with | .int i => .ok (some i) | _ => .bad
theorem CO.mono {X : Cx} {W : WX} {e : Option Expr} {t : TO} {w w' : WOp} (h : CO X W e t w) (q : ∀ ρ Q X, w' ρ Q X → w ρ Q X) : CO X W e t w' := ⟨h.p, fun ρ Q X hw => h.s ρ Q X (q ρ Q X hw)⟩
def mSl (e : ME) (l h : MOp) : ME := fun ρ => (e ρ).bind fun c => (l ρ).bind fun lo => (h ρ).bind fun hi => .opt (slM c lo hi)
section
variable {X : Cx} {W : WX} {e : Expr} {lo hi : Option Expr} {te : TE} {me : ME} {tl th : TO} {ml mh : MOp} {p2 pos : Pos}
theorem om_none : OM X W none tNoPart moNone := co_none
theorem om_some (h : EM X W e te me) : OM X W (some e) (tPart te) (moSome me) := (co_some h).mono fun ρ Q XQ h => by
  simp only [we_, moSome, wR_bind] at h
  refine wR_mono h fun c _ h => ?_
  split at h
  · next i hi => exact ⟨i, hi, h⟩
  · exact h.elim
theorem em_slice (he : EM X W e te me) (hl : OM X W lo tl ml) (hh : OM X W hi th mh) : EM X W (.Subscript e (.Slice lo hi none p2) pos) (tSl (rSlLT X.K) te tl th) (mSl me ml mh) := (ce_slice sl_lt ok_slice he hl hh).mono fun ρ Q XQ h => by
  simp only [we_, mSl, wR_bind] at h
  refine wR_mono h fun c _ h => wR_mono h fun lo _ h => wR_mono h fun hi _ h => ?_
  obtain ⟨c', h1, h2⟩ := wR_opt h
  unfold slM at h1
  split at h1
  · next ds hd =>
    split at h1
    · next h3 => cases h1; exact .inl ⟨ds, hd, h3.1, h3.2, h2⟩
    · cases h1
  · next ds hd =>
    split at h1
    · next h3 => cases h1; exact .inr ⟨ds, hd, h3, h2⟩
    · cases h1
  · cases h1
end
/-! isinstance, bit_length -/
def isDT : D → Bool
  | .dT _ => true | .exn _ _ => true | .dF _ => true | .obj _ _ => true | .pob _ _ => true | .clo _ _ => true | _ => false
theorem bt_of {d : D} (h : ¬ isDT d = true) : d.bt = true := by
  cases d <;> first | rfl | exact absurd rfl h
def isiU (T : String) : MU := fun c => if isDT c.d = true then none else some (sh (.bl (tyIs c.d.ty T)))
section
variable {X : Cx} {W : WX} {a o : Expr} {ta to : TE} {ma mo : ME} {p p2 pos apos : Pos} {T : String} {x : Str}
theorem em_isi (hT : T ∈ ["int", "bool", "str", "list", "tuple", "dict"]) (hg : Gl X "isinstance") (hm : X.mg "isinstance" = none)
    (hc : PE X (.Name x p2) (tC (.ty T))) (ha : EM X W a ta ma)
    (he : starEach [a, .Name x p2] X.env = (false, eval a X.env) :: starEach [.Name x p2] X.env := by rfl) (he2 : starEach [.Name x p2] X.env = (false, eval (.Name x p2) X.env) :: starEach [] X.env := by rfl) (hpl : (backTo pos (starEach [.Name x p2] X.env)).any (·.1) = false := by rfl) :
    EM X W (.Call (.Name "isinstance" p) [a, .Name x p2] [] pos) (tIsi X.K T ta) (mUn (isiU T) ma) := (ce_isi hT hg hm hc ha he he2 hpl).mono fun ρ Q XQ h => by
  simp only [we_, mUn, wR_bind] at h
  refine wR_mono h fun c _ h => ?_
  obtain ⟨c', h1, h2⟩ := wR_opt h
  unfold isiU at h1
  split at h1
  · cases h1
  · next h3 =>
    cases h1
    exact ⟨⟨fun es => ⟨fun z => h3 (by rw [z]; rfl), fun z => h3 (by rw [z]; rfl)⟩, bt_of h3⟩, h2⟩
theorem em_bits (ho : EM X W o to mo) (hbase : attributeBase o "bit_length" X.env (eval o X.env) = eval o X.env := by rfl) (hline : (apos.endLine == pos.line) = true := by rfl) :
    EM X W (.Call (.Attribute o "bit_length" apos) [] [] pos) (tBits to) (mUn bitsU mo) := (ce_bits ho hbase hline).mono fun ρ Q XQ h => by
  simp only [we_, mUn, wR_bind] at h
  refine wR_mono h fun c _ h => ?_
  obtain ⟨c', h1, h2⟩ := wR_opt h
  simp only [bitsU, intU, bitLen_eq] at h1
  split at h1
  · next i hi => cases h1; exact ⟨i, hi, h2⟩
  · cases h1
end
section
variable {X : Cx} {W : WX} {e : Expr} {pos : Pos} {x : Str} {p : Pos} {es : List Expr} {ta : TA} {ma : MA} {mfa : MFA} {id T : String} {r : List V → Hp → VK → Prop} {mc : MC}
theorem em_cb (hc : CallR X (.builtin id) r) (hk : CbM X.K r mc) (hg : Gl X x) (hm : X.mg x = none) (ha : AM X W (e :: es) ta ma) (hv : bootBuiltins x = some (.builtin id) := by decide +kernel) (hn : x ≠ "__name__" := by decide) (hdb : (x == ("__debug__" : Str)) = false := by decide)
    (he : starEach (e :: es) X.env = (false, eval e X.env) :: starEach es X.env := by rfl) (hpl : (backTo pos (starEach es X.env)).any (·.1) = false := by rfl) : EM X W (.Call (.Name x p) (e :: es) [] pos) (tCB r ta) (mCB mc ma) := by
  obtain ⟨wo, h1, h2⟩ := hk
  exact CE.mono ⟨pe_callB hc hg hm hv ha.p hn hdb he hpl, cb_sound h1 ha.s⟩ (cb_m h2)
theorem em_cty (hc : CallR X (.type T) r) (hk : CbM X.K r mc) (hg : Gl X x) (hm : X.mg x = none) (ha : AM X W (e :: es) ta ma) (hv : bootBuiltins x = some (.type T) := by decide +kernel) (hn : x ≠ "__name__" := by decide) (hdb : (x == ("__debug__" : Str)) = false := by decide)
    (he : starEach (e :: es) X.env = (false, eval e X.env) :: starEach es X.env := by rfl) (hpl : (backTo pos (starEach es X.env)).any (·.1) = false := by rfl) : EM X W (.Call (.Name x p) (e :: es) [] pos) (tCB r ta) (mCB mc ma) := by
  obtain ⟨wo, h1, h2⟩ := hk
  exact CE.mono ⟨pe_callTy hc hg hm hv ha.p hn hdb he hpl, cb_sound h1 ha.s⟩ (cb_m h2)
theorem fm_cb (hc : CallR X (.builtin id) r) (hk : CbM X.K r mc) (hg : Gl X x) (hm : X.mg x = none) (ha : FAM X W (e :: es) ta mfa) (hv : bootBuiltins x = some (.builtin id) := by decide +kernel) (hn : x ≠ "__name__" := by decide) (hdb : (x == ("__debug__" : Str)) = false := by decide)
    (he : starEach (e :: es) X.env = (false, eval e X.env) :: starEach es X.env := by rfl) (hpl : (backTo pos (starEach es X.env)).any (·.1) = false := by rfl) : FM X W (.Call (.Name x p) (e :: es) [] pos) (tCB r ta) (fCB mc mfa) :=
  ⟨pe_callB hc hg hm hv ha.p hn hdb he hpl, fx_cb_s hk ha.s⟩
theorem fm_cty (hc : CallR X (.type T) r) (hk : CbM X.K r mc) (hg : Gl X x) (hm : X.mg x = none) (ha : FAM X W (e :: es) ta mfa) (hv : bootBuiltins x = some (.type T) := by decide +kernel) (hn : x ≠ "__name__" := by decide) (hdb : (x == ("__debug__" : Str)) = false := by decide)
    (he : starEach (e :: es) X.env = (false, eval e X.env) :: starEach es X.env := by rfl) (hpl : (backTo pos (starEach es X.env)).any (·.1) = false := by rfl) : FM X W (.Call (.Name x p) (e :: es) [] pos) (tCB r ta) (fCB mc mfa) :=
  ⟨pe_callTy hc hg hm hv ha.p hn hdb he hpl, fx_cb_s hk ha.s⟩
end
/-! append -/
def appendM : MM := fun n e cs => match e, cs with
  | .lst ds, [c] => if ds.length < sizeLine ∧ c.fits n = true then some (sh .non, .lst (ds ++ [c.d])) else none
  | _, _ => none
theorem mm_append {K : PySem.W.Frag} : MutM K rAppend appendM := ⟨_, ok_append, fun m e cs c e' h Q q => by
  unfold appendM at h
  split at h
  · split at h
    · next h1 => cases h; exact ⟨_, _, rfl, rfl, h1.1, h1.2, q⟩
    · cases h
  · cases h⟩
end VL
set_option maxRecDepth 100000
/-! WI: is, in, sorted, max, min, chained comparisons, isinstance of several types. -/
namespace VL
open PySem L2
variable [TB : Tbs]

/-! ### is -/
def isN : D → Bool
  | .non => true | _ => false
def isM (neg : Bool) : MO := fun x y => match y.d with
  | .non => some (sh (.bl (xor neg (isN x.d)))) | _ => none
theorem Sh.isN {K : PySem.W.Frag} {S : Hp} {v : V} {d : D} (h : Sh K S v d) : decide (v = .non) = isN d := by cases h <;> rfl
def oIs (neg : Bool) : WO := fun x y Q => y.d = .non ∧ Q (sh (.bl (xor neg (isN x.d))))
theorem ok_isF {K : PySem.W.Frag} : OpOk K (fun x y H Q => y = .non ∧ Q (.bl (decide (x = .non))) H) (oIs false) := by
  rintro c1 c2 Q ⟨h1, q⟩ S Fl F H v1 v2 tc tv Q' r k
  have a := r.sh
  rw [h1] at a
  refine ⟨a.nonE, ?_⟩
  rw [r.sh2.isN]
  exact k _ _ S H (by simpa using q) (Same.refl S) (r.tail.tail.push (.bl _))
theorem ok_isT {K : PySem.W.Frag} : OpOk K (fun x y H Q => y = .non ∧ Q (.bl (!decide (x = .non))) H) (oIs true) := by
  rintro c1 c2 Q ⟨h1, q⟩ S Fl F H v1 v2 tc tv Q' r k
  have a := r.sh
  rw [h1] at a
  refine ⟨a.nonE, ?_⟩
  rw [r.sh2.isN]
  exact k _ _ S H (by simpa using q) (Same.refl S) (r.tail.tail.push (.bl _))
theorem is_m {neg : Bool} {c1 c2 c : Cell} (h : isM neg c1 c2 = some c) {Q : Cell → Prop} (q : Q c) : oIs neg c1 c2 Q := by
  unfold isM at h
  split at h
  · next h1 => cases h; exact ⟨h1, q⟩
  · cases h
theorem om_is {K : PySem.W.Frag} : OpM K (fun x y H Q => y = .non ∧ Q (.bl (decide (x = .non))) H) (isM false) := ⟨_, ok_isF, fun _ _ _ h _ q => is_m h q⟩
theorem om_isn {K : PySem.W.Frag} : OpM K (fun x y H Q => y = .non ∧ Q (.bl (!decide (x = .non))) H) (isM true) := ⟨_, ok_isT, fun _ _ _ h _ q => is_m h q⟩

/-! ### keys -/
def D.key : D → Option Key
  | .int i => some (.inl i) | .str s => some (.inr s) | _ => none
def D.keys : List D → Option (List Key)
  | [] => some []
  | d :: r => match d.key with | some k => (D.keys r).map (k :: ·) | none => none
theorem Sh.key {K : PySem.W.Frag} {S : Hp} {v : V} {d : D} {k : Key} (h : Sh K S v d) (e : d.key = some k) : v = kV k := by
  cases h <;> cases e <;> rfl
theorem ShA.keys {K : PySem.W.Frag} {S : Hp} : ∀ {vs : List V} {ds : List D} {ks : List Key}, ShA K S vs ds → D.keys ds = some ks → vs = ks.map kV
  | _, _, ks, .nil, e => by cases e; rfl
  | _, _, ks, .cons (d := d) h t, e => by
    rw [D.keys] at e
    split at e
    · next k hk =>
      obtain ⟨ks', h1, rfl⟩ := Option.map_eq_some_iff.mp e
      rw [h.key hk, ShA.keys t h1]
      rfl
    · cases e
theorem ShE.val {K : PySem.W.Frag} {S : Hp} {κ : Type} [DecidableEq κ] {k : κ} : ∀ {kvs : List (κ × V)} {es : List (κ × D)}, ShE K S κ kvs es → (∀ d, (es.find? fun e => decide (e.1 = k)).map (·.2) = some d → ∃ v, valV kvs k = some v ∧ Sh K S v d) ∧ ((es.find? fun e => decide (e.1 = k)) = none → valV kvs k = none)
  | _, _, .nil => ⟨fun d h => (nomatch h), fun _ => rfl⟩
  | _, _, .cons (k := k') (v := v) (d := d) h t => by
    obtain ⟨i1, i2⟩ := ShE.val (k := k) t
    by_cases hk : k' = k
    · subst hk
      refine ⟨fun d' hd => ?_, fun hd => ?_⟩
      · simp [List.find?_cons] at hd
        subst hd
        exact ⟨v, valV_pos rfl, h⟩
      · simp [List.find?_cons] at hd
    · refine ⟨fun d' hd => ?_, fun hd => ?_⟩
      · rw [List.find?_cons_of_neg (by simpa using hk)] at hd
        rw [valV_neg hk]
        exact i1 d' hd
      · rw [List.find?_cons_of_neg (by simpa using hk)] at hd
        rw [valV_neg hk]
        exact i2 hd
/-- what a dict's items hold at a key -/
def dLook {κ : Type} [DecidableEq κ] (es : List (κ × D)) (k : κ) : Option D := (es.find? fun e => decide (e.1 = k)).map (·.2)
/-- what the dict d holds at the cell c: none: no key for it -/
def D.at (d : D) (c : Cell) : Option (Option D) := match d with
  | .dK es => (match c.d.key with | some k => some (dLook es k) | none => none)
  | .dT es => (match c.d with
    | .tup ds => if c.n = 0 then (match D.keys ds with | some ks => some (dLook es ks) | none => none) else none
    | _ => none)
  | .dF es => (match c.d with
    | .tup ds => if c.n = 0 then (match D.keys ds with | some ks => some (dLook es ks) | none => none) else none
    | _ => none)
  | _ => none
theorem CellOk.shT {K : PySem.W.Frag} {S : Hp} {Fl F : Hl} {c : Cell} {v : V} {L : Hl} {ds : List D} (h : CellOk K S Fl F c v L) (hn : c.n = 0) (hd : c.d = .tup ds) : ∃ a vs, v = .ref a ∧ S a = some (.tup vs) ∧ ShA K S vs ds := by
  obtain ⟨b, n, d⟩ := c
  obtain rfl : n = 0 := hn
  obtain rfl : d = .tup ds := hd
  have := h.zero.1
  cases this with
  | tup a t => exact ⟨_, _, rfl, a, t⟩
/-- a lookup -/
theorem look_ok {K : PySem.W.Frag} {S S' H : Hp} {Fl F : Hl} {c : Cell} {v vd : V} {d : D} {L : Hl} {o : Option D} (hk : CellOk K S Fl F c v L) (hs : Same S H) (hv : Sh K H v c.d) (hd : Sh K H vd d) (e : d.at c = some o) :
    ∃ a r, vd = .ref a ∧ DGet H a v r ∧ (∀ x, o = some x → ∃ y, r = some y ∧ Sh K H y x) ∧ (o = none → r = none) := by
  unfold D.at at e
  split at e
  · next es =>
    split at e
    · next k hkey =>
      cases e
      cases hd with
      | @dK a kvs _ h1 h2 =>
        obtain ⟨i1, i2⟩ := h2.val (k := k)
        refine ⟨a, valV kvs k, rfl, .inl ⟨kvs, k, h1, hv.key hkey, rfl⟩, fun x hx => i1 x hx, fun hx => ?_⟩
        exact i2 (Option.map_eq_none_iff.mp hx)
    · cases e
  · next es =>
    split at e
    · next ds hds =>
      split at e
      · next hn =>
        split at e
        · next ks hks =>
          cases e
          cases hd with
          | @dT a kvs _ h1 h2 =>
            obtain ⟨b, vs, rfl, g1, g2⟩ := hk.shT hn hds
            obtain ⟨i1, i2⟩ := h2.val (k := ks)
            rw [g2.keys hks] at g1
            refine ⟨a, valV kvs ks, rfl, .inr ⟨kvs, ks, b, h1, rfl, hs _ _ g1, rfl⟩, fun x hx => i1 x hx, fun hx => i2 (Option.map_eq_none_iff.mp hx)⟩
        · cases e
      · cases e
    · cases e
  · next es =>
    split at e
    · next ds hds =>
      split at e
      · next hn =>
        split at e
        · next ks hks =>
          cases e
          cases hd with
          | @dF a o0 kvs _ h1 h2 =>
            obtain ⟨b, vs, rfl, g1, g2⟩ := hk.shT hn hds
            obtain ⟨i1, i2⟩ := h2.val (k := ks)
            rw [g2.keys hks] at g1
            refine ⟨a, valV kvs ks, rfl, .inr ⟨kvs, ks, b, .inr ⟨o0, h1⟩, rfl, hs _ _ g1, rfl⟩, fun x hx => i1 x hx, fun hx => i2 (Option.map_eq_none_iff.mp hx)⟩
        · cases e
      · cases e
    · cases e
  · cases e

/-! ### in -/
def strIn (t s : Str) : Bool := !(Builtin.Str.occurrences s t 0 s.length 1).isEmpty
def rInU (K : PySem.W.Frag) (neg : Bool) : R2 := fun x y H Q => rInP K neg x y H Q ∨ (∃ i j, x = .str i ∧ y = .str j ∧ Q (.bl (xor neg (strIn i j))) H) ∨ (∃ a o, y = .ref a ∧ DGet H a x o ∧ Q (.bl (xor neg o.isSome)) H)
theorem op_inU {X : Cx} (hu : X.A.units + 64 < cLine) : OpR X (compareOp .In) (rInU X.K false) := fun pins s σ H x y v u Q I rx ry h => by
  rcases h with h | ⟨i, j, h1, h2, q⟩ | ⟨a, o, rfl, g, q⟩
  · exact op_inP hu pins s σ H x y v u Q I rx ry h
  · exact op_in_str pins s σ H x y v u Q I rx ry ⟨i, j, h1, h2, by simpa [strIn] using q⟩
  · cases (show u = Value.ref a from ry)
    exact d_in (by omega) I g rx fun s' I' => ⟨.bl _, H, I', rfl, by simpa using q⟩
theorem op_ninU {X : Cx} (hu : X.A.units + 64 < cLine) : OpR X (compareOp .NotIn) (rInU X.K true) := fun pins s σ H x y v u Q I rx ry h => by
  rcases h with h | ⟨i, j, h1, h2, q⟩ | ⟨a, o, rfl, g, q⟩
  · exact op_ninP hu pins s σ H x y v u Q I rx ry h
  · exact op_notin_str pins s σ H x y v u Q I rx ry ⟨i, j, h1, h2, by simpa [strIn] using q⟩
  · cases (show u = Value.ref a from ry)
    exact d_notIn (by omega) I g rx fun s' I' => ⟨.bl _, H, I', rfl, by simpa using q⟩
def inM (neg : Bool) : MO := fun x y => match y.d with
  | .lst ys => if D.pl 60 x.d = true ∧ D.pl 60 (.lst ys) = true then some (sh (.bl (xor neg (x.d.mem ys)))) else none
  | .tup ys => if D.pl 60 x.d = true ∧ D.pl 60 (.tup ys) = true then some (sh (.bl (xor neg (x.d.mem ys)))) else none
  | .str s => (match x.d with | .str t => some (sh (.bl (xor neg (strIn t s)))) | _ => none)
  | .dK es => (match (D.dK es).at x with | some o => some (sh (.bl (xor neg o.isSome))) | none => none)
  | .dT es => (match (D.dT es).at x with | some o => some (sh (.bl (xor neg o.isSome))) | none => none)
  | .dF es => (match (D.dF es).at x with | some o => some (sh (.bl (xor neg o.isSome))) | none => none)
  | _ => none
theorem om_in {K : PySem.W.Frag} {neg : Bool} : OpM K (rInU K neg) (inM neg) := by
  refine ⟨fun x y Q => ∃ c, inM neg x y = some c ∧ Q c, ?_, fun c1 c2 c h Q q => ⟨c, h, q⟩⟩
  rintro c1 c2 Q ⟨c, h, q⟩ S Fl F H v1 v2 tc tv Q' r k
  unfold inM at h
  have dict : ∀ es o, c2.d = es → es.at c1 = some o → Q (sh (.bl (xor neg o.isSome))) → rInU K neg v1 v2 H Q' := fun es o he ha q => by
    have hs := r.sh
    rw [he] at hs
    obtain ⟨L, t, hr⟩ := r.tail
    cases t with
    | cons a _ =>
      obtain ⟨ad, ro, h1, h2, h3, h4⟩ := look_ok (S' := S) a hr.sh r.sh2 hs ha
      refine .inr (.inr ⟨ad, ro, h1, h2, ?_⟩)
      have : ro.isSome = o.isSome := by
        cases o with
        | none => rw [h4 rfl]; rfl
        | some x => obtain ⟨y, e, _⟩ := h3 x rfl; rw [e]; rfl
      rw [this]
      exact k _ _ S H q (Same.refl S) (r.tail.tail.push (.bl _))
  split at h
  · next ys hy =>
    split at h
    · next h1 => cases h; exact .inl ⟨c1.d, c2.d, ys, r.sh2, r.sh, by rw [hy]; rfl, h1.1, by rw [hy]; exact h1.2, k _ _ S H q (Same.refl S) (r.tail.tail.push (.bl _))⟩
    · cases h
  · next ys hy =>
    split at h
    · next h1 => cases h; exact .inl ⟨c1.d, c2.d, ys, r.sh2, r.sh, by rw [hy]; rfl, h1.1, by rw [hy]; exact h1.2, k _ _ S H q (Same.refl S) (r.tail.tail.push (.bl _))⟩
    · cases h
  · next s hy =>
    split at h
    · next t ht =>
      cases h
      have a := r.sh2; have b := r.sh
      rw [ht] at a; rw [hy] at b
      exact .inr (.inl ⟨t, s, a.strE, b.strE, k _ _ S H q (Same.refl S) (r.tail.tail.push (.bl _))⟩)
    · cases h
  · next es hy =>
    split at h
    · next o ho => cases h; exact dict _ o hy ho q
    · cases h
  · next es hy =>
    split at h
    · next o ho => cases h; exact dict _ o hy ho q
    · cases h
  · next es hy =>
    split at h
    · next o ho => cases h; exact dict _ o hy ho q
    · cases h
  · cases h

/-! ### sorted -/
def leD (a b : D) : Bool := !PySem.W.dataLt b.py a.py
open Classical in
noncomputable def sortedM : MC := fun cs => match cs with
  | [c] => (match c.d.items with
    | some ds => if c.flat = true ∧ ds.all (D.pl 60) = true ∧ PySem.W.AllAlike (ds.map D.py) ∧ PySem.W.Sortable (ds.map D.py) ∧ ds.length ≤ sizeLine then some (own 1 (.lst (ds.mergeSort leD))) else none
    | none => none)
  | _ => none
end VL
namespace VL
variable [TB : Tbs]
section
open PySem PySem.W PyProof.Rows Builtin
variable {prog : Program} {w : World} {A : Around} {E : Value → Shared → Prop} {s : Shared}
/-- the items of a tuple, collected -/
theorem collect_tup {l : Addr} {us : List Value} {Q : List Value → Shared → Prop} (hT : s.heap.IsTuple l us.toArray) (hz : us.length ≤ sizeLine)
    (h : Q us { s with heap := (s.heap.push (seqObj "list" #[] 0)).update s.heap.objs.size (Obj.mapSeq (· ++ us.toArray)) }) : wpAny (model prog w) A (collect (.ref l)) Q E s := by
  obtain ⟨ob, hob, hcl, k, hda⟩ := id hT
  unfold collect
  refine wpAny_bind (wpAny_runValue (codeAny_builtin entry_proto_collect' (show wpAny _ _ (do again (.builtin "list.__iadd__" ⟨[← newList [], .ref l], []⟩)) _ _ s from ?_)))
  refine wpAny_bind (wpAny_newList (wpAny_pure ⟨Code.quiet_builtin _ (by decide +kernel), codeAny_builtin entry_list_iadd' (show wpAny _ _ (Builtin.List.listExtendWith (.ref s.heap.objs.size) (.ref l) (.ref s.heap.objs.size)) _ _ { s with heap := s.heap.push (seqObj "list" #[] 0) } from ?_)⟩))
  unfold Builtin.List.listExtendWith
  have hob2 : (s.heap.push (seqObj "list" #[] 0)).get? l = some ob := Heap.get?_push_of_some _ hob
  refine wpAny_bind (wpAny_typeOf (T := "tuple") ⟨ob, hob2, hcl⟩ ?_)
  rw [if_pos (by simp [show (Value.type "tuple" == Value.type "tuple") = true from rfl])]
  refine wpAny_bind (listItems_at hob2 hda (wpAny_bind (listItems_at (xs := #[]) (n := 0) (Heap.get?_push_size _ rfl) rfl ?_)))
  rw [if_neg (by simp)]
  refine wpAny_bind (listUpdate_at (xs := #[]) (n := 0) (Heap.get?_push_size _ rfl) rfl (wpAny_pure ?_) (Nat.zero_le _) (by simp only [Array.size_append, List.size_toArray, List.length_nil]; omega))
  refine wpAny_bind (wpAny_load (get?_update_seq (Heap.get?_push_size _ rfl) _) ?_)
  show wpAny (model prog w) A (pure ((#[] : Array Value) ++ us.toArray).toList) _ _ _
  rw [show ((#[] : Array Value) ++ us.toArray).toList = us by simp]
  exact wpAny_pure h
/-- sorted of a tuple: as of a list of its items -/
theorem sorted_tupS {l : Addr} {us : List Value} {Q : Value → Shared → Prop} (hT : s.heap.IsTuple l us.toArray) (hz : us.length ≤ sizeLine)
    (body : ∀ E' : Value → Shared → Prop, wpAny (model prog w) A.in1.in1 (Builtin.«list.sort» ⟨[.ref (s.heap.objs.size + 1)], []⟩) (fun f s' => f = .done (.ret .none) ∧ Q (.ref (s.heap.objs.size + 1)) s') E' { s with heap := copyHeap s.heap us }) :
    wpAny (model prog w) A (call (.builtin "sorted") [.ref l]) Q E s := by
  refine call_function_entry_kw kind_sorted plain_sorted entry_sorted (args_sorted1 _) ?_
  unfold Builtin.«sorted»
  refine wpAny_bind (m := checkCount "sorted" 1 1 _) (wpAny_pure (wpAny_bind (collect_tup hT hz (wpAny_bind (wpAny_newList ?_ hz)))))
  have hs1 : ((s.heap.push (seqObj "list" #[] 0)).update s.heap.objs.size (Obj.mapSeq (· ++ us.toArray))).objs.size = s.heap.objs.size + 1 := by rw [Heap.size_update, size_push']
  rw [hs1]
  have hc0 : (copyHeap s.heap us).get? (s.heap.objs.size + 1) = some (seqObj "list" us.toArray 0) := copyHeap_at s.heap us
  refine wpAny_bind (wpAny_holding (E := E) (wpAny_call_entry_kw (s := { s with heap := copyHeap s.heap us }) slot_list_sort (self := .ref (s.heap.objs.size + 1)) ⟨_, hc0, rfl⟩ entry_list_sort ?_ (args_list_sort _)))
  refine wpAny_mono (body _) (fun f s' hf => ?_) fun _ _ e => e
  obtain ⟨e1, hq⟩ := hf
  subst e1
  exact ⟨_, rfl, wpAny_pure ⟨_, rfl, hq⟩⟩
end
end VL
namespace VL
variable [TB : Tbs]
section
open PySem PySem.W PyProof.Rows Builtin
variable {prog : Program} {w : World} {A : Around} {E : Value → Shared → Prop} {s : Shared} {β : Type} {R : Value → β → Prop} {enc : β → PyData} {bs : List β} {us : List Value}
theorem sorted_dataT {l : Addr} {Q : Value → Shared → Prop} (hT : s.heap.IsTuple l us.toArray) (e : EachIs R us bs) (er : EachIs (fun v b => ∃ as, Reads s.heap v (enc b) as) us bs) (hal : AllAlike (bs.map enc)) (hk : Sortable (bs.map enc)) (hL : bs.length ≤ sizeLine)
    (hu : ∀ b, b ∈ bs → A.units + 2 + (enc b).depth < cLine) (h : ∀ out, out.length = bs.length → EachIs R out (bs.mergeSort (dataLe false enc)) → Q (.ref (s.heap.objs.size + 1)) { s with heap := sortedAll s.heap us (List.toArray out) }) :
    wpAny (model prog w) A (call (.builtin "sorted") [.ref l]) Q E s := by
  have er' : EachIs (fun v b => ∃ as, Reads (sortingHeap (copyHeap s.heap us) (s.heap.objs.size + 1) us) v (enc b) as) us bs := er.mono fun _ _ hq => hq.imp fun _ r => PyProof.Rows.Reads.keeps (fun _ _ => sorting_copy_old) r
  have hz : us.length ≤ sizeLine := by rw [e.length]; exact hL
  refine sorted_tupS hT hz fun E' => ?_
  refine list_sort_vals (s := { s with heap := copyHeap s.heap us }) (copyHeap_at s.heap us) (SortsAt.data (s := { s with heap := sortingHeap (copyHeap s.heap us) (s.heap.objs.size + 1) us }) (each_map (R := fun v d => ∃ as, Reads (sortingHeap (copyHeap s.heap us) (s.heap.objs.size + 1) us) v d as) enc er') hal hk (bound_map hu)) hz ⟨rfl, ?_⟩
  exact h _ (by rw [sortVals_length false rfl]; exact e.length) (sortVals_data false e er' hal)
end
open PySem L2
def le2 (p q : V × D) : Bool := leD p.2 q.2
def rSortedD (K : PySem.W.Frag) : List V → Hp → VK → Prop := fun vs H Q => ∃ (a : Addr) (xs : List V) (ds : List D), vs = [V.ref a] ∧ (SqL K H a xs ∨ SqT K H a xs) ∧ ShA K H xs ds ∧ ds.all (D.pl 60) = true ∧ PySem.W.AllAlike (ds.map D.py) ∧ PySem.W.Sortable (ds.map D.py) ∧ ds.length ≤ sizeLine ∧
  ∀ (p : Addr), H p = none → Q (.ref p) (upd H p (.lst (((xs.zip ds).mergeSort le2).map (·.1))))
theorem ShA.zips {K : PySem.W.Frag} {S : Hp} : ∀ {vs : List V} {ds : List D}, ShA K S vs ds → (∀ p ∈ vs.zip ds, Sh K S p.1 p.2) ∧ (vs.zip ds).map (·.2) = ds
  | _, _, .nil => ⟨fun p hp => (nomatch hp), rfl⟩
  | _, _, .cons a t => ⟨fun p hp => by
      rcases List.mem_cons.mp hp with rfl | hp
      · exact a
      · exact t.zips.1 p hp, by rw [List.zip_cons_cons, List.map_cons, t.zips.2]⟩
theorem ShA.each {X : Cx} {pins : List (Addr × Obj)} {σ : St} {H : Hp} {s : Shared} (I : Inv X pins σ H s) : ∀ {xs : List V} {ds : List D} {its : List Value}, Vals xs its → ShA X.K H xs ds → ds.all (D.pl 60) = true →
    PySem.W.EachIs (fun v (b : V × D) => RelV b.1 v) its (xs.zip ds) ∧ PySem.W.EachIs (fun v (b : V × D) => ∃ as, Reads s.heap v b.2.py as) its (xs.zip ds)
  | _, _, _, .nil, .nil, _ => ⟨.nil, .nil⟩
  | _, _, _, .cons r1 r2, .cons h t, hp => by
    rw [List.all_cons, Bool.and_eq_true] at hp
    obtain ⟨i1, i2⟩ := ShA.each I r2 t hp.2
    exact ⟨.cons r1 i1, .cons (Dp.reads I _ _ _ (h.dp (pl_plain 60 _ hp.1).1) r1) i2⟩
theorem each_vals : ∀ {out : List Value} {zs : List (V × D)}, PySem.W.EachIs (fun v (b : V × D) => RelV b.1 v) out zs → Vals (zs.map (·.1)) out
  | _, _, .nil => .nil
  | _, _, .cons h t => .cons h (each_vals t)
theorem cr_sortedD {X : Cx} (hu : X.A.units + 64 < cLine) : CallR X (.builtin "sorted") (rSortedD X.K) := by
  intro pins s σ H vs us Q I r h
  obtain ⟨a, xs, ds, rfl, hs, hsh, hpl, hal, hk, hL, q⟩ := h
  rw [Vals.ref1 r]
  have each : ∀ {its : List Value}, Vals xs its → _ := fun {its} rv => ShA.each I rv hsh hpl
  have zip2 : ∀ {xs : List V} {ds : List D}, xs.length = ds.length → (xs.zip ds).map (fun b => b.2.py) = ds.map D.py ∧ (xs.zip ds).length = ds.length := by
    intro xs
    induction xs with
    | nil => intro ds e; cases ds with | nil => exact ⟨rfl, rfl⟩ | cons _ _ => cases e
    | cons x xs ih =>
      intro ds e
      cases ds with
      | nil => cases e
      | cons d ds => obtain ⟨i1, i2⟩ := ih (ds := ds) (by simpa using e); exact ⟨by rw [List.zip_cons_cons, List.map_cons, List.map_cons, i1], by rw [List.zip_cons_cons, List.length_cons, List.length_cons, i2]⟩
  obtain ⟨z1, z2⟩ := zip2 hsh.length
  have hun : ∀ b, b ∈ xs.zip ds → X.A.units + 2 + b.2.py.depth < cLine := fun b hb => by
    have hd : b.2 ∈ ds := (List.of_mem_zip hb).2
    have := (pl_plain 60 _ (List.all_eq_true.mp hpl _ hd)).2
    omega
  have fin : ∀ (its : List Value), Vals xs its → ∀ out, out.length = (xs.zip ds).length → PySem.W.EachIs (fun v (b : V × D) => RelV b.1 v) out ((xs.zip ds).mergeSort (PySem.W.dataLe false fun b => b.2.py)) → EP X pins σ Q (.ref (s.heap.objs.size + 1)) { s with heap := PyProof.Rows.sortedAll s.heap its (List.toArray out) } := by
    intro its rv out ho eo
    obtain ⟨ep, he⟩ := PyProof.Rows.sortedAll_at s.heap its (List.toArray out)
    have hv : Vals (((xs.zip ds).mergeSort le2).map (·.1)) out := each_vals eo
    have hlen : (((xs.zip ds).mergeSort le2).map (·.1)).length ≤ sizeLine := by rw [List.length_map, List.length_mergeSort, z2]; exact hL
    exact ⟨.ref _, upd H (s.heap.objs.size + 1) (.lst (((xs.zip ds).mergeSort le2).map (·.1))), I.laid (t' := s.toks) (fun _ _ => PyProof.Rows.sortedAll_old) (Nat.le_succ _) ⟨hlen, out, ep, hv, he⟩, rfl, q _ (I.hok.fresh (Nat.le_succ _))⟩
  rcases hs with hs | hs
  · obtain ⟨its, rv, hl, _⟩ := I.list hs
    obtain ⟨e1, e2⟩ := each rv
    exact PySem.W.sorted_data (enc := fun b : V × D => b.2.py) hl.isList e1 e2 (by rw [z1]; exact hal) (by rw [z1]; exact hk) (by rw [z2]; exact hL) hun (fin its rv)
  · obtain ⟨its, rv, hl, _⟩ := I.tuple hs
    obtain ⟨e1, e2⟩ := each rv
    exact sorted_dataT (enc := fun b : V × D => b.2.py) hl e1 e2 (by rw [z1]; exact hal) (by rw [z1]; exact hk) (by rw [z2]; exact hL) hun (fin its rv)
theorem merge_snd : ∀ {zs : List (V × D)}, (zs.mergeSort le2).map (·.2) = (zs.map (·.2)).mergeSort leD := fun {zs} => List.map_mergeSort fun a _ b _ => rfl
theorem ShA.merge {K : PySem.W.Frag} {S : Hp} {vs : List V} {ds : List D} (h : ShA K S vs ds) : ShA K S (((vs.zip ds).mergeSort le2).map (·.1)) (ds.mergeSort leD) := by
  obtain ⟨hz, hs⟩ := h.zips
  have e2 : ds.mergeSort leD = ((vs.zip ds).mergeSort le2).map (·.2) := by rw [merge_snd, hs]
  rw [e2]
  have hm : ∀ p ∈ (vs.zip ds).mergeSort le2, Sh K S p.1 p.2 := fun p hp => hz p (List.mem_mergeSort.mp hp)
  generalize (vs.zip ds).mergeSort le2 = zs at hm
  induction zs with
  | nil => exact .nil
  | cons z zs ih => exact .cons (hm z List.mem_cons_self) (ih fun p hp => hm p (List.mem_cons_of_mem _ hp))
def cSorted : WF := fun cs Q => ∃ c ds, cs = [c] ∧ c.d.items = some ds ∧ c.flat = true ∧ ds.all (D.pl 60) = true ∧ PySem.W.AllAlike (ds.map D.py) ∧ PySem.W.Sortable (ds.map D.py) ∧ ds.length ≤ sizeLine ∧ Q (own 1 (.lst (ds.mergeSort leD)))
theorem ok_sorted {K : PySem.W.Frag} : CallOk K (rSortedD K) cSorted := by
  rintro cs Q ⟨c, ds, rfl, hd, hf, h1, h2, h3, hz, q⟩ S Fl F H vs tc tv Q' hl r k
  obtain ⟨v, rfl⟩ := vs1 hl rfl
  obtain ⟨S1, a, ws, e1, rfl, g2, g3, g4, r1⟩ := Rel.items r hd hf
  refine ⟨a, ws, ds, rfl, ?_, g3.ex r1.same, h1, h2, h3, hz, fun p hp => k _ _ S1 _ q e1 (r1.mkL hp g3.merge ?_)⟩
  · cases hc : c.d with
    | lst xs => rw [hc] at g2; exact .inl g2
    | tup xs => rw [hc] at g2; exact .inr g2
    | _ => rw [hc] at hd; cases hd
  · rw [List.length_map, List.length_mergeSort, List.length_zip, g4]; omega
theorem cm_sorted {K : PySem.W.Frag} : CbM K (rSortedD K) sortedM := ⟨_, ok_sorted, fun cs c h Q q => by
  unfold sortedM at h
  split at h
  · split at h
    · next ds hd =>
      split at h
      · next h1 => cases h; exact ⟨_, ds, rfl, hd, h1.1, h1.2.1, h1.2.2.1, h1.2.2.2.1, h1.2.2.2.2, q⟩
      · cases h
    · cases h
  · cases h⟩
end VL
set_option maxRecDepth 100000
/-! WJ: max, min, chained comparisons, isinstance of two types; items of dicts; stores. -/
namespace VL
open PySem L2
variable [TB : Tbs]

def maxM : MC := fun cs => match cs with
  | [x] => (match x.d with
    | .lst ds => (match D.intA ds with | some ns => (match ns.max? with | some m => some (sh (.int m)) | none => none) | none => none)
    | _ => none)
  | _ => none
def minM : MC := fun cs => match cs with
  | [x] => (match x.d with
    | .lst ds => (match D.intA ds with | some ns => (match ns.min? with | some m => some (sh (.int m)) | none => none) | none => none)
    | _ => none)
  | _ => none
theorem max_spec : ∀ {ns : List Int} {m : Int}, ns.max? = some m → ∀ k, k ∈ ns → (∀ y, y ∈ ns → y ≤ k) → k = m := fun {ns m} h k hk hy => by
  have := (List.max?_eq_some_iff (xs := ns) (a := m)).mp h
  have h1 := this.2 k hk
  have h2 := hy m this.1
  omega
theorem min_spec : ∀ {ns : List Int} {m : Int}, ns.min? = some m → ∀ k, k ∈ ns → (∀ y, y ∈ ns → k ≤ y) → k = m := fun {ns m} h k hk hy => by
  have := (List.min?_eq_some_iff (xs := ns) (a := m)).mp h
  have h1 := this.2 k hk
  have h2 := hy m this.1
  omega
section
variable {K : PySem.W.Frag}
theorem cm_max : CbM K (rMax K) maxM := by
  refine ⟨fun cs Q => ∃ c, maxM cs = some c ∧ Q c, ?_, fun cs c h Q q => ⟨c, h, q⟩⟩
  rintro cs Q ⟨c, h, q⟩ S Fl F H vs tc tv Q' hl r k
  unfold maxM at h
  split at h
  · next x =>
    split at h
    · next ds hd =>
      split at h
      · next ns hn =>
        split at h
        · next m hm =>
          cases h
          obtain ⟨v, rfl⟩ := vs1 hl rfl
          have hs := Rel.sh r
          rw [hd, intA_of hn] at hs
          cases hs with
          | @lst a ws _ h1 h2 =>
            have e := h2.ints
            subst e
            refine ⟨a, ns, rfl, h1, ?_, fun k' h3 h4 => ?_⟩
            · cases ns with
              | nil => cases hm
              | cons _ _ => simp
            · rw [max_spec hm k' h3 h4]
              exact k _ _ S H q (Same.refl S) ((Rel.tail r).push (.int _))
        · cases h
      · cases h
    · cases h
  · cases h
theorem cm_min : CbM K (rMin K) minM := by
  refine ⟨fun cs Q => ∃ c, minM cs = some c ∧ Q c, ?_, fun cs c h Q q => ⟨c, h, q⟩⟩
  rintro cs Q ⟨c, h, q⟩ S Fl F H vs tc tv Q' hl r k
  unfold minM at h
  split at h
  · next x =>
    split at h
    · next ds hd =>
      split at h
      · next ns hn =>
        split at h
        · next m hm =>
          cases h
          obtain ⟨v, rfl⟩ := vs1 hl rfl
          have hs := Rel.sh r
          rw [hd, intA_of hn] at hs
          cases hs with
          | @lst a ws _ h1 h2 =>
            have e := h2.ints
            subst e
            refine ⟨a, ns, rfl, h1, ?_, fun k' h3 h4 => ?_⟩
            · cases ns with
              | nil => cases hm
              | cons _ _ => simp
            · rw [min_spec hm k' h3 h4]
              exact k _ _ S H q (Same.refl S) ((Rel.tail r).push (.int _))
        · cases h
      · cases h
    · cases h
  · cases h
end
/-! ### a < b < c -/
def mChain (o o' : MO) (a b c : ME) : ME := fun ρ => (a ρ).bind fun x => (b ρ).bind fun y => if y.d.scal = true then (R.opt (o x y)).bind fun z => (asBl z).bind fun k => if k = true then (c ρ).bind fun w => .opt (o' y w) else .ok (sh (.bl false)) else .bad
theorem Rel.dup {K : PySem.W.Frag} {S : Hp} {Fl F : Hl} {H : Hp} {c c1 : Cell} {v v1 : V} {tc : List Cell} {tv : List V} (r : Rel K S Fl F H (c :: c1 :: tc) (v :: v1 :: tv)) (h : c.d.scal = true) : Rel K S Fl F H (c :: c1 :: c :: tc) (v :: v1 :: v :: tv) := by
  obtain ⟨L, t, hr⟩ := r
  cases t with
  | cons a t1 =>
    obtain ⟨s1, e1⟩ := a.scal h
    subst e1
    cases t1 with
    | cons b t2 =>
      refine ⟨_, .cons a (.cons b (.cons a t2)), ?_⟩
      simpa using hr
section
variable {X : Cx} {W : WX} {a b c : Expr} {ta tb tc : TE} {ma mb mc : ME} {pos : Pos} {r r' : R2} {o o' : MO} {op op' : CmpOp}
theorem chain_s {K : PySem.W.Frag} {mg : Str → Option Value} (h : OpM K r o) (h' : OpM K r' o') (ha : ExprOk K mg W ta (we_ ma)) (hb : ExprOk K mg W tb (we_ mb)) (hc : ExprOk K mg W tc (we_ mc)) : ExprOk K mg W (tChain r r' ta tb tc) (we_ (mChain o o' ma mb mc)) := by
  obtain ⟨wo, h1, h2⟩ := h
  obtain ⟨wo', h1', h2'⟩ := h'
  intro ρ Q XQ w S Fl F H σ tc0 tv Q' ev r0 k kx
  simp only [we_, mChain, wR_bind] at w
  refine ha ρ _ XQ w S Fl F H σ tc0 tv _ ev r0 (fun x v S1 H1 q e1 r1 => ?_) kx
  refine hb ρ _ XQ q S1 Fl F H1 σ _ _ _ (ev.ex e1) r1 (fun y u S2 H2 q e2 r2 => ?_) (kx.ex e1)
  obtain ⟨hsc, q⟩ := wR_ite q
  simp only [wR_bind] at q
  obtain ⟨z, hz, q⟩ := wR_opt q
  obtain ⟨kk, hk, q⟩ := wR_asBl q
  refine h1 x y (fun c => c = z) (h2 x y z hz _ rfl) S2 Fl F H2 v u _ _ _ (r2.dup hsc) fun z' vz S3 H3 hq e3 r3 => ?_
  subst hq
  have hv := r3.sh
  rw [hk] at hv
  refine ⟨kk, hv.blE, ?_⟩
  cases kk with
  | true =>
    refine iteT ?_
    have q2 : wR ((mc ρ).bind fun w => R.opt (o' y w)) Q XQ := by simpa using q
    rw [wR_bind] at q2
    refine hc ρ _ XQ q2 S3 Fl F H3 σ _ _ _ (ev.ex ((e1.trans e2).trans e3)) r3.tail (fun w' vw S4 H4 q e4 r4 => ?_) (kx.ex ((e1.trans e2).trans e3))
    obtain ⟨c', hc', q⟩ := wR_opt q
    exact h1' y w' (fun c => c = c') (h2' y w' c' hc' _ rfl) S4 Fl F H4 u vw _ _ Q' r4 fun c'' v' S5 H5 hq e5 r5 => by
      subst hq
      exact k c'' v' S5 H5 q ((((e1.trans e2).trans e3).trans e4).trans e5) r5
  | false =>
    have q : Q (sh (.bl false)) := by simpa [wR] using q
    have k' := k _ _ S3 H3 q ((e1.trans e2).trans e3) (r3.tail.tail.push (.bl false))
    simpa using k'
theorem em_chain (ho : OpR X (compareOp op) r) (h : OpM X.K r o) (ho' : OpR X (compareOp op') r') (h' : OpM X.K r' o') (ha : EM X W a ta ma) (hb : EM X W b tb mb) (hc : EM X W c tc mc)
    (hm : lastMarks [op, op'] [b, c] = false := by with_unfolding_all rfl) : EM X W (.Compare a [op, op'] [b, c] pos) (tChain r r' ta tb tc) (mChain o o' ma mb mc) := ⟨pe_chain ho ho' ha.p hb.p hc.p hm, chain_s h h' ha.s hb.s hc.s⟩
theorem tm_chain (ho : OpR X (compareOp op) r) (h : OpM X.K r o) (ho' : OpR X (compareOp op') r') (h' : OpM X.K r' o') (ha : EM X W a ta ma) (hb : EM X W b tb mb) (hc : EM X W c tc mc)
    (hm : lastMarks [op, op'] [b, c] = false := by with_unfolding_all rfl) : TM X W (.Compare a [op, op'] [b, c] pos) (tTest (tChain r r' ta tb tc)) (mTst (mChain o o' ma mb mc)) := by
  refine ⟨pt_chain ho ho' ha.p hb.p hc.p hm, ?_⟩
  intro ρ Q XQ w S Fl F H σ tc0 tv Q' ev r0 k kx
  simp only [we_, mTst, wR_bind] at w
  refine chain_s h h' ha.s hb.s hc.s ρ _ XQ w S Fl F H σ tc0 tv _ ev r0 (fun c1 v1 S1 H1 q e1 r1 => ?_) kx
  obtain ⟨bb, hb, q⟩ := wR_asBl q
  have hv := r1.sh
  rw [hb] at hv
  exact ⟨bb, hv.blE, k bb S1 H1 q e1 r1.tail⟩
end
/-! ### isinstance(x, (T, U)) -/
def isi2U (T U : String) : MU := fun c => if isDT c.d = true then none else some (sh (.bl (tyIs c.d.ty T || tyIs c.d.ty U)))
def tIsi2 (K : PySem.W.Frag) (T U : String) (ta : TE) : TE := tCB (rIsiT K) (tCons ta (tCons (tTup (tCons (tC (.ty T)) (tCons (tC (.ty U)) tNil))) tNil))
theorem isi2_s {K : PySem.W.Frag} {mg : Str → Option Value} {W : WX} {ta : TE} {ma : ME} {T U : String} (hT : T ∈ ["int", "bool", "str", "list", "tuple", "dict"]) (hU : U ∈ ["int", "bool", "str", "list", "tuple", "dict"]) (h : ExprOk K mg W ta (we_ ma)) : ExprOk K mg W (tIsi2 K T U ta) (we_ (mUn (isi2U T U) ma)) := by
  intro ρ Q XQ w S Fl F H σ tc tv Q' ev r0 k kx
  simp only [we_, mUn, wR_bind] at w
  refine h ρ _ XQ w S Fl F H σ tc tv _ ev r0 (fun c v S1 H1 q e1 r1 => ?_) kx
  obtain ⟨c', h1, q⟩ := wR_opt q
  unfold isi2U at h1
  split at h1
  · cases h1
  · next hdt =>
    cases h1
    refine ⟨by show 2 ≤ sizeLine; rw [sizeLine_eq]; omega, fun p hp => ?_⟩
    obtain ⟨r2, e2⟩ := r1.laid (o := .tup [.ty T, .ty U]) hp
    refine ⟨v, p, [.ty T, .ty U], _, _, _, rfl, upd_same, .cons (.ty T) (.cons (.ty U) .nil), r2.sh.tyX (bt_of hdt) (fun es => .inl fun z => hdt (by rw [z]; rfl)) (fun es z => hdt (by rw [z]; rfl)), ?_, k _ _ _ _ q (e1.trans e2) (r2.tail.push (.bl _))⟩
    rw [PySem.W.kitAny, kit_ty (bt_of hdt) hT, PySem.W.kitAny, kit_ty (bt_of hdt) hU, PySem.W.kitAny]
    cases tyIs c.d.ty T <;> cases tyIs c.d.ty U <;> rfl
section
variable {X : Cx} {W : WX} {a : Expr} {ta : TE} {ma : ME} {p p2 p3 pt pos : Pos} {T U : String} {x y : Str} {k : Nat}
theorem em_isi2 (hT : T ∈ ["int", "bool", "str", "list", "tuple", "dict"]) (hU : U ∈ ["int", "bool", "str", "list", "tuple", "dict"]) (hg : Gl X "isinstance") (hm : X.mg "isinstance" = none)
    (hc : PE X (.Name x p2) (tC (.ty T))) (hc2 : PE X (.Name y p3) (tC (.ty U))) (ha : EM X W a ta ma)
    (h1 : starEach [.Name x p2, .Name y p3] X.env = (false, eval (.Name x p2) X.env) :: starEach [.Name y p3] X.env := by rfl) (h2 : starEach [.Name y p3] X.env = (false, eval (.Name y p3) X.env) :: starEach [] X.env := by rfl)
    (he : starEach [a, .Tuple [.Name x p2, .Name y p3] k pt] X.env = (false, eval a X.env) :: starEach [.Tuple [.Name x p2, .Name y p3] k pt] X.env := by rfl) (he2 : starEach [.Tuple [.Name x p2, .Name y p3] k pt] X.env = (false, eval (.Tuple [.Name x p2, .Name y p3] k pt) X.env) :: starEach [] X.env := by rfl)
    (hpl : (backTo pos (starEach [.Tuple [.Name x p2, .Name y p3] k pt] X.env)).any (·.1) = false := by rfl) :
    EM X W (.Call (.Name "isinstance" p) [a, .Tuple [.Name x p2, .Name y p3] k pt] [] pos) (tIsi2 X.K T U ta) (mUn (isi2U T U) ma) :=
  ⟨pe_callB call_isiT hg hm (by decide +kernel) (pa_cons ha.p (pa_cons (pe_tup (pa_cons hc (pa_cons hc2 pa_nil h2) h1)) pa_nil he2) he) (by decide) (by decide) he hpl, isi2_s hT hU ha.s⟩
end
end VL
set_option maxRecDepth 100000
/-! WK: dicts made, read, stored into; stores into lists; x[i] += e. -/
namespace VL
open PySem L2
variable [TB : Tbs]

/-! ### {} -/
def mDictK : ME := fun _ => .ok (own 1 (.dK []))
def mDictT : ME := fun _ => .ok (own 1 (.dT []))
section
variable {X : Cx} {W : WX} {pos : Pos}
theorem em_dictK : EM X W (.Dict [] [] pos) tDNewK mDictK := by
  refine ⟨pe_dnewK, ?_⟩
  intro ρ Q XQ w S Fl F H σ tc tv Q' ev r k kx p hp
  exact k _ _ S _ w (Same.refl S) (r.lay hp (.dK .nil))
theorem em_dictT : EM X W (.Dict [] [] pos) tDNewT mDictT := by
  refine ⟨pe_dnewT, ?_⟩
  intro ρ Q XQ w S Fl F H σ tc tv Q' ev r k kx p hp
  exact k _ _ S _ w (Same.refl S) (r.lay hp (.dT .nil))
end
/-! ### items -/
def rIxU (K : PySem.W.Frag) : R2 := fun x y H Q => rIx K x y H Q ∨ ∃ a v, x = .ref a ∧ DGet H a y (some v) ∧ Q v H
theorem ix_U {X : Cx} (hu : X.A.units + 64 < cLine) : IxR X (rIxU X.K) := fun value slice pins s σ H x y v u Q I rx ry h hs => by
  rcases h with h | ⟨a, r, rfl, g, q⟩
  · exact ix_seq value slice pins s σ H x y v u Q I rx ry h hs
  · cases (show v = Value.ref a from rx)
    exact PyProof.Rows.tail_any (dict_typeIs I g) PySem.F.slot_dict_getitem.lookup (d_getItem (by omega) I g ry fun w' s' I' rw' => ⟨r, H, I', rw', q⟩) hs
/-- x[k]: an item of a list, a tuple, a text; of a dict of shared values -/
def ixU : MO := fun x y => match x.d with
  | .dK es => if x.n ≤ 1 then (match (D.dK es).at y with | some (some d) => some (sh d) | _ => none) else none
  | .dT es => if x.n ≤ 1 then (match (D.dT es).at y with | some (some d) => some (sh d) | _ => none) else none
  | .dF es => if x.n ≤ 1 then (match (D.dF es).at y with | some (some d) => some (sh d) | _ => none) else none
  | _ => ixM x y
theorem OwnE.to_shx {K : PySem.W.Frag} {S H : Hp} {κ : Type} [DecidableEq κ] {kvs : List (κ × V)} {es : List (κ × D)} {L : Hl} (h : OwnE K S κ 0 kvs es L) : ShE K S κ kvs es := h.to_sh.1
/-- a cell's dict, its values shared -/
theorem CellOk.dictSh {K : PySem.W.Frag} {S H : Hp} {Fl F : Hl} {c : Cell} {v : V} {L : Hl} (h : CellOk K S Fl F c v L) (hn : c.n ≤ 1) :
    (∀ es, c.d = .dK es → ∃ a kvs, v = .ref a ∧ ShE K S Key kvs es ∧ (Same S H → (∀ p ∈ L ++ (Fl ++ F), H p.1 = some p.2) → Rd H a (.dK kvs))) ∧
    (∀ es, c.d = .dT es → ∃ a kvs, v = .ref a ∧ ShE K S (List Key) kvs es ∧ (Same S H → (∀ p ∈ L ++ (Fl ++ F), H p.1 = some p.2) → Rd H a (.dT kvs))) := by
  have base : ∀ {n : Nat} {d : D} {L0 : Hl}, n ≤ 1 → Own K S n v d L0 → (L0 ⊆ L ++ (Fl ++ F)) →
      (∀ es, d = .dK es → ∃ a kvs, v = .ref a ∧ ShE K S Key kvs es ∧ (Same S H → (∀ p ∈ L ++ (Fl ++ F), H p.1 = some p.2) → Rd H a (.dK kvs))) ∧
      (∀ es, d = .dT es → ∃ a kvs, v = .ref a ∧ ShE K S (List Key) kvs es ∧ (Same S H → (∀ p ∈ L ++ (Fl ++ F), H p.1 = some p.2) → Rd H a (.dT kvs))) := by
    intro n d L0 hn o hL
    cases o with
    | sh o =>
      cases o with
      | dK h1 h2 => exact ⟨fun es e => by cases e; exact ⟨_, _, rfl, h2, fun e _ => Rd.ex e h1⟩, fun es e => nomatch e⟩
      | dT h1 h2 => exact ⟨fun es e => (nomatch e), fun es e => by cases e; exact ⟨_, _, rfl, h2, fun e _ => Rd.ex e h1⟩⟩
      | _ => exact ⟨fun es e => (nomatch e), fun es e => (nomatch e)⟩
    | @dK n a kvs es L1 h1 =>
      obtain rfl : n = 0 := by omega
      exact ⟨fun es e => by cases e; exact ⟨_, _, rfl, h1.to_sh.1, fun _ hp => .inl (hp _ (hL List.mem_cons_self))⟩, fun es e => nomatch e⟩
    | @dT n a kvs es L1 h1 =>
      obtain rfl : n = 0 := by omega
      exact ⟨fun es e => (nomatch e), fun es e => by cases e; exact ⟨_, _, rfl, h1.to_sh.1, fun _ hp => .inl (hp _ (hL List.mem_cons_self))⟩⟩
    | _ => exact ⟨fun es e => (nomatch e), fun es e => (nomatch e)⟩
  cases h with
  | o h => exact base hn h fun p hp => List.mem_append_left _ hp
  | m h => exact base hn h fun p hp => List.mem_append_left _ hp
  | l q h => exact base hn h fun p hp => List.mem_append_right _ (List.mem_append_left _ (q.subset hp))
  | p q h => exact base hn h fun p hp => List.mem_append_right _ (List.mem_append_right _ (q.subset hp))
theorem CellOk.dictF {K : PySem.W.Frag} {S : Hp} {Fl F : Hl} {c : Cell} {v : V} {L : Hl} (h : CellOk K S Fl F c v L) {es : List (List Key × D)} (e : c.d = .dF es) : ∃ a o kvs, v = .ref a ∧ ShE K S (List Key) kvs es ∧ S a = some (.frz o (.dT kvs)) := by
  have base : ∀ {n : Nat} {d : D} {L0 : Hl}, Own K S n v d L0 → d = .dF es → ∃ a o kvs, v = .ref a ∧ ShE K S (List Key) kvs es ∧ S a = some (.frz o (.dT kvs)) := by
    intro n d L0 o e
    subst e
    cases o with
    | sh o =>
      cases o with
      | dF h1 h2 => exact ⟨_, _, _, rfl, h2, h1⟩
  cases h with
  | o h => exact base h e
  | m h => exact base h e
  | l q h => exact base h e
  | p q h => exact base h e
/-- a lookup whose value is handed out -/
theorem look_val {K : PySem.W.Frag} {S H : Hp} {Fl F : Hl} {c ck : Cell} {v vk : V} {L L2 : Hl} {o : Option D} (h : CellOk K S Fl F c v L) (hk : CellOk K S Fl F ck vk L2) (hn : c.n ≤ 1) (hs : Same S H) (hp : ∀ p ∈ L ++ (Fl ++ F), H p.1 = some p.2) (hv : Sh K H vk ck.d) (e : c.d.at ck = some o) :
    ∃ a r, v = .ref a ∧ DGet H a vk r ∧ (∀ d, o = some d → ∃ y, r = some y ∧ Sh K S y d) ∧ (o = none → r = none) := by
  obtain ⟨g1, g2⟩ := h.dictSh (H := H) hn
  unfold D.at at e
  split at e
  · next es hd =>
    split at e
    · next k hkey =>
      cases e
      obtain ⟨a, kvs, rfl, h2, h3⟩ := g1 es hd
      obtain ⟨i1, i2⟩ := h2.val (k := k)
      exact ⟨a, valV kvs k, rfl, .inl ⟨kvs, k, h3 hs hp, hv.key hkey, rfl⟩, fun d hd => i1 d hd, fun hd => i2 (Option.map_eq_none_iff.mp hd)⟩
    · cases e
  · next es hd =>
    split at e
    · next ds hds =>
      split at e
      · next hn0 =>
        split at e
        · next ks hks =>
          cases e
          obtain ⟨a, kvs, rfl, h2, h3⟩ := g2 es hd
          obtain ⟨b, vs, rfl, q1, q2⟩ := hk.shT hn0 hds
          obtain ⟨i1, i2⟩ := h2.val (k := ks)
          rw [q2.keys hks] at q1
          exact ⟨a, valV kvs ks, rfl, .inr ⟨kvs, ks, b, h3 hs hp, rfl, hs _ _ q1, rfl⟩, fun d hd => i1 d hd, fun hd => i2 (Option.map_eq_none_iff.mp hd)⟩
        · cases e
      · cases e
    · cases e
  · next es hd =>
    split at e
    · next ds hds =>
      split at e
      · next hn0 =>
        split at e
        · next ks hks =>
          cases e
          obtain ⟨a, o0, kvs, rfl, h2, h3⟩ := h.dictF hd
          obtain ⟨b, vs, rfl, q1, q2⟩ := hk.shT hn0 hds
          obtain ⟨i1, i2⟩ := h2.val (k := ks)
          rw [q2.keys hks] at q1
          exact ⟨a, valV kvs ks, rfl, .inr ⟨kvs, ks, b, .inr ⟨o0, hs _ _ h3⟩, rfl, hs _ _ q1, rfl⟩, fun d hd => i1 d hd, fun hd => i2 (Option.map_eq_none_iff.mp hd)⟩
        · cases e
      · cases e
    · cases e
  · cases e
theorem om_ixU {K : PySem.W.Frag} : OpM K (rIxU K) ixU := by
  obtain ⟨wi, i1, i2⟩ := om_ix (K := K)
  refine ⟨fun x y Q => ∃ c, ixU x y = some c ∧ Q c, ?_, fun c1 c2 c h Q q => ⟨c, h, q⟩⟩
  rintro c1 c2 Q ⟨c, h, q⟩ S Fl F H v1 v2 tc tv Q' r k
  have dict : ∀ d, c1.n ≤ 1 → c1.d.at c2 = some (some d) → Q (sh d) → rIxU K v1 v2 H Q' := fun d hn ha q => by
    have hs2 := r.sh
    have r1 := r.tail.tail
    obtain ⟨L, t, hr⟩ := r
    cases t with
    | @cons _ _ _ _ La Lb a t1 =>
      cases t1 with
      | @cons _ _ _ _ Lc Ld b t2 =>
        obtain ⟨ad, ro, h1, h2, h3, _⟩ := look_val b a hn hr.sh (fun p hp => hr.all p (by
          rw [List.append_assoc]
          rcases List.mem_append.mp hp with hp | hp
          · exact List.mem_append_right _ (List.mem_append_left _ (List.mem_append_left _ hp))
          · exact List.mem_append_right _ (List.mem_append_right _ hp))) hs2 ha
        obtain ⟨y, rfl, hy⟩ := h3 d rfl
        exact .inr ⟨ad, y, h1, h2, k _ _ S H q (Same.refl S) (r1.push hy)⟩
  unfold ixU at h
  split at h
  · next es hd =>
    split at h
    · next hn =>
      split at h
      · next d hat => cases h; exact dict d hn (by rw [hd]; exact hat) q
      · cases h
    · cases h
  · next es hd =>
    split at h
    · next hn =>
      split at h
      · next d hat => cases h; exact dict d hn (by rw [hd]; exact hat) q
      · cases h
    · cases h
  · next es hd =>
    split at h
    · next hn =>
      split at h
      · next d hat => cases h; exact dict d hn (by rw [hd]; exact hat) q
      · cases h
    · cases h
  · exact .inl (i1 c1 c2 Q (i2 c1 c2 c h Q q) S Fl F H v1 v2 tc tv Q' r k)
/-! ### stores -/
theorem OwnA.setV {K : PySem.W.Frag} {S : Hp} {n : Nat} {v : V} {d : D} {M : Hl} (o : Own K S n v d M) : ∀ {vs : List V} {ds : List D} {L : Hl} {j : Nat}, j < ds.length → OwnA K S n vs ds L → ∃ L', OwnA K S n (vs.set j v) (ds.set j d) L' ∧ ∃ R, L'.Perm (M ++ R) ∧ R.Sublist L
  | _, _, _, _, h, .nil => by simp at h
  | _, _, _, 0, h, .cons (L1 := L1) (L2 := L2) a t => ⟨_, .cons o t, L2, List.Perm.refl _, List.sublist_append_right _ _⟩
  | _, _, _, j + 1, h, .cons (L1 := L1) (L2 := L2) a t => by
    obtain ⟨L', h1, R, h2, h3⟩ := OwnA.setV o (j := j) (by simpa using h) t
    exact ⟨L1 ++ L', .cons a h1, L1 ++ R, (h2.append_left L1).trans (perm_abc _ _ _), (List.Sublist.refl L1).append h3⟩
def dPut {κ : Type} [DecidableEq κ] (es : List (κ × D)) (k : κ) (d : D) : List (κ × D) :=
  if (es.any fun e => decide (e.1 = k)) = true then es.map (fun e => if e.1 = k then (e.1, d) else e) else es ++ [(k, d)]
theorem OwnE.keys {K : PySem.W.Frag} {S : Hp} {κ : Type} {n : Nat} : ∀ {kvs : List (κ × V)} {es : List (κ × D)} {L : Hl}, OwnE K S κ n kvs es L → kvs.map (·.1) = es.map (·.1)
  | _, _, _, .nil => rfl
  | _, _, _, .cons _ t => by rw [List.map_cons, List.map_cons, t.keys]
theorem any_keys {κ α β : Type} [DecidableEq κ] {k : κ} : ∀ {xs : List (κ × α)} {ys : List (κ × β)}, xs.map (·.1) = ys.map (·.1) → (xs.any fun e => decide (e.1 = k)) = (ys.any fun e => decide (e.1 = k))
  | [], [], _ => rfl
  | [], _ :: _, h => by cases h
  | _ :: _, [], h => by cases h
  | x :: xs, y :: ys, h => by
    rw [List.map_cons, List.map_cons] at h
    injection h with h1 h2
    rw [List.any_cons, List.any_cons, h1, any_keys h2]
theorem OwnE.snoc {K : PySem.W.Frag} {S : Hp} {κ : Type} {n : Nat} {k : κ} {v : V} {d : D} {M : Hl} (o : Own K S n v d M) : ∀ {kvs : List (κ × V)} {es : List (κ × D)} {L : Hl}, OwnE K S κ n kvs es L → OwnE K S κ n (kvs ++ [(k, v)]) (es ++ [(k, d)]) (L ++ M)
  | _, _, _, .nil => by
    have := OwnE.cons (k := k) o OwnE.nil
    simpa using this
  | _, _, _, .cons a t => by rw [List.append_assoc]; exact .cons a (OwnE.snoc o t)
theorem ShE.repl {K : PySem.W.Frag} {S : Hp} {κ : Type} [DecidableEq κ] {k : κ} {v : V} {d : D} (o : Sh K S v d) : ∀ {kvs : List (κ × V)} {es : List (κ × D)}, ShE K S κ kvs es → ShE K S κ (kvs.map fun e => if e.1 = k then (e.1, v) else e) (es.map fun e => if e.1 = k then (e.1, d) else e)
  | _, _, .nil => .nil
  | _, _, .cons (k := k') a t => by
    rw [List.map_cons, List.map_cons]
    by_cases h : k' = k
    · simp only [h, if_true]
      exact .cons o (ShE.repl o t)
    · simp only [h, if_false]
      exact .cons a (ShE.repl o t)
theorem OwnE.put {K : PySem.W.Frag} {S : Hp} {κ : Type} [DecidableEq κ] {n : Nat} {k : κ} {v : V} {d : D} {M L : Hl} {kvs : List (κ × V)} {es : List (κ × D)} (o : Own K S n v d M) (h : OwnE K S κ n kvs es L) (hn : n = 0 ∨ (es.any fun e => decide (e.1 = k)) = false) : ∃ L', OwnE K S κ n (putK kvs k v) (dPut es k d) L' ∧ L'.Perm (M ++ L) := by
  unfold putK dPut
  rw [any_keys h.keys]
  by_cases ha : (es.any fun e => decide (e.1 = k)) = true
  · rcases hn with rfl | hn
    · rw [if_pos ha, if_pos ha]
      obtain ⟨h1, rfl⟩ := h.to_sh
      cases o with
      | sh o => exact ⟨[], OwnE.of_sh (h1.repl o), List.Perm.refl _⟩
    · rw [hn] at ha; cases ha
  · rw [if_neg ha, if_neg ha]
    exact ⟨_, h.snoc o, List.perm_append_comm⟩
def rSetU : TSet := fun o i v H Q => rSetL o i v H Q ∨ rSetD o i v H Q
theorem set_U {X : Cx} (hu : X.A.units + 64 < cLine) : PSet X rSetU := fun pins s σ H o i v ov iv u Q I ro ri rv h => h.elim (set_list pins s σ H o i v ov iv u Q I ro ri rv) (set_dict (by omega) pins s σ H o i v ov iv u Q I ro ri rv)
def setU : MSet := fun n e ck c => match e with
  | .lst ds => (match ck.d with
    | .int z => (match ixN ds.length z with | some j => if c.fits n = true then some (.lst (ds.set j c.d)) else none | none => none)
    | _ => none)
  | .dK es => (match ck.d.key with
    | some k => if c.fits n = true ∧ es.length < sizeLine ∧ (n = 0 ∨ (es.any fun e => decide (e.1 = k)) = false) then some (.dK (dPut es k c.d)) else none
    | none => none)
  | .dT es => (match ck.d with
    | .tup ds => (match D.keys ds with
      | some ks => if ck.n = 0 ∧ c.fits n = true ∧ es.length < sizeLine ∧ (n = 0 ∨ (es.any fun e => decide (e.1 = ks)) = false) then some (.dT (dPut es ks c.d)) else none
      | none => none)
    | _ => none)
  | _ => none
theorem sm_setU {K : PySem.W.Frag} : SetM K rSetU setU := by
  intro n e ck c e' h S F R H b Lf kv v Lc Q o hk hc hr kk
  unfold setU at h
  split at h
  · next ds =>
    split at h
    · next z hz =>
      split at h
      · next j hj =>
        split at h
        · next hf =>
          cases h
          rw [hz] at hk
          have hm := hr.all
          cases o with
          | @lst _ _ vs _ L1 hz1 oa =>
            obtain ⟨S2, L2, e2, o2, r2⟩ := store1 hc hr hf
            have hjn : j < ds.length := (ixN_seq hj).2.1
            obtain ⟨L3, o3, R3, p3, q3⟩ := (oa.ex e2).setV o2 hjn
            refine .inl ⟨b, vs, z, j, rfl, hk.intE, hm (b, .lst vs) (List.mem_append_left _ List.mem_cons_self), by rw [oa.length]; exact hj, ?_⟩
            refine kk S2 _ ((b, .lst (vs.set j v)) :: L3) e2 (.lst (by rw [List.length_set]; exact hz1) o3) ?_
            have h1 : HRel S2 ((b, HO.lst vs) :: (L1 ++ (L2 ++ R))) H := by simpa using r2
            have h2 : HRel S2 ((b, HO.lst vs) :: ((L2 ++ R3) ++ R)) H := (h1.perm (List.Perm.cons _ (perm_abc L1 L2 R))).sub (by
              refine List.Sublist.cons_cons _ ?_
              rw [List.append_assoc]
              exact (List.Sublist.refl L2).append (q3.append (List.Sublist.refl R)))
            have h3 := h2.put (o' := .lst (vs.set j v))
            exact h3.perm (List.Perm.cons _ (p3.symm.append_right R))
        · cases h
      · cases h
    · cases h
  · next es =>
    split at h
    · next k hkey =>
      split at h
      · next hf =>
        cases h
        have hm := hr.all
        cases o with
        | @dK _ _ kvs _ L1 oe =>
          obtain ⟨S2, L2, e2, o2, r2⟩ := store1 hc hr hf.1
          obtain ⟨L3, o3, p3⟩ := (oe.ex e2).put o2 hf.2.2
          refine .inr ⟨b, _, rfl, .inl ⟨kvs, k, hm (b, .dK kvs) (List.mem_append_left _ List.mem_cons_self), hk.key hkey, by rw [oe.length]; exact hf.2.1, rfl⟩, ?_⟩
          refine kk S2 _ ((b, .dK (putK kvs k v)) :: L3) e2 (.dK o3) ?_
          have h1 : HRel S2 ((b, HO.dK kvs) :: (L1 ++ (L2 ++ R))) H := by simpa using r2
          have h3 := (h1.perm (List.Perm.cons _ (perm_abc L1 L2 R))).put (o' := .dK (putK kvs k v))
          refine h3.perm (List.Perm.cons _ ?_)
          rw [← List.append_assoc]
          exact p3.symm.append_right R
      · cases h
    · cases h
  · next es =>
    split at h
    · next ds hds =>
      split at h
      · next ks hks =>
        split at h
        · next hf =>
          cases h
          rw [hds] at hk
          have hm := hr.all
          cases hk with
          | @tup kb kvs' _ hkb hka =>
            rw [hka.keys hks] at hkb
            cases o with
            | @dT _ _ kvs _ L1 oe =>
              obtain ⟨S2, L2, e2, o2, r2⟩ := store1 hc hr hf.2.1
              obtain ⟨L3, o3, p3⟩ := (oe.ex e2).put o2 hf.2.2.2
              refine .inr ⟨b, _, rfl, .inr ⟨kvs, ks, kb, hm (b, .dT kvs) (List.mem_append_left _ List.mem_cons_self), rfl, hkb, by rw [oe.length]; exact hf.2.2.1, rfl⟩, ?_⟩
              refine kk S2 _ ((b, .dT (putK kvs ks v)) :: L3) e2 (.dT o3) ?_
              have h1 : HRel S2 ((b, HO.dT kvs) :: (L1 ++ (L2 ++ R))) H := by simpa using r2
              have h3 := (h1.perm (List.Perm.cons _ (perm_abc L1 L2 R))).put (o' := .dT (putK kvs ks v))
              refine h3.perm (List.Perm.cons _ ?_)
              rw [← List.append_assoc]
              exact p3.symm.append_right R
        · cases h
      · cases h
    · cases h
  · cases h
/-! ### x[i] += e, a list of ints -/
def augAt (ds : List D) (c : Cell) : Option (Nat × Int) := match c.d with
  | .int z => (match ixN ds.length z with
    | some j => (match ds[j]? with | some (.int x) => some (j, x) | _ => none)
    | none => none)
  | _ => none
def sAugL (i : Nat) (k v : ME) : MS := fun ρ => match ownAt "list" i ρ with
  | some (b, n, .lst ds) => ofR (k ρ) ρ fun ck => ofO (augAt ds ck) fun p => ofR (v ρ) ρ fun cv => (match cv.d with
    | .int y => .nx (ρ.set i (some ⟨b, n + 1, .lst (ds.set p.1 (.int (p.2 + y)))⟩))
    | _ => .bad)
  | _ => .bad
theorem augAt_of {ds : List D} {c : Cell} {j : Nat} {x : Int} (h : augAt ds c = some (j, x)) : ∃ z, c.d = .int z ∧ ixN ds.length z = some j ∧ ds[j]? = some (.int x) := by
  unfold augAt at h
  split at h
  · next z hz =>
    split at h
    · next j' hj =>
      split at h
      · next x' hx => cases h; exact ⟨z, hz, hj, hx⟩
      · cases h
    · cases h
  · cases h
section
variable {X : Cx} {W : WX} {k e : Expr} {tk te : TE} {mk me : ME} {pos p tpos : Pos} {i : Nat} {x : Str}
theorem get_list {X : Cx} : PGet X (rIxL X.K) := by
  intro pins s σ H o i ov iv Q I ro ri h
  obtain ⟨p, xs, z, v, rfl, rfl, hq, he, q⟩ := h
  cases ro
  obtain ⟨t, rfl⟩ := ri
  obtain ⟨its, r, pl, hz⟩ := I.list hq
  obtain ⟨j, h1, h2, h3, h4, h5⟩ := atI_get he
  obtain ⟨u, eu, ru⟩ := r.get h2
  have hl := r.length
  have hn := line63
  have fin : EP X pins σ Q u s := ⟨v, H, I, ru, q⟩
  by_cases h0 : 0 ≤ z
  · have hj : z.toNat = j := by
      rw [seqIndex_of h0 h5] at h1
      exact Option.some.inj h1
    exact PySem.wpAny_getItem_list pl.isList h0 (by omega) (by rw [hj]; simpa using eu) fin
  · have hj : (z + (its.toArray.size : Int)).toNat = j := by
      rw [seqIndex_neg (by omega) h4] at h1
      rw [List.size_toArray, ← hl]
      exact Option.some.inj h1
    exact PySem.wpAny_getItem_list_neg pl.isList (by omega) (by rw [List.size_toArray] <;> omega) (by omega) (by rw [hj]; simpa using eu) fin
theorem sm_augL (ho : PE X (.Name x p) (tVar i)) (hk : EM X W k tk mk) (he : EM X W e te me)
    (ha : ∀ ov iv new, augStore k ov iv new = (do holding [new, ov, iv] (setItem ov iv new); release [new, ov, iv] []; pure .next) := by intros; rfl) :
    SM X W (.AugAssign (.Subscript (.Name x p) k tpos) .Add e pos) (tAugS (tVar i) tk te (rIxL X.K) (ipI fun i j => i + j) rSetL) (sAugL i mk me) := by
  refine ⟨ps_augS ho hk.p get_list he.p ip_add set_list ha, ?_⟩
  intro D ρ hw S F A H σ De hl r en
  simp only [ws_, sAugL] at hw
  cases hown : ownAt "list" i ρ with
  | none => rw [hown] at hw; exact hw.elim
  | some pp =>
    obtain ⟨b, n, d⟩ := pp
    rw [hown] at hw
    obtain ⟨hi, hb, ht, hc⟩ := ownAt_of hown
    cases d with
    | lst ds =>
      simp only at hw
      have hw1 := wSR_ofR hw
      obtain ⟨Le, sl, hr⟩ := r
      obtain ⟨v0, Lf, R, g1, g2, gg, g3, g4⟩ := sl.take hi
      have how := g2.own_of hb
      cases how with
      | @lst _ ad vs _ L1 hz1 oa =>
        refine ⟨_, g1, ?_⟩
        have hmem : ∀ p ∈ ((ad, HO.lst vs) :: L1), p ∈ Le := fun p hp => g3.mem_iff.mpr (List.mem_append_left _ hp)
        refine hk.s ρ _ (D.x ρ) hw1 S Le F H σ [] [] _ (sl.view (List.Sublist.refl _)) ⟨[], .nil, hr⟩ (fun ck kv S1 H1 hq e1 r1 => ?_) (fun x cls d S' H' hx e ex hr1 => en.ex x cls d ρ σ S' H' hx hl rfl e ex ⟨Le, sl.ex e, hr1⟩)
        obtain ⟨⟨j, x⟩, hau, hq⟩ := wSR_ofO hq
        obtain ⟨z, ez, hj, hx⟩ := augAt_of hau
        have hw2 := wSR_ofR hq
        have ks := r1.sh
        rw [ez] at ks
        obtain ⟨v', Lx, hv', ox, hLx⟩ := oa.get hx
        have evx : v' = .int x := by
          cases ox with
          | sh ox => exact ox.intE
          | int => rfl
        subst evx
        refine ⟨ad, vs, z, _, rfl, ks.intE, SqL.of (r1.base.all _ (List.mem_append_left _ (hmem _ List.mem_cons_self))), atI_of hj oa.length hv', ?_⟩
        refine he.s ρ _ (D.x ρ) hw2 S1 Le F H1 σ [] [] _ ((sl.ex e1).view (List.Sublist.refl _)) r1.tail (fun cv yv S2 H2 hq2 e2 r2 => ?_) (fun x cls d S' H' hx e ex hr1 => en.ex x cls d ρ σ S' H' hx hl rfl (e1.trans e) ex ⟨Le, sl.ex (e1.trans e), hr1⟩)
        have ys := r2.sh
        split at hq2
        · next y hy =>
          rw [hy] at ys
          refine ⟨x, y, rfl, ys.intE, ad, vs, z, j, rfl, ks.intE, r2.base.all _ (List.mem_append_left _ (hmem _ List.mem_cons_self)), by rw [oa.length]; exact hj, ?_⟩
          have e12 := e1.trans e2
          have o2 : Own X.K S2 n (.int (x + y)) (.int (x + y)) [] := by cases n with | zero => exact .sh (.int _) | succ n => exact .int _
          obtain ⟨L3, o3, R3, p3, q3⟩ := (oa.ex e12).setV o2 (ixN_seq hj).2.1
          obtain ⟨Le2, s2, p2⟩ := g4 S2 _ _ e12 (CellOk.of_own (.lst (by rw [List.length_set]; exact hz1) o3) hb) gg
          have hr2 := r2.tail.base
          have h1 : HRel S2 ((ad, HO.lst vs) :: (L1 ++ (R ++ F))) H2 := hr2.perm (by
            have := g3.append_right F
            simpa [List.append_assoc] using this)
          have h2 : HRel S2 ((ad, HO.lst vs) :: (L3 ++ (R ++ F))) H2 := (h1.sub (List.Sublist.cons_cons _ (q3.append (List.Sublist.refl _)))).perm (List.Perm.cons _ (by
            have := p3.symm.append_right (R ++ F)
            simpa using this))
          have h3 := h2.put (o' := .lst (vs.set j (.int (x + y))))
          refine en.nx _ σ S2 _ hq2 hl (List.length_set ..) e12 ⟨Le2, s2, h3.perm ?_⟩
          have := p2.symm.append_right F
          simpa [List.append_assoc] using this
        · exact hq2.elim
    | _ => exact hw.elim
end
end VL
set_option maxRecDepth 100000
/-! WL: stores into a slot's container of any kind; methods of what lies within it. -/
namespace VL
open PySem L2
variable [TB : Tbs]

def ownC (i : Nat) (ρ : Env) : Option (Bm × Nat × D) := match ρ[i]? with
  | some (some ⟨b, n + 1, d⟩) => if b.mut = true ∧ d.cont = true then some (b, n, d) else none
  | _ => none
theorem ownC_at {i : Nat} {ρ : Env} {b : Bm} {n : Nat} {d : D} (h : ownC i ρ = some (b, n, d)) : ownAt d.ty i ρ = some (b, n, d) := by
  unfold ownC at h
  unfold ownAt
  split at h
  · next b n d hi =>
    split at h
    · next hc =>
      cases h
      simp only [hi]
      exact if_pos ⟨hc.1, trivial, hc.2⟩
    · cases h
  · cases h
def gmSetU (i : Nat) (k : ME) : MG := fun c ρ => match ownC i ρ with
  | some (b, n, d) => (match k ρ with
    | .ok ck => (match setU n d ck c with
      | some d' => some (ρ.set i (some ⟨b, n + 1, d'⟩))
      | none => none)
    | _ => none)
  | none => none
section
variable {X : Cx} {W : WX} {k : Expr} {tk : TE} {mk : ME} {pos p : Pos} {i : Nat} {x : Str}
theorem gm_setU (hu : X.A.units + 64 < cLine) (ho : PE X (.Name x p) (tVar i)) (hk : EM X W k tk mk)
    (ha : ∀ v, assign (.Subscript (.Name x p) k pos) X.env v = (do
      let ov ← holding [v] (eval (.Name x p) X.env)
      let iv ← holding [v, ov] (eval k X.env)
      standAt pos
      holding [v, ov, iv] (setItem ov iv v)
      release [v, ov, iv] []) := by intro _; rfl) : GM X (.Subscript (.Name x p) k pos) (gSub (tVar i) tk rSetU) (gmSetU i mk) := by
  have g := fun T => (gm_set (T := T) (set_U hu) sm_setU ho hk ha).ok
  have pg := (gm_set (T := "list") (set_U hu) sm_setU ho hk ha).choose_spec.1.p
  refine ⟨fun c ρ Q => ∃ T ρ', gmSet T i mk setU c ρ = some ρ' ∧ Q ρ', ⟨pg, ?_⟩, fun c ρ ρ' h Q q => ?_⟩
  · rintro c ρ Q ⟨T, ρ', h, q⟩
    exact g T c ρ Q ⟨ρ', h, q⟩
  · unfold gmSetU at h
    cases ho : ownC i ρ with
    | none => rw [ho] at h; cases h
    | some pp =>
      obtain ⟨b, n, d⟩ := pp
      rw [ho] at h
      refine ⟨d.ty, ρ', ?_, q⟩
      unfold gmSet
      rw [ownC_at ho]
      exact h
end
/-! ### receivers by a path -/
abbrev MRc := Env → R (Nat × D × (D → Env))
abbrev wr_ (m : MRc) : WR := fun ρ Q X => wR (m ρ) (fun p => Q p.1 p.2.1 p.2.2) X
abbrev RM (X : Cx) (W : WX) (e : Expr) (t : TE) (m : MRc) : Prop := CR X W e t (wr_ m)
theorem CR.mono {X : Cx} {W : WX} {e : Expr} {t : TE} {w w' : WR} (h : CR X W e t w) (q : ∀ ρ Q X, w' ρ Q X → w ρ Q X) : CR X W e t w' := ⟨h.p, fun ρ Q X hw => h.s ρ Q X (q ρ Q X hw)⟩
def rcVar (i : Nat) : MRc := fun ρ => match ownC i ρ with
  | some (b, n, d) => .ok (n + 1, d, fun d' => ρ.set i (some ⟨b, n + 1, d'⟩))
  | none => .bad
def rcAt (ds : List D) (c : Cell) : Option (Nat × D) := match c.d with
  | .int z => (match ixN ds.length z with
    | some j => (match ds[j]? with | some d => if d.cont = true then some (j, d) else none | none => none)
    | none => none)
  | _ => none
def rcIx (r : MRc) (k : ME) : MRc := fun ρ => (r ρ).bind fun p => match p with
  | (n + 2, .lst ds, rb) => (k ρ).bind fun ck => (match rcAt ds ck with
    | some (j, d) => .ok (n + 1, d, fun d' => rb (.lst (ds.set j d')))
    | none => .bad)
  | _ => .bad
def sPath (T : String) (r : MRc) (a : MA) (mo : MM) : MS := fun ρ => ofR (r ρ) ρ fun p => match p with
  | (n + 1, e, rb) => if e.ty = T ∧ e.cont = true then ofR (a ρ) ρ fun cs => ofO (mo n e cs) fun q => .nx (rb q.2) else .bad
  | _ => .bad
section
variable {X : Cx} {W : WX} {a b : Expr} {ta tk : TE} {mr : MRc} {mk : ME} {pos p : Pos} {x : Str}
theorem rm_var (i : Nat) (h : PE X (.Name x pos) (tVar i)) : RM X W (.Name x pos) (tVar i) (rcVar i) := (cr_var i h).mono fun ρ Q XQ h => by
  simp only [wr_, rcVar] at h
  cases ho : ownC i ρ with
  | none => rw [ho] at h; exact h.elim
  | some pp =>
    obtain ⟨b, n, d⟩ := pp
    rw [ho] at h
    obtain ⟨h1, h2, _, h3⟩ := ownAt_of (ownC_at ho)
    exact ⟨b, n, d, h1, h2, h3, h⟩
theorem rm_ix (hr : RM X W a ta mr) (hk : EM X W b tk mk) (hs : PlainIx b) : RM X W (.Subscript a b pos) (tOp (rIxL X.K) ta tk) (rcIx mr mk) := (cr_ix hr hk hs).mono fun ρ Q XQ h => by
  simp only [wr_, rcIx, wR_bind] at h
  refine wR_mono h fun p _ h => ?_
  obtain ⟨m, e, rb⟩ := p
  simp only at h ⊢
  split at h
  · next n ds rb' heq =>
    cases heq
    simp only [wR_bind] at h
    refine ⟨n, ds, rfl, rfl, wR_mono h fun ck _ h => ?_⟩
    cases ha : rcAt ds ck with
    | none => rw [ha] at h; exact h.elim
    | some pp =>
      obtain ⟨j, d⟩ := pp
      rw [ha] at h
      unfold rcAt at ha
      split at ha
      · next z hz =>
        split at ha
        · next j' hj =>
          split at ha
          · next d' hd =>
            split at ha
            · next hc => cases ha; exact ⟨z, j, d, hz, hj, hd, hc, h⟩
            · cases ha
          · cases ha
        · cases ha
      · cases ha
  · exact h.elim
end
section
variable {X : Cx} {W : WX} {o e : Expr} {es : List Expr} {to : TE} {mr : MRc} {ta : TA} {ma : MA} {name : Str} {apos cpos spos : Pos} {T id : String} {r : V → List V → Hp → VK → Prop} {mo : MM}
theorem sm_path (hm : MtR X id r) (hk : MutM X.K r mo) (pa : PlainAttrs T) (slot : Slot T name id) (hty : typeOf (.builtin id) = pure (.type "method_descriptor")) (ho : RM X W o to mr) (ha : AM X W (e :: es) ta ma)
    (hbase : attributeBase o name X.env (eval o X.env) = eval o X.env := by rfl)
    (hfew : ((backTo cpos (starEach (e :: es) X.env)).all (fun x => !x.1) && (backToKw cpos (keywordEach [] X.env)).all (fun x => x.1.isSome)
      && decide ((e :: es).length + ([] : List Keyword).length + (if ([] : List Keyword).isEmpty then 0 else 1) < 30)) = true := by rfl)
    (hline : (apos.endLine == cpos.line) = true := by rfl) (hs : starEach (e :: es) X.env = (false, eval e X.env) :: starEach es X.env := by rfl) (hplain : (backTo cpos (starEach es X.env)).any (·.1) = false := by rfl)
    (hsw : swapsWith (.Call (.Attribute o name apos) (e :: es) [] cpos) none spos.line X.env = pure false := by rfl) :
    SM X W (.Expr (.Call (.Attribute o name apos) (e :: es) [] cpos) spos) (tDrop (tBM X.K T r to ta)) (sPath T mr ma mo) := by
  obtain ⟨wm, q1, q2⟩ := hk
  have he : CEf X W (.Call (.Attribute o name apos) (e :: es) [] cpos) (tBM X.K T r to ta) (wMut T (wr_ mr) (we_ ma) wm) := ⟨pe_bm pa slot hty hm ho.p ha.p hbase hfew hline hs hplain, mut_sound ho.s ha.s q1⟩
  refine (cs_exprE he hsw).mono fun D ρ h => ?_
  refine wR_mono (wSR_ofR h) fun p _ h => ?_
  obtain ⟨m, e', rb⟩ := p
  cases m with
  | zero => exact h.elim
  | succ n =>
    simp only at h
    obtain ⟨⟨h1, h2⟩, h⟩ := wSR_ite h
    refine ⟨n, rfl, h1, h2, wR_mono (wSR_ofR h) fun cs _ h => ?_⟩
    obtain ⟨q, hq, h⟩ := wSR_ofO h
    exact q2 n e' cs q.1 q.2 hq _ h
end
end VL
set_option maxRecDepth 100000
/-! WS: evaluation as rewriting. -/
namespace VL
open PySem L2
variable [TB : Tbs]

/-! ### cells -/
/-- how a view's kind comes out -/
def vb : Bm → Nat → Bm
  | .o, n + 1 => .l
  | .m _, 0 => .o
  | .m _, n + 1 => .l
  | b, _ => b
theorem view_mk (b : Bm) (n : Nat) (d : D) : Cell.view ⟨b, n, d⟩ = ⟨vb b n, n, d⟩ := by cases b <;> cases n <;> rfl
theorem vb_o0 : vb .o 0 = .o := rfl
theorem vb_o1 (n : Nat) : vb .o (n + 1) = .l := rfl
theorem vb_o1' : vb .o 1 = .l := rfl
theorem vb_o2' : vb .o 2 = .l := rfl
theorem vb_l (n : Nat) : vb .l n = .l := by cases n <;> rfl
theorem vb_p (n : Nat) : vb .p n = .p := by cases n <;> rfl
theorem vb_m1 (j n : Nat) : vb (.m j) (n + 1) = .l := rfl
theorem vb_m1' (j : Nat) : vb (.m j) 1 = .l := rfl
theorem vb_m2' (j : Nat) : vb (.m j) 2 = .l := rfl
/-- an argument as the callee sees it -/
def ln : Nat → D → Cell
  | 0, d => ⟨.o, 0, d⟩
  | n + 1, d => ⟨.p, n + 1, d⟩
theorem lend_mk (b : Bm) (n : Nat) (d : D) : Cell.lend ⟨b, n, d⟩ = ln n d := by cases n <;> rfl
theorem lend_ln (n : Nat) (d : D) : Cell.lend (ln n d) = ln n d := by cases n <;> rfl
theorem view_ln (n : Nat) (d : D) : Cell.view (ln n d) = ln n d := by cases n <;> rfl
theorem frz_ln (n : Nat) (d : D) : Cell.frz (ln n d) = ln n d := by cases n <;> rfl
theorem ln_d (n : Nat) (d : D) : (ln n d).d = d := by cases n <;> rfl
theorem ln_n (n : Nat) (d : D) : (ln n d).n = n := by cases n <;> rfl
theorem noL_ln (n : Nat) (d : D) : (ln n d).noL = true := by cases n <;> rfl
theorem nl_ln (n : Nat) (d : D) : (ln n d).nl = true := by cases n <;> rfl
theorem item_ln (n : Nat) (d x : D) (h : n ≤ 1) : (ln n d).item x = sh x := by
  match n, h with
  | 0, _ => rfl
  | 1, _ => rfl
theorem item_ln2 (n : Nat) (d x : D) : (ln (n + 2) d).item x = ln (n + 1) x := rfl
theorem item_mk (b : Bm) (n : Nat) (d x : D) (h : n ≤ 1) : Cell.item ⟨b, n, d⟩ x = sh x := by
  match n, h with
  | 0, _ => rfl
  | 1, _ => rfl
theorem frz_o (n : Nat) (d : D) : Cell.frz ⟨.o, n, d⟩ = sh d := rfl
theorem frz_l (n : Nat) (d : D) : Cell.frz ⟨.l, n + 1, d⟩ = ⟨.l, n + 1, d⟩ := rfl
theorem frz_l1 (d : D) : Cell.frz ⟨.l, 1, d⟩ = ⟨.l, 1, d⟩ := rfl
theorem flat_le (b : Bm) (n : Nat) (d : D) (h : n ≤ 1) : Cell.flat ⟨b, n, d⟩ = true := by simp [Cell.flat, h]
theorem flat_ln (n : Nat) (d : D) (h : n ≤ 1) : Cell.flat (ln n d) = true := by simp [Cell.flat, ln_n, h]
theorem flat_o (n : Nat) (d : D) : Cell.flat ⟨.o, n, d⟩ = true := by simp [Cell.flat]
theorem noL_o (n : Nat) (d : D) : Cell.noL ⟨.o, n, d⟩ = true := rfl
theorem noL_l (n : Nat) (d : D) : Cell.noL ⟨.l, n, d⟩ = false := rfl
theorem nl_o (n : Nat) (d : D) : Cell.nl ⟨.o, n, d⟩ = true := rfl
theorem ret_o (n : Nat) (d : D) : Cell.ret ⟨.o, n, d⟩ = some ⟨.o, n, d⟩ := rfl
theorem ret_l (n : Nat) (d : D) : Cell.ret ⟨.l, n, d⟩ = some ⟨.o, n, d⟩ := rfl
theorem ret_ln0 (d : D) : Cell.ret (ln 0 d) = some ⟨.o, 0, d⟩ := rfl
theorem left_o (n : Nat) (d : D) (ρ : Env) : Cell.left ⟨.o, n, d⟩ ρ = ρ := by cases n <;> rfl
theorem left_ln (n : Nat) (d : D) (ρ : Env) : Cell.left (ln n d) ρ = ρ := by cases n <;> rfl
theorem left_l (n : Nat) (d : D) (ρ : Env) : Cell.left ⟨.l, n + 1, d⟩ ρ = [] := rfl
theorem left_l1 (d : D) (ρ : Env) : Cell.left ⟨.l, 1, d⟩ ρ = [] := rfl
theorem left_l2 (d : D) (ρ : Env) : Cell.left ⟨.l, 2, d⟩ ρ = [] := rfl
theorem fits_scal (n : Nat) (c : Cell) (h : c.d.scal = true) : c.fits n = true := by simp [Cell.fits, h]
theorem fits_o0 (n : Nat) (d : D) : Cell.fits 0 ⟨.o, n, d⟩ = true := by simp [Cell.fits]
theorem fits_ln0 (d : D) : Cell.fits 0 (ln 0 d) = true := by simp [Cell.fits, ln]
theorem fits_oo (n : Nat) (d : D) : Cell.fits n ⟨.o, n, d⟩ = true := by simp [Cell.fits]
theorem scal_int (i : Int) : D.scal (.int i) = true := rfl
theorem scal_bl (i : Bool) : D.scal (.bl i) = true := rfl
theorem scal_str (i : Str) : D.scal (.str i) = true := rfl
theorem scal_non : D.scal .non = true := rfl
theorem fits_int (n : Nat) (b : Bm) (k : Nat) (i : Int) : Cell.fits n ⟨b, k, .int i⟩ = true := fits_scal n _ rfl
theorem fits_bl (n : Nat) (b : Bm) (k : Nat) (i : Bool) : Cell.fits n ⟨b, k, .bl i⟩ = true := fits_scal n _ rfl
theorem fits_str (n : Nat) (b : Bm) (k : Nat) (i : Str) : Cell.fits n ⟨b, k, .str i⟩ = true := fits_scal n _ rfl
theorem fits_non (n : Nat) (b : Bm) (k : Nat) : Cell.fits n ⟨b, k, .non⟩ = true := fits_scal n _ rfl
theorem fits_lint (n k : Nat) (i : Int) : Cell.fits n (ln k (.int i)) = true := fits_scal n _ (by rw [ln_d]; rfl)
theorem fits_lstr (n k : Nat) (i : Str) : Cell.fits n (ln k (.str i)) = true := fits_scal n _ (by rw [ln_d]; rfl)
theorem fitsN_nil (n : Nat) : fitsN n [] = true := rfl
theorem fitsN_cons (n : Nat) (c : Cell) (cs : List Cell) : fitsN n (c :: cs) = (c.fits n && fitsN n cs) := rfl
theorem tupC_0 (cs : List Cell) : tupC 0 cs = sh (.tup (cs.map Cell.d)) := rfl

/-! ### slots -/
theorem var_0 (c : Cell) (ρ : Env) : mVar 0 (some c :: ρ) = .ok c.view := rfl
theorem var_s (i : Nat) (x : Option Cell) (ρ : Env) : mVar (i + 1) (x :: ρ) = mVar i ρ := by
  unfold mVar
  rw [List.getElem?_cons_succ]
theorem gName_0 (c : Cell) (x : Option Cell) (ρ : Env)  : gmName 0 c (x :: ρ) = if c.noL = true then some (some c :: ρ) else none := by
  unfold gmName
  by_cases h : c.noL = true
  · rw [if_pos ⟨by simp, h⟩, if_pos h]; rfl
  · rw [if_neg fun z => h z.2, if_neg h]
theorem gName_s (i : Nat) (c : Cell) (x : Option Cell) (ρ : Env) : gmName (i + 1) c (x :: ρ) = (gmName i c ρ).map (x :: ·) := by
  unfold gmName
  by_cases h : i < ρ.length ∧ c.noL = true
  · rw [if_pos h, if_pos ⟨by simpa using h.1, h.2⟩]; rfl
  · rw [if_neg h, if_neg (fun z => h ⟨by simpa using z.1, z.2⟩)]; rfl
theorem omap_some {α β : Type} (a : α) (f : α → β) : Option.map f (some a) = some (f a) := rfl
theorem frz_at (i : Nat) (s : MS) (ρ : Env) : sFrz i s ρ = match ρ[i]? with | some (some ⟨.o, _, d⟩) => s (ρ.set i (some (sh d))) | _ => .bad := rfl
theorem mv_at (i : Nat) (ρ : Env) : fMv i ρ = match ρ[i]? with | some (some c) => if c.noL = true then .ok c (ρ.set i none) else .bad | _ => .bad := rfl
theorem ownAt_0 (T : String) (b : Bm) (n : Nat) (d : D) (ρ : Env) : ownAt T 0 (some ⟨b, n + 1, d⟩ :: ρ) = if b.mut = true ∧ d.ty = T ∧ d.cont = true then some (b, n, d) else none := rfl
theorem ownAt_01 (T : String) (b : Bm) (d : D) (ρ : Env) : ownAt T 0 (some ⟨b, 1, d⟩ :: ρ) = if b.mut = true ∧ d.ty = T ∧ d.cont = true then some (b, 0, d) else none := rfl
theorem ownAt_02 (T : String) (b : Bm) (d : D) (ρ : Env) : ownAt T 0 (some ⟨b, 2, d⟩ :: ρ) = if b.mut = true ∧ d.ty = T ∧ d.cont = true then some (b, 1, d) else none := rfl
theorem ownAt_s (T : String) (i : Nat) (x : Option Cell) (ρ : Env) : ownAt T (i + 1) (x :: ρ) = ownAt T i ρ := by
  unfold ownAt
  rw [List.getElem?_cons_succ]
theorem mut_o : Bm.mut .o = true := rfl
theorem mut_m (j : Nat) : Bm.mut (.m j) = true := rfl
theorem cont_lst (xs : List D) : D.cont (.lst xs) = true := rfl
theorem cont_dK (xs : List (Key × D)) : D.cont (.dK xs) = true := rfl
theorem cont_dT (xs : List (List Key × D)) : D.cont (.dT xs) = true := rfl
theorem wipe_nil (ρ : Env) : wipeE ρ [] = ρ := rfl
theorem wipe_cons (ρ : Env) (i : Nat) (is : List Nat) : wipeE ρ (i :: is) = (wipeE ρ is).set i none := rfl

/-! ### expressions -/
section
variable (ρ : Env)
theorem x_C (d : D) : mC d ρ = .ok (sh d) := rfl
theorem x_nil : mNil ρ = .ok [] := rfl
theorem x_cons (a : ME) (r : MA) : mCons a r ρ = (a ρ).bind fun c => (r ρ).bind fun cs => .ok (c :: cs) := rfl
theorem x_op (o : MO) (a b : ME) : mOp o a b ρ = (a ρ).bind fun x => (b ρ).bind fun y => .opt (o x y) := rfl
theorem x_un (o : MU) (a : ME) : mUn o a ρ = (a ρ).bind fun x => .opt (o x) := id rfl
theorem x_CB (o : MC) (a : MA) : mCB o a ρ = (a ρ).bind fun x => .opt (o x) := rfl
theorem x_tst (e : ME) : mTst e ρ = (e ρ).bind asBl := rfl
theorem x_and (a b : MT) : mAnd a b ρ = (a ρ).bind fun x => if x = true then b ρ else .ok false := rfl
theorem x_or (a b : MT) : mOr a b ρ = (a ρ).bind fun x => if x = true then .ok true else b ρ := rfl
theorem x_not (a : MT) : mNot a ρ = (a ρ).bind fun x => .ok (!x) := rfl
theorem x_if (t : MT) (a b : ME) : mIf t a b ρ = (t ρ).bind fun x => if x = true then a ρ else b ρ := rfl
theorem x_andV (a b : ME) : mAndV a b ρ = (a ρ).bind fun c => (asBl c).bind fun x => if x = true then b ρ else .ok (sh (.bl false)) := rfl
theorem x_orV (a b : ME) : mOrV a b ρ = (a ρ).bind fun c => (asBl c).bind fun x => if x = true then .ok (sh (.bl true)) else b ρ := rfl
theorem x_notV (a : ME) : mNotV a ρ = (a ρ).bind fun c => (asBl c).bind fun x => .ok (sh (.bl (!x))) := rfl
theorem x_lst (n : Nat) (a : MA) : mLst n a ρ = (a ρ).bind fun cs => if fitsN n cs = true ∧ cs.length ≤ sizeLine then .ok (own (n + 1) (.lst (cs.map Cell.d))) else .bad := rfl
theorem x_tup (n : Nat) (a : MA) : mTup n a ρ = (a ρ).bind fun cs => if fitsN n cs = true ∧ cs.length ≤ sizeLine then .ok (tupC n cs) else .bad := rfl
theorem x_yes : mYes ρ = .ok true := rfl
theorem x_lc (n : Nat) (it : MI) (g : MG) (t : MT) (e : ME) (ow : List Nat) : mLc n it g t e ow ρ = (it ρ).bind fun p => if p.2.length < sizeLine then (lcL n ow g t e ρ p.2).bind fun ds => .ok (own (n + 1) (.lst ds)) else .bad := rfl
theorem x_sl (e : ME) (l h : MOp) : mSl e l h ρ = (e ρ).bind fun c => (l ρ).bind fun lo => (h ρ).bind fun hi => .opt (slM c lo hi) := rfl
theorem x_oNone : moNone ρ = .ok none := rfl
theorem x_oSome (e : ME) : moSome e ρ = (e ρ).bind fun c => match c.d with | .int i => .ok (some i) | _ => .bad := rfl
def callR (r : FR) : R Cell := match r with
  | .ok m d _ => .ok (own m d)
  | .ex x _ => .ex x
  | .bad => .bad
theorem callR_ok (m : Nat) (d : D) (ds : List D) : callR (.ok m d ds) = .ok (own m d) := rfl
theorem callR_ex (x : Exn) (ds : List D) : callR (.ex x ds) = .ex x := rfl
theorem x_call (n : Nat) (mf : MFn) (dds : List D) (a : MA) : mCall n mf dds a ρ = (a ρ).bind fun cs => if cs.length + dds.length = n then callR (mf (cs.map Cell.lend ++ dds.map sh)) else .bad := rfl
theorem x_iSeq (e : ME) : miSeq e ρ = (e ρ).bind fun c => match c.d.items with | some ds => .ok (c.frz.noL, ds.map c.frz.item) | none => .bad := id rfl
theorem x_iR1 (a : MA) : miRange1 a ρ = (a ρ).bind fun cs => match cs with | [x] => (match x.d with | .int j => if i62 j = true then .ok (true, rangeD 0 j.toNat) else .bad | _ => .bad) | _ => .bad := id rfl
theorem x_iR2 (a : MA) : miRange2 a ρ = (a ρ).bind fun cs => match cs with | [x, y] => (match x.d, y.d with | .int i, .int j => if i62 i = true ∧ i62 j = true then .ok (true, rangeD i (j - i).toNat) else .bad | _, _ => .bad) | _ => .bad := id rfl
theorem x_pure (m : ME) : fPure m ρ = match m ρ with | .ok c => if c.nl = true then .ok c ρ else .bad | .ex x => .ex x ρ | .bad => .bad := rfl
theorem x_faPure (m : MA) : faPure m ρ = match m ρ with | .ok cs => if cs.all Cell.nl = true then .ok cs ρ else .bad | .ex x => .ex x ρ | .bad => .bad := rfl
theorem x_faNil : faNil ρ = .ok [] ρ := rfl
theorem x_faCons (a : MF) (r : MFA) : faCons a r ρ = (a ρ).bind fun c ρ1 => if c.nl = true then (r ρ1).bind fun cs ρ2 => .ok (c :: cs) ρ2 else .bad := rfl
theorem x_fOp (o : MO) (a b : MF) : fOp o a b ρ = (a ρ).bind fun x ρ1 => if x.nl = true then (b ρ1).bind fun y ρ2 => match o x y with | some c => if c.nl = true then .ok c ρ2 else .bad | none => .bad else .bad := rfl
theorem x_fMut (T : String) (i : Nat) (a : MFA) (mo : MM) : fMut T i a mo ρ = match ownAt T i ρ with
  | some _ => (a ρ).bind fun cs ρ1 => match ownAt T i ρ1 with
    | some (b, n, d) => (match mo n d cs with
      | some (c, d') => .ok c (ρ1.set i (some ⟨b, n + 1, d'⟩))
      | none => .bad)
    | none => .bad
  | none => .bad := rfl
theorem x_frNil : frNil ρ = .ok [] ρ := rfl
theorem x_frC (a : MF) (r : MR) : frC a r ρ = (a ρ).bind fun c ρ1 => if c.nl = true then (r ρ1).bind fun as ρ2 => .ok (.c c :: as) ρ2 else .bad := rfl
theorem x_frT (a : MF) (r : MR) : frT a r ρ = (a ρ).bind fun c ρ1 => if c.nl = true then (r ρ1).bind fun as ρ2 => .ok (.t c :: as) ρ2 else .bad := rfl
theorem x_frIo (i : Nat) (r : MR) : frIo i r ρ = match ρ[i]? with | some (some _) => (r ρ).bind fun as ρ2 => .ok (.io i :: as) ρ2 | _ => .bad := rfl
/-! ### statements -/
theorem y_next : sNext ρ = .nx ρ := rfl
theorem y_seq (a b : MS) : sSeq a b ρ = (a ρ).then b := rfl
theorem y_break : sBreak ρ = .bk ρ := rfl
theorem y_cont : sCont ρ = .ct ρ := rfl
theorem y_retN : sRetN ρ = .rt (sh .non) ρ := rfl
theorem y_ret (e : ME) : sRet e ρ = ofR (e ρ) ρ fun c => ofO c.ret fun c' => .rt c' (c.left ρ) := rfl
theorem y_drop (e : ME) : sDrop e ρ = ofR (e ρ) ρ fun _ => .nx ρ := rfl
theorem y_if (t : MT) (a b : MS) : sIf t a b ρ = ofR (t ρ) ρ fun x => if x = true then a ρ else b ρ := rfl
theorem y_asg (e : ME) (g : MG) : sAsg e g ρ = ofR (e ρ) ρ fun c => if c.noL = true then ofO (g c ρ) fun ρ' => .nx ρ' else .bad := rfl
theorem y_for (dead : List Nat) (it : MI) (g : MG) (body : MS) : sFor dead it g body ρ = ofR (it ρ) ρ fun p => if p.1 = true then forL dead g body p.2 ρ else .bad := rfl
theorem y_asgF (e : MF) (g : MG) : sAsgF e g ρ = ofRF (e ρ) fun c ρ1 => ofO (g c ρ1) fun ρ' => .nx ρ' := rfl
theorem y_dropF (e : MF) : sDropF e ρ = ofRF (e ρ) fun _ ρ1 => .nx ρ1 := rfl
theorem y_retF (e : MF) : sRetF e ρ = ofRF (e ρ) fun c ρ1 => ofO c.ret fun c' => .rt c' ρ1 := rfl
theorem z_gNil : gmNil [] ρ = some ρ := rfl
theorem z_gCons (g : MG) (u : MGs) (c : Cell) (r : List Cell) : gmCons g u (c :: r) ρ = (g c ρ).bind (u r) := rfl
theorem z_gTup (n : Nat) (u : MGs) (c : Cell) : gmTup n u c ρ = match c.d with | .tup ds => if ds.length = n then u (ds.map c.item) ρ else none | _ => none := rfl
end
theorem ofR_ok {α : Type} (a : α) (ρ : Env) (k : α → SR) : ofR (.ok a) ρ k = k a := rfl
theorem ofR_ex {α : Type} (x : Exn) (ρ : Env) (k : α → SR) : ofR (.ex x) ρ k = .ex x ρ := rfl
theorem ofR_bad {α : Type} (ρ : Env) (k : α → SR) : ofR .bad ρ k = .bad := rfl
theorem ofO_some {α : Type} (a : α) (k : α → SR) : ofO (some a) k = k a := rfl
theorem ofO_none {α : Type} (k : α → SR) : ofO none k = .bad := rfl
theorem ofRF_ok {α : Type} (a : α) (ρ : Env) (k : α → Env → SR) : ofRF (.ok a ρ) k = k a ρ := rfl
theorem ofRF_ex {α : Type} (x : Exn) (ρ : Env) (k : α → Env → SR) : ofRF (.ex x ρ) k = .ex x ρ := rfl
theorem ofRF_bad {α : Type} (k : α → Env → SR) : ofRF .bad k = .bad := rfl
theorem then_nx (ρ : Env) (k : Env → SR) : (SR.nx ρ).then k = k ρ := rfl
theorem then_rt (c : Cell) (ρ : Env) (k : Env → SR) : (SR.rt c ρ).then k = .rt c ρ := rfl
theorem then_bk (ρ : Env) (k : Env → SR) : (SR.bk ρ).then k = .bk ρ := rfl
theorem then_ct (ρ : Env) (k : Env → SR) : (SR.ct ρ).then k = .ct ρ := rfl
theorem then_ex (x : Exn) (ρ : Env) (k : Env → SR) : (SR.ex x ρ).then k = .ex x ρ := rfl
theorem then_bad (k : Env → SR) : (SR.bad).then k = .bad := rfl
theorem then_ite {c : Prop} [Decidable c] (a b : SR) (k : Env → SR) : (if c then a else b).then k = if c then a.then k else b.then k := by by_cases h : c <;> simp [h]
theorem bind_ite {α β : Type} {c : Prop} [Decidable c] (a b : R α) (k : α → R β) : (if c then a else b).bind k = if c then a.bind k else b.bind k := by by_cases h : c <;> simp [h]
theorem ofR_ite {α : Type} {c : Prop} [Decidable c] (a b : R α) (ρ : Env) (k : α → SR) : ofR (if c then a else b) ρ k = if c then ofR a ρ k else ofR b ρ k := by by_cases h : c <;> simp [h]
theorem ofRF_ite {α : Type} {c : Prop} [Decidable c] (a b : RF α) (k : α → Env → SR) : ofRF (if c then a else b) k = if c then ofRF a k else ofRF b k := by by_cases h : c <;> simp [h]
theorem asBl_bl (b : Bm) (n : Nat) (x : Bool) : asBl ⟨b, n, .bl x⟩ = .ok x := rfl
theorem asBl_ln (n : Nat) (x : Bool) : asBl (ln n (.bl x)) = .ok x := by unfold asBl; rw [ln_d]
/-! ### loops -/
def SR.loop (r : SR) (dead : List Nat) (k : Env → SR) : SR := match r with
  | .nx ρ => k ρ | .ct ρ => k ρ | .bk ρ => .nx (wipeE ρ dead) | .rt c ρ => .rt c ρ | .ex x ρ => .ex x ρ | .bad => .bad
theorem forL_nil (dead : List Nat) (g : MG) (b : MS) (ρ : Env) : forL dead g b [] ρ = .nx (wipeE ρ dead) := rfl
theorem forL_cons (dead : List Nat) (g : MG) (b : MS) (x : Cell) (xs : List Cell) (ρ : Env) : forL dead g b (x :: xs) ρ = ofO (g x (wipeE ρ dead)) fun ρ2 => (b ρ2).loop dead (forL dead g b xs) := by
  rw [forL]
  cases g x (wipeE ρ dead) with
  | none => rfl
  | some ρ2 =>
    simp only [ofO]
    cases b ρ2 <;> rfl
theorem loop_nx (ρ : Env) (dead : List Nat) (k : Env → SR) : (SR.nx ρ).loop dead k = k ρ := rfl
theorem loop_ct (ρ : Env) (dead : List Nat) (k : Env → SR) : (SR.ct ρ).loop dead k = k ρ := rfl
theorem loop_bk (ρ : Env) (dead : List Nat) (k : Env → SR) : (SR.bk ρ).loop dead k = .nx (wipeE ρ dead) := rfl
theorem loop_rt (c : Cell) (ρ : Env) (dead : List Nat) (k : Env → SR) : (SR.rt c ρ).loop dead k = .rt c ρ := rfl
theorem loop_ex (x : Exn) (ρ : Env) (dead : List Nat) (k : Env → SR) : (SR.ex x ρ).loop dead k = .ex x ρ := rfl
theorem loop_bad (dead : List Nat) (k : Env → SR) : (SR.bad).loop dead k = .bad := rfl
theorem loop_ite {c : Prop} [Decidable c] (a b : SR) (dead : List Nat) (k : Env → SR) : (if c then a else b).loop dead k = if c then a.loop dead k else b.loop dead k := by by_cases h : c <;> simp [h]
/-- a loop that always goes on: a fold over what changes; E: the slots ahead of a turn, the forgotten ones left out -/
theorem forL_fold {α σ : Type} {dead : List Nat} {g : MG} {b : MS} (E : σ → Env) (k : α → Cell) (step : σ → α → σ) (P : σ → List α → Prop) : ∀ (xs : List α) (s : σ) (ρ : Env), wipeE ρ dead = E s → P s xs →
    (∀ s x xs, P s (x :: xs) → P (step s x) xs ∧ ∀ K : Env → SR, ∃ ρ', (ofO (g (k x) (E s)) fun ρ2 => (b ρ2).loop dead K) = K ρ' ∧ wipeE ρ' dead = E (step s x)) → forL dead g b (xs.map k) ρ = .nx (E (xs.foldl step s))
  | [], s, ρ, e, _, _ => by rw [List.map_nil, forL_nil, e]; rfl
  | x :: xs, s, ρ, e, hp, h => by
    obtain ⟨h1, h2⟩ := h s x xs hp
    obtain ⟨ρ', h3, h4⟩ := h2 (forL dead g b (xs.map k))
    rw [List.map_cons, forL_cons, e, h3, List.foldl_cons]
    exact forL_fold E k step P xs (step s x) ρ' h4 h1 h
/-- a loop by its invariant over the slots ahead of a turn, the forgotten ones left out -/
theorem forL_inv {α : Type} {dead : List Nat} {g : MG} {b : MS} (k : α → Cell) (R : SR → Prop) {xs : List α} (I : List α → Env → Prop)
    (turn : ∀ pre x post ρ, xs = pre ++ x :: post → I pre ρ → ∀ K : Env → SR, (∀ ρ', I (pre ++ [x]) (wipeE ρ' dead) → R (K ρ')) → R (ofO (g (k x) ρ) fun ρ2 => (b ρ2).loop dead K))
    (fin : ∀ ρ, I xs ρ → R (.nx ρ)) {ρ : Env} (start : I [] (wipeE ρ dead)) : R (forL dead g b (xs.map k) ρ) := by
  have : ∀ post pre ρ, xs = pre ++ post → I pre (wipeE ρ dead) → R (forL dead g b (post.map k) ρ) := by
    intro post
    induction post with
    | nil =>
      intro pre ρ e i
      rw [List.append_nil] at e
      subst e
      exact fin _ i
    | cons x post ih =>
      intro pre ρ e i
      rw [List.map_cons, forL_cons]
      exact turn pre x post _ e i _ fun ρ' i' => ih (pre ++ [x]) ρ' (by rw [e]; simp) i'
  exact this xs [] ρ rfl start
/-! ### comprehensions -/
def lcE (n : Nat) (r : R Cell) (rest : R (List D)) : R (List D) := match r with
  | .ok c => if c.fits n = true then rest.bind fun ds => .ok (c.d :: ds) else .bad
  | _ => .bad
def lcT (n : Nat) (t : R Bool) (r : R Cell) (rest : R (List D)) : R (List D) := match t with
  | .ok b => if b = true then lcE n r rest else rest
  | _ => .bad
def lcO (n : Nat) (o : Option Env) (t : MT) (e : ME) (rest : R (List D)) : R (List D) := match o with
  | some ρ => lcT n (t ρ) (e ρ) rest
  | none => .bad
theorem lc_nil (n : Nat) (ow : List Nat) (g : MG) (t : MT) (e : ME) (ρ : Env) : lcL n ow g t e ρ [] = .ok [] := rfl
theorem lc_cons (n : Nat) (ow : List Nat) (g : MG) (t : MT) (e : ME) (ρ : Env) (x : Cell) (xs : List Cell) : lcL n ow g t e ρ (x :: xs) = lcO n (g x (wipeE ρ ow)) t e (lcL n ow g t e ρ xs) := by
  rw [lcL]
  cases g x (wipeE ρ ow) with
  | none => rfl
  | some ρ' =>
    simp only [lcO]
    cases t ρ' with
    | ok b => cases b <;> (simp only [lcT]; first | (cases e ρ' <;> rfl) | rfl)
    | ex x => rfl
    | bad => rfl
theorem lcO_some (n : Nat) (ρ : Env) (t : MT) (e : ME) (rest : R (List D)) : lcO n (some ρ) t e rest = lcT n (t ρ) (e ρ) rest := rfl
theorem lcT_ok (n : Nat) (b : Bool) (r : R Cell) (rest : R (List D)) : lcT n (.ok b) r rest = if b = true then lcE n r rest else rest := rfl
theorem lcE_ok (n : Nat) (c : Cell) (rest : R (List D)) : lcE n (.ok c) rest = if c.fits n = true then rest.bind fun ds => .ok (c.d :: ds) else .bad := rfl
/-- the usual comprehension -/
theorem lc_map {α : Type} {n : Nat} {ow : List Nat} {g : MG} {t : MT} {e : ME} {ρ : Env} {k : α → Cell} (p : α → Bool) (f : α → D) (xs : List α)
    (h : ∀ x ∈ xs, ∀ rest, lcO n (g (k x) (wipeE ρ ow)) t e rest = if p x = true then rest.bind fun ds => .ok (f x :: ds) else rest) : lcL n ow g t e ρ (xs.map k) = .ok ((xs.filter p).map f) := by
  induction xs with
  | nil => rfl
  | cons x xs ih =>
    rw [List.map_cons, lc_cons, h x List.mem_cons_self, ih fun y hy => h y (List.mem_cons_of_mem _ hy)]
    by_cases hp : p x = true
    · rw [if_pos hp, List.filter_cons, if_pos hp]; rfl
    · rw [if_neg hp, List.filter_cons, if_neg hp]
theorem lc_all {α : Type} {n : Nat} {ow : List Nat} {g : MG} {t : MT} {e : ME} {ρ : Env} {k : α → Cell} (f : α → D) (xs : List α)
    (h : ∀ x ∈ xs, ∀ rest, lcO n (g (k x) (wipeE ρ ow)) t e rest = rest.bind fun ds => .ok (f x :: ds)) : lcL n ow g t e ρ (xs.map k) = .ok (xs.map f) := by
  induction xs with
  | nil => rfl
  | cons x xs ih =>
    rw [List.map_cons, lc_cons, h x List.mem_cons_self, ih fun y hy => h y (List.mem_cons_of_mem _ hy)]
    rfl
theorem items_mk (b : Bm) (n : Nat) (d : D) (ds : List D) (h : n ≤ 1) : ds.map (Cell.item ⟨b, n, d⟩) = ds.map sh := List.map_congr_left fun x _ => item_mk b n d x h
theorem items_ln (n : Nat) (d : D) (ds : List D) (h : n ≤ 1) : ds.map (Cell.item (ln n d)) = ds.map sh := List.map_congr_left fun x _ => item_ln n d x h
theorem snoc_map {α : Type} (f : α → D) (xs : List α) (x : α) : xs.map f ++ [f x] = (xs ++ [x]).map f := by rw [List.map_append]; rfl
theorem app_map {α : Type} (f : α → D) (xs ys : List α) : xs.map f ++ ys.map f = (xs ++ ys).map f := (List.map_append ..).symm
theorem snoc_int (xs : List Int) (x : Int) : xs.map D.int ++ [D.int x] = (xs ++ [x]).map D.int := snoc_map D.int xs x
/-- slices of lists -/
def cutL {α : Type} (xs : List α) (lo hi : Option Int) : List α := (xs.drop (HT.sIx xs.length 0 lo)).take (HT.sIx xs.length xs.length hi - HT.sIx xs.length 0 lo)
theorem cut_map {α : Type} (f : α → D) (xs : List α) (lo hi : Option Int) : cutD (xs.map f) lo hi = (cutL xs lo hi).map f := by
  unfold cutD cutL
  rw [List.length_map, ← List.map_drop, ← List.map_take]
theorem cut_len {α : Type} (xs : List α) (lo hi : Option Int) : (cutL xs lo hi).length ≤ xs.length := by
  unfold cutL
  rw [List.length_take, List.length_drop]; omega
theorem cut_mem {α : Type} {xs : List α} {lo hi : Option Int} {x : α} (h : x ∈ cutL xs lo hi) : x ∈ xs := List.mem_of_mem_drop (List.mem_of_mem_take h)
/-! ### defs -/
def fin (cs : List Cell) (r : SR) : FR := match r with
  | .nx ρ => (match ioOut ρ (iosF 0 cs) with | some ds => .ok 0 .non ds | none => .bad)
  | .rt ⟨.o, n, d⟩ ρ => (match ioOut ρ (iosF 0 cs) with | some ds => .ok n d ds | none => .bad)
  | .ex x ρ => (match ioOut ρ (iosF 0 cs) with | some ds => .ex x ds | none => .bad)
  | _ => .bad
theorem mfOf_at (b : MS) (m : Nat) (cs : List Cell) : mfOf b m cs = fin cs (b (cs.map some ++ List.replicate (m - cs.length) none)) := rfl
theorem fin_rt (cs : List Cell) (n : Nat) (d : D) (ρ : Env) : fin cs (.rt ⟨.o, n, d⟩ ρ) = match ioOut ρ (iosF 0 cs) with | some ds => .ok n d ds | none => .bad := rfl
theorem fin_nx (cs : List Cell) (ρ : Env) : fin cs (.nx ρ) = match ioOut ρ (iosF 0 cs) with | some ds => .ok 0 .non ds | none => .bad := rfl
theorem fin_ex (cs : List Cell) (x : Exn) (ρ : Env) : fin cs (.ex x ρ) = match ioOut ρ (iosF 0 cs) with | some ds => .ex x ds | none => .bad := rfl
theorem fin_ite {c : Prop} [Decidable c] (cs : List Cell) (a b : SR) : fin cs (if c then a else b) = if c then fin cs a else fin cs b := by by_cases h : c <;> simp [h]
theorem ios_nil (k : Nat) : iosF k [] = [] := rfl
theorem ios_ln (k n : Nat) (d : D) (cs : List Cell) : iosF k (ln n d :: cs) = iosF (k + 1) cs := by cases n <;> rfl
theorem ios_o (k n : Nat) (d : D) (cs : List Cell) : iosF k (⟨.o, n, d⟩ :: cs) = iosF (k + 1) cs := rfl
theorem ios_m (k j n : Nat) (d : D) (cs : List Cell) : iosF k (⟨.m j, n, d⟩ :: cs) = if j = k then (k, n) :: iosF (k + 1) cs else iosF (k + 1) cs := rfl
theorem out_nil (ρ : Env) : ioOut ρ [] = some [] := rfl
theorem out_cons (ρ : Env) (j n : Nat) (r : List (Nat × Nat)) : ioOut ρ ((j, n) :: r) = match ρ[j]? with | some (some ⟨.m j', n', d⟩) => if j' = j ∧ n' = n then (ioOut ρ r).map (d :: ·) else none | _ => none := rfl
/-! ### side questions -/
theorem len_ok {n : Nat} (h : n ≤ 16777216) : (n ≤ sizeLine) = True := eq_true (by rw [sizeLine_eq]; exact h)
theorem len_ok' {n : Nat} (h : n < 16777216) : (n < sizeLine) = True := eq_true (by rw [sizeLine_eq]; exact h)
theorem at_some {α : Type} {xs : List α} {i : Nat} (h : i < xs.length) : xs[i]? = some (xs[i]'h) := List.getElem?_eq_getElem h
theorem omap_none {α β : Type} (f : α → β) : Option.map f none = none := rfl
theorem asBl_ite {c : Prop} [Decidable c] (a b : Cell) : asBl (if c then a else b) = if c then asBl a else asBl b := by by_cases h : c <;> simp [h]
theorem mul_l (i j : Int) (h : -(2 ^ 64) < i) (h2 : i < 2 ^ 64) : (CMul i j ∨ CMulW i j) = True := eq_true (.inl (.inl ⟨h, h2⟩))
theorem mul_r (i j : Int) (h : -(2 ^ 64) < j) (h2 : j < 2 ^ 64) : (CMul i j ∨ CMulW i j) = True := eq_true (.inl (.inr ⟨h, h2⟩))
theorem div_1 (i j : Int) (h : 0 < j) (h2 : j < 1073741824) : CDiv i j = True := eq_true ⟨h, h2⟩
theorem div_2 (i j : Int) (h : 0 < j) (h2 : j < 1073741824) : (CDiv i j ∨ CDivW i j) = True := eq_true (.inl ⟨h, h2⟩)
theorem i62_ok (i : Int) (h : -(2 ^ 62) ≤ i) (h2 : i < 2 ^ 62) : i62 i = true := by unfold i62; rw [(dB_iff _).mpr h, (dB_iff _).mpr h2]; rfl
theorem ixN_at {n : Nat} {z : Int} (h : 0 ≤ z) (h2 : z < n) : ixN n z = some z.toNat := by unfold ixN; rw [if_pos h, if_pos h2]
theorem ixN_neg {n : Nat} {z : Int} (h : z < 0) (h2 : -(n : Int) ≤ z) : ixN n z = some (z + n).toNat := by unfold ixN; rw [if_neg (by omega), if_pos h2]
theorem ifT {α : Type} (a b : α) : (if true = true then a else b) = a := if_pos rfl
theorem ifF {α : Type} (a b : α) : (if false = true then a else b) = b := if_neg Bool.false_ne_true
theorem pl_0 (n : Nat) : D.pl n .non = true := by cases n <;> rfl
theorem pl_int (n : Nat) (i : Int) : D.pl n (.int i) = true := by cases n <;> rfl
theorem pl_bl (n : Nat) (i : Bool) : D.pl n (.bl i) = true := by cases n <;> rfl
theorem pl_str (n : Nat) (i : Str) : D.pl n (.str i) = true := by cases n <;> rfl
theorem eqv_int (i j : Int) : D.eqv (.int i) (.int j) = decide (i = j) := by
  by_cases h : i = j
  · subst h; simp [D.eqv, D.py, PyData.eqv]
  · simp [D.eqv, D.py, PyData.eqv, h]
theorem eqv_str (i j : Str) : D.eqv (.str i) (.str j) = decide (i = j) := by
  by_cases h : i = j
  · subst h; simp [D.eqv, D.py, PyData.eqv]
  · simp [D.eqv, D.py, PyData.eqv, h]
theorem xor_f (b : Bool) : (false ^^ b) = b := by cases b <;> rfl
theorem xor_t (b : Bool) : (true ^^ b) = !b := by cases b <;> rfl
theorem ty_int (i : Int) : D.ty (.int i) = "int" := rfl
theorem ownC_0 (b : Bm) (n : Nat) (d : D) (ρ : Env) : ownC 0 (some ⟨b, n + 1, d⟩ :: ρ) = if b.mut = true ∧ d.cont = true then some (b, n, d) else none := rfl
theorem ownC_01 (b : Bm) (d : D) (ρ : Env) : ownC 0 (some ⟨b, 1, d⟩ :: ρ) = if b.mut = true ∧ d.cont = true then some (b, 0, d) else none := rfl
theorem ownC_02 (b : Bm) (d : D) (ρ : Env) : ownC 0 (some ⟨b, 2, d⟩ :: ρ) = if b.mut = true ∧ d.cont = true then some (b, 1, d) else none := rfl
theorem ownC_s (i : Nat) (x : Option Cell) (ρ : Env) : ownC (i + 1) (x :: ρ) = ownC i ρ := by
  unfold ownC
  rw [List.getElem?_cons_succ]
theorem x_dK (ρ : Env) : mDictK ρ = .ok (own 1 (.dK [])) := rfl
theorem x_dT (ρ : Env) : mDictT ρ = .ok (own 1 (.dT [])) := rfl
theorem x_chain (ρ : Env) (o o' : MO) (a b c : ME) : mChain o o' a b c ρ = (a ρ).bind fun x => (b ρ).bind fun y => if y.d.scal = true then (R.opt (o x y)).bind fun z => (asBl z).bind fun k => if k = true then (c ρ).bind fun w => .opt (o' y w) else .ok (sh (.bl false)) else .bad := rfl
theorem z_gSetU (i : Nat) (k : ME) (c : Cell) (ρ : Env) : gmSetU i k c ρ = match ownC i ρ with
  | some (b, n, d) => (match k ρ with
    | .ok ck => (match setU n d ck c with
      | some d' => some (ρ.set i (some ⟨b, n + 1, d'⟩))
      | none => none)
    | _ => none)
  | none => none := rfl
theorem y_augL (i : Nat) (k v : ME) (ρ : Env) : sAugL i k v ρ = match ownAt "list" i ρ with
  | some (b, n, .lst ds) => ofR (k ρ) ρ fun ck => ofO (augAt ds ck) fun p => ofR (v ρ) ρ fun cv => (match cv.d with
    | .int y => .nx (ρ.set i (some ⟨b, n + 1, .lst (ds.set p.1 (.int (p.2 + y)))⟩))
    | _ => .bad)
  | _ => .bad := rfl
theorem y_path (T : String) (r : MRc) (a : MA) (mo : MM) (ρ : Env) : sPath T r a mo ρ = ofR (r ρ) ρ fun p => match p with
  | (n + 1, e, rb) => if e.ty = T ∧ e.cont = true then ofR (a ρ) ρ fun cs => ofO (mo n e cs) fun q => .nx (rb q.2) else .bad
  | _ => .bad := rfl
theorem r_var (i : Nat) (ρ : Env) : rcVar i ρ = match ownC i ρ with
  | some (b, n, d) => .ok (n + 1, d, fun d' => ρ.set i (some ⟨b, n + 1, d'⟩))
  | none => .bad := rfl
theorem r_ix (r : MRc) (k : ME) (ρ : Env) : rcIx r k ρ = (r ρ).bind fun p => match p with
  | (n + 2, .lst ds, rb) => (k ρ).bind fun ck => (match rcAt ds ck with
    | some (j, d) => .ok (n + 1, d, fun d' => rb (.lst (ds.set j d')))
    | none => .bad)
  | _ => .bad := rfl
theorem y_while (dead : List Nat) (t : MT) (b : MS) (ρ : Env) : sWhile dead t b ρ = sWhile dead t b ρ := rfl
theorem take_nil (k : Nat) (ρ : Env) : takeArgs k [] ρ = some ([], ρ) := rfl
theorem take_c (k : Nat) (c : Cell) (as : List Arg) (ρ : Env) : takeArgs k (.c c :: as) ρ = (takeArgs (k + 1) as ρ).map fun p => (c.lend :: p.1, p.2) := by rw [takeArgs]
theorem take_t (k : Nat) (b : Bm) (n : Nat) (d : D) (as : List Arg) (ρ : Env) : takeArgs k (.t ⟨b, n, d⟩ :: as) ρ = if b.mut = true then (takeArgs (k + 1) as ρ).map fun p => (⟨.m k, n, d⟩ :: p.1, p.2) else none := by rw [takeArgs]
theorem take_io (k i : Nat) (as : List Arg) (ρ : Env) : takeArgs k (.io i :: as) ρ = match ρ[i]? with
    | some (some ⟨b, n, d⟩) => if b.mut = true then (takeArgs (k + 1) as (ρ.set i none)).map fun p => (⟨.m k, n, d⟩ :: p.1, p.2) else none
    | _ => none := by
  rw [takeArgs] <;> (rcases ρ[i]? with _ | _ | ⟨b, n, d⟩ <;> rfl)
theorem put_nil (ρ0 : Env) (ds : List D) (ρ : Env) : putArgs [] ρ0 ds ρ = some ρ := by rw [putArgs]
theorem put_c (c : Cell) (as : List Arg) (ρ0 : Env) (ds : List D) (ρ : Env) : putArgs (.c c :: as) ρ0 ds ρ = putArgs as ρ0 ds ρ := by rw [putArgs]
theorem put_t (c : Cell) (as : List Arg) (ρ0 : Env) (d : D) (ds : List D) (ρ : Env) : putArgs (.t c :: as) ρ0 (d :: ds) ρ = putArgs as ρ0 ds ρ := by rw [putArgs]
theorem put_io (i : Nat) (as : List Arg) (ρ0 : Env) (d : D) (ds : List D) (ρ : Env) : putArgs (.io i :: as) ρ0 (d :: ds) ρ = match ρ0[i]? with
    | some (some c) => (putArgs as ρ0 ds ρ).map fun ρ' => ρ'.set i (some ⟨c.b, c.n, d⟩)
    | _ => none := by
  cases h : ρ0[i]? with
  | none => rw [putArgs.eq_def] <;> simp only [h]
  | some o => cases o <;> (rw [putArgs.eq_def] <;> simp only [h])
def callF (r : FR) (as : List Arg) (ρ1 ρ2 : Env) : RF Cell := match r with
  | .ok m d ds => (match putArgs as ρ1 ds ρ2 with | some ρ3 => .ok (own m d) ρ3 | none => .bad)
  | .ex x ds => (match putArgs as ρ1 ds ρ2 with | some ρ3 => .ex x ρ3 | none => .bad)
  | .bad => .bad
theorem callF_ok (m : Nat) (d : D) (ds : List D) (as : List Arg) (ρ1 ρ2 : Env) : callF (.ok m d ds) as ρ1 ρ2 = match putArgs as ρ1 ds ρ2 with | some ρ3 => .ok (own m d) ρ3 | none => .bad := rfl
theorem callF_ex (x : Exn) (ds : List D) (as : List Arg) (ρ1 ρ2 : Env) : callF (.ex x ds) as ρ1 ρ2 = match putArgs as ρ1 ds ρ2 with | some ρ3 => .ex x ρ3 | none => .bad := rfl
theorem x_fCall (n : Nat) (mf : MFn) (dds : List D) (r : MR) (ρ : Env) : fCall n mf dds r ρ = (r ρ).bind fun as ρ1 => match takeArgs 0 as ρ1 with
  | some (cells, ρ2) => if cells.length + dds.length = n then callF (mf (cells ++ dds.map sh)) as ρ1 ρ2 else .bad
  | none => .bad := rfl
theorem rbind_ite {α β : Type} {c : Prop} [Decidable c] (a b : RF α) (k : α → Env → RF β) : (if c then a else b).bind k = if c then a.bind k else b.bind k := by by_cases h : c <;> simp [h]
end VL
set_option maxRecDepth 100000
/-! WT: encoders of plain data: ==, in, depth, order; ints in lists. -/
namespace VL
open PySem L2
variable [TB : Tbs]

section
variable {K : PySem.W.Frag}
theorem om_lt : OpM K (rI0 fun i j => .bl (decide (i < j))) ltM := by
  have h := om_B0 (K := K) (f := fun i j => dB (i < j))
  simp only [ltM, leM, gtM, geM, dB_eq] at h ⊢
  exact h
theorem om_le : OpM K (rI0 fun i j => .bl (decide (i ≤ j))) leM := by
  have h := om_B0 (K := K) (f := fun i j => dB (i ≤ j))
  simp only [ltM, leM, gtM, geM, dB_eq] at h ⊢
  exact h
theorem om_gt : OpM K (rI0 fun i j => .bl (decide (j < i))) gtM := by
  have h := om_B0 (K := K) (f := fun i j => dB (j < i))
  simp only [ltM, leM, gtM, geM, dB_eq] at h ⊢
  exact h
theorem om_ge : OpM K (rI0 fun i j => .bl (decide (j ≤ i))) geM := by
  have h := om_B0 (K := K) (f := fun i j => dB (j ≤ i))
  simp only [ltM, leM, gtM, geM, dB_eq] at h ⊢
  exact h
end
/-! ### side questions -/
theorem cpow_ok (i j : Int) (h : 0 ≤ j) (h2 : j ≤ 1000000) (h3 : -(2 ^ 64) < i) (h4 : i < 2 ^ 64) : CPow i j = True := eq_true ⟨h, h2, by omega⟩
theorem dc_t {h : Decidable True} : @decide True h = true := by cases h with | isTrue _ => rfl | isFalse q => exact absurd trivial q
theorem dc_f {h : Decidable False} : @decide False h = false := by cases h with | isTrue q => exact q.elim | isFalse _ => rfl
theorem range_len (lo : Int) (n : Nat) : (rangeD lo n).length = n := by simp [rangeD]
theorem le_T {i j : Int} (h : i ≤ j) : (i ≤ j) = True := eq_true h
theorem le_F {i j : Int} (h : j < i) : (i ≤ j) = False := eq_false (by omega)
theorem lt_T {i j : Int} (h : i < j) : (i < j) = True := eq_true h
theorem lt_F {i j : Int} (h : j ≤ i) : (i < j) = False := eq_false (by omega)
theorem eq_T {i j : Int} (h : i = j) : (i = j) = True := eq_true h
theorem eq_F {i j : Int} (h : i ≠ j) : (i = j) = False := eq_false h
/-! ### bits of naturals -/
theorem and_nat (a b : Nat) : Builtin.bitAnd (a : Int) (b : Int) = ((a &&& b : Nat) : Int) := rfl
theorem or_nat (a b : Nat) : Builtin.bitOr (a : Int) (b : Int) = ((a ||| b : Nat) : Int) := Bits.bitOr_pp (Int.natCast_nonneg a) (Int.natCast_nonneg b)
theorem xor_nat (a b : Nat) : Builtin.bitXor (a : Int) (b : Int) = ((a ^^^ b : Nat) : Int) := Bits.bitXor_pp (Int.natCast_nonneg a) (Int.natCast_nonneg b)
theorem and_one (n : Nat) : Builtin.bitAnd (n : Int) 1 = ((n % 2 : Nat) : Int) := by
  have := and_nat n 1
  rw [Nat.and_one_is_mod] at this
  exact this
/-! ### encoders -/
/-- equal as Python has it just where equal -/
class Enc {α : Type} [DecidableEq α] (f : α → D) : Prop where
  eq : ∀ a b, (f a).eqv (f b) = decide (a = b)
/-- at most k deep -/
class Pld {α : Type} (f : α → D) (k : outParam Nat) : Prop where
  pl : ∀ a n, k ≤ n → D.pl n (f a) = true
instance : Enc D.int := ⟨eqv_int⟩
instance : Enc D.str := ⟨eqv_str⟩
instance : Pld D.int 0 := ⟨fun a n _ => pl_int n a⟩
instance : Pld D.str 0 := ⟨fun a n _ => pl_str n a⟩
theorem eqvAll_map {α : Type} [DecidableEq α] {f : α → D} [Enc f] : ∀ xs ys : List α, PyData.eqvAll (pyA (xs.map f)) (pyA (ys.map f)) = decide (xs = ys)
  | [], [] => rfl
  | [], y :: ys => rfl
  | x :: xs, [] => rfl
  | x :: xs, y :: ys => by
    rw [List.map_cons, List.map_cons, pyA, pyA, PyData.eqvAll, eqvAll_map xs ys]
    have : PyData.eqv (f x).py (f y).py = decide (x = y) := Enc.eq x y
    rw [this]
    by_cases h : x = y <;> by_cases h2 : xs = ys <;> simp [h, h2]
theorem eqv_lst {α : Type} [DecidableEq α] {f : α → D} [Enc f] (xs ys : List α) : D.eqv (.lst (xs.map f)) (.lst (ys.map f)) = decide (xs = ys) := by
  unfold D.eqv
  rw [D.py, D.py, PyData.eqv]
  exact eqvAll_map xs ys
theorem eqv_tup {α : Type} [DecidableEq α] {f : α → D} [Enc f] (xs ys : List α) : D.eqv (.tup (xs.map f)) (.tup (ys.map f)) = decide (xs = ys) := by
  unfold D.eqv
  rw [D.py, D.py, PyData.eqv]
  exact eqvAll_map xs ys
theorem eqv_lst_nil {α : Type} [DecidableEq α] {f : α → D} [Enc f] (xs : List α) : D.eqv (.lst (xs.map f)) (.lst []) = decide (xs = []) := eqv_lst xs []
theorem eqv_tup2 (a b c d : D) : D.eqv (.tup [a, b]) (.tup [c, d]) = (a.eqv c && b.eqv d) := by
  unfold D.eqv
  simp [D.py, pyA, PyData.eqv, PyData.eqvAll]
theorem eqv_tup3 (a b c a' b' c' : D) : D.eqv (.tup [a, b, c]) (.tup [a', b', c']) = (a.eqv a' && (b.eqv b' && c.eqv c')) := by
  unfold D.eqv
  simp [D.py, pyA, PyData.eqv, PyData.eqvAll]
theorem eqv_tup4 (a b c d a' b' c' d' : D) : D.eqv (.tup [a, b, c, d]) (.tup [a', b', c', d']) = (a.eqv a' && (b.eqv b' && (c.eqv c' && d.eqv d'))) := by
  unfold D.eqv
  simp [D.py, pyA, PyData.eqv, PyData.eqvAll]
theorem eqv_bl (a b : Bool) : D.eqv (.bl a) (.bl b) = decide (a = b) := by cases a <;> cases b <;> rfl
theorem eqv_blln (a : Bool) (n : Nat) (b : Bool) : D.eqv (.bl a) (ln n (.bl b)).d = decide (a = b) := by rw [ln_d, eqv_bl]
theorem eqv_non : D.eqv .non .non = true := rfl
theorem pl_lst {α : Type} {f : α → D} {k n : Nat} [Pld f k] (xs : List α) (h : k ≤ n) : D.pl (n + 1) (.lst (xs.map f)) = true := by
  rw [D.pl, List.all_eq_true]
  intro d hd
  obtain ⟨x, _, rfl⟩ := List.mem_map.mp hd
  exact Pld.pl x n h
theorem pl_tup {α : Type} {f : α → D} {k n : Nat} [Pld f k] (xs : List α) (h : k ≤ n) : D.pl (n + 1) (.tup (xs.map f)) = true := by
  rw [D.pl, List.all_eq_true]
  intro d hd
  obtain ⟨x, _, rfl⟩ := List.mem_map.mp hd
  exact Pld.pl x n h
theorem pl60_lst {α : Type} {f : α → D} {k : Nat} [Pld f k] (xs : List α) (h : k ≤ 59 := by decide) : D.pl 60 (.lst (xs.map f)) = true := pl_lst xs h
theorem pl60_tup {α : Type} {f : α → D} {k : Nat} [Pld f k] (xs : List α) (h : k ≤ 59 := by decide) : D.pl 60 (.tup (xs.map f)) = true := pl_tup xs h
theorem pl_tcons (n : Nat) (x : D) (xs : List D) : D.pl (n + 1) (.tup (x :: xs)) = (D.pl n x && D.pl (n + 1) (.tup xs)) := by rw [D.pl, D.pl, List.all_cons]
theorem pl_lcons (n : Nat) (x : D) (xs : List D) : D.pl (n + 1) (.lst (x :: xs)) = (D.pl n x && D.pl (n + 1) (.lst xs)) := by rw [D.pl, D.pl, List.all_cons]
theorem pl_tnil (n : Nat) : D.pl (n + 1) (.tup []) = true := rfl
theorem pl_lnil (n : Nat) : D.pl (n + 1) (.lst []) = true := rfl
instance {α : Type} [DecidableEq α] {f : α → D} [Enc f] : Enc (fun xs : List α => D.lst (xs.map f)) := ⟨eqv_lst⟩
instance {α : Type} {f : α → D} {k : Nat} [Pld f k] : Pld (fun xs : List α => D.lst (xs.map f)) (k + 1) := ⟨fun xs n h => match n, h with | n + 1, h => pl_lst xs (by omega)⟩
theorem mem_map {α : Type} [DecidableEq α] {f : α → D} [Enc f] (a : α) (xs : List α) : D.mem (f a) (xs.map f) = decide (a ∈ xs) := by
  unfold D.mem
  induction xs with
  | nil => rfl
  | cons x xs ih =>
    rw [List.map_cons, List.any_cons, ih, Enc.eq]
    by_cases h : x = a
    · simp [h]
    · by_cases h2 : a ∈ xs
      · simp [h2]
      · have : ¬ a = x := fun e => h e.symm
        simp [h, h2, this]
theorem mem_ints (i : Int) (xs : List Int) : D.mem (.int i) (xs.map D.int) = decide (i ∈ xs) := mem_map (f := D.int) i xs
theorem eqv_lints (xs ys : List Int) : D.eqv (.lst (xs.map D.int)) (.lst (ys.map D.int)) = decide (xs = ys) := eqv_lst xs ys
theorem eqv_tints (xs ys : List Int) : D.eqv (.tup (xs.map D.int)) (.tup (ys.map D.int)) = decide (xs = ys) := eqv_tup xs ys
theorem eqv_lints0 (xs : List Int) : D.eqv (.lst (xs.map D.int)) (.lst []) = decide (xs = []) := eqv_lst xs []
theorem pl_lints (xs : List Int) : D.pl 60 (.lst (xs.map D.int)) = true := pl60_lst xs
theorem pl_tints (xs : List Int) : D.pl 60 (.tup (xs.map D.int)) = true := pl60_tup xs
theorem intA_f {α : Type} (f : α → Int) (xs : List α) : D.intA (xs.map fun x => D.int (f x)) = some (xs.map f) := by
  have := intA_map (xs.map f)
  rw [List.map_map] at this
  exact this
theorem eqv_lf {α β : Type} (f : α → Int) (g : β → Int) (xs : List α) (ys : List β) : D.eqv (.lst (xs.map fun x => D.int (f x))) (.lst (ys.map fun y => D.int (g y))) = decide (xs.map f = ys.map g) := by
  have := eqv_lints (xs.map f) (ys.map g)
  rw [List.map_map, List.map_map] at this
  exact this
theorem eqv_lf1 {α : Type} (f : α → Int) (xs : List α) (ys : List Int) : D.eqv (.lst (xs.map fun x => D.int (f x))) (.lst (ys.map D.int)) = decide (xs.map f = ys) := by
  have := eqv_lf f id xs ys
  rw [List.map_id] at this
  exact this
theorem eqv_lf2 {α : Type} (f : α → Int) (xs : List α) (ys : List Int) : D.eqv (.lst (ys.map D.int)) (.lst (xs.map fun x => D.int (f x))) = decide (ys = xs.map f) := by
  have := eqv_lf id f ys xs
  rw [List.map_id] at this
  exact this
theorem pl_lf {α : Type} (f : α → Int) (xs : List α) : D.pl 60 (.lst (xs.map fun x => D.int (f x))) = true := by
  have := pl_lints (xs.map f)
  rw [List.map_map] at this
  exact this
theorem mem_lf {α : Type} (f : α → Int) (i : Int) (xs : List α) : D.mem (.int i) (xs.map fun x => D.int (f x)) = decide (i ∈ xs.map f) := by
  have := mem_ints i (xs.map f)
  rw [List.map_map] at this
  exact this
def isI : D → Bool
  | .int _ => true
  | _ => false
/-! ### order -/
/-- data of one kind, with its order -/
class Srt {α : Type} (f : α → D) (le : outParam (α → α → Bool)) : Prop where
  le : ∀ a b, leD (f a) (f b) = le a b
  alike : ∀ a b, PySem.W.alike (f a).py (f b).py = true
  kind : (∀ a, ∃ x r, (f a).py = .tuple (x :: r)) ∨ ∀ a, (f a).py ≠ .none ∧ ∀ xs, (f a).py ≠ .tuple xs
theorem srt_alike {α : Type} {f : α → D} {le : α → α → Bool} [Srt f le] (xs : List α) : PySem.W.AllAlike ((xs.map f).map D.py) := by
  intro d hd d' hd'
  rw [List.map_map] at hd hd'
  obtain ⟨a, _, rfl⟩ := List.mem_map.mp hd
  obtain ⟨b, _, rfl⟩ := List.mem_map.mp hd'
  exact Srt.alike a b
theorem srt_kind {α : Type} {f : α → D} {le : α → α → Bool} [h : Srt f le] (xs : List α) : PySem.W.Sortable ((xs.map f).map D.py) := by
  rcases h.kind with q | q
  · exact .inl fun d hd => by
      rw [List.map_map] at hd
      obtain ⟨a, _, rfl⟩ := List.mem_map.mp hd
      exact q a
  · exact .inr fun d hd => by
      rw [List.map_map] at hd
      obtain ⟨a, _, rfl⟩ := List.mem_map.mp hd
      exact q a
theorem srt_merge {α : Type} {f : α → D} {le : α → α → Bool} [Srt f le] (xs : List α) : (xs.map f).mergeSort leD = (xs.mergeSort le).map f :=
  (List.map_mergeSort (r := le) (s := leD) (f := f) (l := xs) fun a _ b _ => (Srt.le a b).symm).symm
theorem sorted_m {α : Type} {f : α → D} {le : α → α → Bool} {k : Nat} [Srt f le] [Pld f k] (c : Cell) (xs : List α) (hd : c.d.items = some (xs.map f)) (hf : c.flat = true) (hl : xs.length ≤ 16777216) (hk : k ≤ 60 := by decide) :
    sortedM [c] = some (own 1 (.lst ((xs.mergeSort le).map f))) := by
  unfold sortedM
  simp only [hd]
  rw [if_pos]
  · rw [srt_merge]
  · refine ⟨hf, ?_, srt_alike xs, srt_kind xs, ?_⟩
    · rw [List.all_eq_true]
      intro d hd
      obtain ⟨x, _, rfl⟩ := List.mem_map.mp hd
      exact Pld.pl x 60 hk
    · rw [List.length_map, sizeLine_eq]; exact hl
def leI (a b : Int) : Bool := decide (a ≤ b)
instance : Srt D.int leI where
  le a b := by
    unfold leD leI
    simp only [D.py, PySem.W.dataLt_int]
    by_cases h : a ≤ b
    · simp [h]
    · simp [h]; omega
  alike a b := rfl
  kind := .inr fun a => ⟨fun h => (by simp [D.py] at h), fun xs h => (by simp [D.py] at h)⟩
abbrev sortI (xs : List Int) : List Int := xs.mergeSort leI
theorem sortI_len (xs : List Int) : (sortI xs).length = xs.length := List.length_mergeSort xs
theorem sortI_perm (xs : List Int) : (sortI xs).Perm xs := List.mergeSort_perm xs leI
theorem sortI_mem {xs : List Int} {a : Int} : a ∈ sortI xs ↔ a ∈ xs := List.mem_mergeSort
theorem sortI_le (xs : List Int) : (sortI xs).Pairwise (· ≤ ·) := by
  have := List.pairwise_mergeSort (le := leI) (fun a b c h1 h2 => by unfold leI at *; simp only [decide_eq_true_eq] at *; omega) (fun a b => by unfold leI; simp; omega) xs
  exact this.imp fun h => by simpa [leI] using h
theorem pair_uniq : ∀ {xs ys : List Int}, xs.Perm ys → xs.Pairwise (· ≤ ·) → ys.Pairwise (· ≤ ·) → xs = ys := fun {xs ys} p h1 h2 => p.eq_of_pairwise (fun a b _ _ h3 h4 => Int.le_antisymm h3 h4) h1 h2
theorem sortI_id {xs : List Int} (h : xs.Pairwise (· ≤ ·)) : sortI xs = xs := pair_uniq (sortI_perm xs) (sortI_le xs) h
theorem sorted_i (b : Bm) (n : Nat) (xs : List Int) (hl : xs.length ≤ 16777216) (hn : n ≤ 1) : sortedM [⟨b, n, .lst (xs.map D.int)⟩] = some (own 1 (.lst ((sortI xs).map D.int))) := sorted_m _ xs rfl (flat_le _ _ _ hn) hl
theorem sorted_iln (n : Nat) (xs : List Int) (hl : xs.length ≤ 16777216) (hn : n ≤ 1) : sortedM [ln n (.lst (xs.map D.int))] = some (own 1 (.lst ((sortI xs).map D.int))) := sorted_m _ xs (by rw [ln_d]; rfl) (flat_ln _ _ hn) hl
theorem sorted_t (b : Bm) (n : Nat) (xs : List Int) (hl : xs.length ≤ 16777216) (hn : n ≤ 1) : sortedM [⟨b, n, .tup (xs.map D.int)⟩] = some (own 1 (.lst ((sortI xs).map D.int))) := sorted_m _ xs rfl (flat_le _ _ _ hn) hl
theorem sorted_tln (n : Nat) (xs : List Int) (hl : xs.length ≤ 16777216) (hn : n ≤ 1) : sortedM [ln n (.tup (xs.map D.int))] = some (own 1 (.lst ((sortI xs).map D.int))) := sorted_m _ xs (by rw [ln_d]; rfl) (flat_ln _ _ hn) hl
/-! ### loops that only look -/
/-- a loop that goes on where p holds, and hands back c where it does not -/
theorem forL_all {α : Type} {dead : List Nat} {g : MG} {b : MS} {k : α → Cell} (p : α → Bool) (E : Env) (c : Cell) {xs : List α}
    (h : ∀ x ∈ xs, ∀ K : Env → SR, ∃ ρ', wipeE ρ' dead = E ∧ (ofO (g (k x) E) fun ρ2 => (b ρ2).loop dead K) = if p x = true then K ρ' else .rt c ρ') {ρ : Env} (e : wipeE ρ dead = E) :
    (xs.all p = true ∧ forL dead g b (xs.map k) ρ = .nx E) ∨ (xs.all p = false ∧ ∃ ρ', wipeE ρ' dead = E ∧ forL dead g b (xs.map k) ρ = .rt c ρ') := by
  induction xs generalizing ρ with
  | nil => exact .inl ⟨rfl, by rw [List.map_nil, forL_nil, e]⟩
  | cons x xs ih =>
    obtain ⟨ρ', h1, h2⟩ := h x List.mem_cons_self (forL dead g b (xs.map k))
    rw [List.map_cons, forL_cons, e, h2, List.all_cons]
    by_cases hp : p x = true
    · rw [if_pos hp, hp, Bool.true_and]
      exact ih (fun y hy => h y (List.mem_cons_of_mem _ hy)) h1
    · rw [if_neg hp, (by simpa using hp : p x = false), Bool.false_and]
      exact .inr ⟨rfl, ρ', h1, rfl⟩
theorem forL_chk {α : Type} {dead : List Nat} {g : MG} {b : MS} {k : α → Cell} (p : α → Bool) (E : Env) (c : Cell) (R : SR → Prop) {xs : List α}
    (h : ∀ x ∈ xs, ∀ K : Env → SR, ∃ ρ', wipeE ρ' dead = E ∧ (ofO (g (k x) E) fun ρ2 => (b ρ2).loop dead K) = if p x = true then K ρ' else .rt c ρ')
    (h1 : xs.all p = true → R (.nx E)) (h2 : xs.all p = false → ∀ ρ', wipeE ρ' dead = E → R (.rt c ρ')) {ρ : Env} (e : wipeE ρ dead = E) : R (forL dead g b (xs.map k) ρ) := by
  rcases forL_all p E c h e with ⟨a, b⟩ | ⟨a, ρ', b, d⟩
  · rw [b]; exact h1 a
  · rw [d]; exact h2 a ρ' b
theorem fr_int {c : Prop} [Decidable c] (m : Nat) (a b : Int) (ds : List D) : (if c then FR.ok m (.int a) ds else FR.ok m (.int b) ds) = FR.ok m (.int (if c then a else b)) ds := by by_cases h : c <;> simp [h]
/-! ### while, turn by turn -/
theorem wh_step (dead : List Nat) (t : MT) (b : MS) (ρ : Env) : sWhile dead t b ρ = ofR (t (wipeE ρ dead)) (wipeE ρ dead) fun x => if x = true then (b (wipeE ρ dead)).loop dead (sWhile dead t b) else .nx (wipeE ρ dead) := by
  by_cases he : ∃ n, whN dead t b n ρ ≠ .bad
  · obtain ⟨n, hn⟩ := he
    cases n with
    | zero => exact absurd rfl hn
    | succ n =>
      rw [sWhile_of (n + 1) rfl hn]
      rw [whN] at hn ⊢
      cases ht : t (wipeE ρ dead) with
      | ex x => rfl
      | bad => rfl
      | ok x =>
        cases x with
        | false => rfl
        | true =>
          rw [ht] at hn
          simp only [ofR, if_true] at hn ⊢
          cases hb : b (wipeE ρ dead) with
          | nx ρ3 => rw [hb] at hn; exact (sWhile_of n rfl hn).symm
          | ct ρ3 => rw [hb] at hn; exact (sWhile_of n rfl hn).symm
          | _ => rfl
  · have e0 : sWhile dead t b ρ = .bad := by unfold sWhile; rw [dif_neg he]
    have h1 : whN dead t b 1 ρ = .bad := Classical.byContradiction fun h => he ⟨1, h⟩
    have hn : ∀ ρ3, (∀ k, whN dead t b (k + 1) ρ = whN dead t b k ρ3) → sWhile dead t b ρ3 = .bad := fun ρ3 h => by
      unfold sWhile
      rw [dif_neg]
      rintro ⟨k, hk⟩
      exact he ⟨k + 1, by rw [h]; exact hk⟩
    rw [e0]
    cases ht : t (wipeE ρ dead) with
    | ex x => rw [whN, ht] at h1; cases h1
    | bad => rfl
    | ok x =>
      cases x with
      | false => rw [whN, ht] at h1; cases h1
      | true =>
        simp only [ofR, if_true]
        cases hb : b (wipeE ρ dead) with
        | nx ρ3 => exact (hn ρ3 fun k => by rw [whN, ht]; simp only [hb]).symm
        | ct ρ3 => exact (hn ρ3 fun k => by rw [whN, ht]; simp only [hb]).symm
        | bk ρ3 => rw [whN, ht] at h1; simp only [hb] at h1; cases h1
        | rt c ρ3 => rw [whN, ht] at h1; simp only [hb] at h1; cases h1
        | ex x ρ3 => rw [whN, ht] at h1; simp only [hb] at h1; cases h1
        | bad => rfl
/-! ### wide division -/
theorem div_3 (i j : Int) (h : 0 < j) (h2 : j < 2 ^ 100) : (CDiv i j ∨ CDivW i j) = True := eq_true (.inr ⟨h, by
  have h3 : j.natAbs < 2 ^ 100 := by omega
  have h4 : j.natAbs ≠ 0 := by omega
  have := (Nat.log2_lt h4).mpr h3
  omega⟩)
/-! ### keys of ints and texts, tuples of them; dicts of truths by such keys -/
def keyD : Key → D
  | .inl i => .int i
  | .inr s => .str s
def kD (k : List Key) : D := .tup (k.map keyD)
instance : Enc keyD := ⟨fun a b => by
  cases a <;> cases b
  · simp only [keyD, eqv_int, Sum.inl.injEq]
  · simp [keyD, D.eqv, D.py, PyData.eqv]
  · simp [keyD, D.eqv, D.py, PyData.eqv]
  · simp only [keyD, eqv_str, Sum.inr.injEq]⟩
instance : Enc kD := ⟨fun a b => eqv_tup a b⟩
instance : Pld keyD 0 := ⟨fun a n _ => by cases a <;> simp [keyD, pl_int, pl_str]⟩
instance : Pld kD 1 := ⟨fun a n h => match n, h with | n + 1, _ => pl_tup a (Nat.zero_le n)⟩
instance memKey (k : List Key) (T : List (List Key)) : Decidable (k ∈ T) := @List.instDecidableMemOfLawfulBEq _ instBEqOfDecidableEq inferInstance k T
theorem keys_kd : ∀ k : List Key, D.keys (k.map keyD) = some k
  | [] => rfl
  | .inl i :: k => by rw [List.map_cons, D.keys, keys_kd k]; rfl
  | .inr s :: k => by rw [List.map_cons, D.keys, keys_kd k]; rfl
theorem kD_at (k : List Key) : kD k = .tup (k.map keyD) := rfl
theorem mem_kd (k : List Key) (T : List (List Key)) : D.mem (.tup (k.map keyD)) (T.map kD) = decide (k ∈ T) := mem_map (f := kD) k T
theorem mem_k2 (s : Str) (i : Int) (T : List (List Key)) : D.mem (.tup [.str s, .int i]) (T.map kD) = decide ([.inr s, .inl i] ∈ T) := mem_map (f := kD) [.inr s, .inl i] T
theorem mem_k3 (s : Str) (i j : Int) (T : List (List Key)) : D.mem (.tup [.str s, .int i, .int j]) (T.map kD) = decide ([.inr s, .inl i, .inl j] ∈ T) := mem_map (f := kD) [.inr s, .inl i, .inl j] T
abbrev k2 (s : Str) (i : Int) : List Key := [.inr s, .inl i]
abbrev k3 (s : Str) (i j : Int) : List Key := [.inr s, .inl i, .inl j]
theorem snoc_k2 (s : Str) (i : Int) (T : List (List Key)) : T.map kD ++ [.tup [.str s, .int i]] = (T ++ [k2 s i]).map kD := snoc_map kD T (k2 s i)
theorem snoc_k3 (s : Str) (i j : Int) (T : List (List Key)) : T.map kD ++ [.tup [.str s, .int i, .int j]] = (T ++ [k3 s i j]).map kD := snoc_map kD T (k3 s i j)
theorem pl_kd (T : List (List Key)) : D.pl 60 (.lst (T.map kD)) = true := pl60_lst T
theorem pl_kt (k : List Key) : D.pl 60 (.tup (k.map keyD)) = true := pl60_tup k
theorem pl_t2 (a b : D) : D.pl 60 (.tup [a, b]) = (D.pl 59 a && D.pl 59 b) := by simp [D.pl]
theorem pl_t3 (a b c : D) : D.pl 60 (.tup [a, b, c]) = (D.pl 59 a && (D.pl 59 b && D.pl 59 c)) := by simp [D.pl]
theorem pl_t4 (a b c d : D) : D.pl 60 (.tup [a, b, c, d]) = (D.pl 59 a && (D.pl 59 b && (D.pl 59 c && D.pl 59 d))) := by simp [D.pl]
theorem pl59_tints (xs : List Int) : D.pl 59 (.tup (xs.map D.int)) = true := pl_tup xs (Nat.zero_le 58)
theorem pl59_lints (xs : List Int) : D.pl 59 (.lst (xs.map D.int)) = true := pl_lst xs (Nat.zero_le 58)
/-- a dict of truths -/
def tkE (T : List (List Key)) : List (List Key × D) := T.map fun k => (k, .bl true)
theorem tkE_nil : tkE [] = [] := rfl
theorem tkE_len (T : List (List Key)) : (tkE T).length = T.length := by simp [tkE]
theorem look_tk (T : List (List Key)) (k : List Key) : dLook (tkE T) k = if k ∈ T then some (.bl true) else none := by
  unfold dLook tkE
  induction T with
  | nil => simp
  | cons x T ih =>
    rw [List.map_cons, List.find?_cons]
    by_cases h : x = k
    · simp [h]
    · have h2 : ¬ k = x := fun e => h e.symm
      simp only [h, decide_false]
      rw [ih]
      simp [h2]
theorem any_tk (T : List (List Key)) (k : List Key) : ((tkE T).any fun e => decide (e.1 = k)) = decide (k ∈ T) := by
  unfold tkE
  rw [List.any_map]
  induction T with
  | nil => rfl
  | cons x T ih =>
    rw [List.any_cons, ih]
    by_cases h : x = k
    · simp [h]
    · have h2 : ¬ k = x := fun e => h e.symm
      by_cases h3 : k ∈ T <;> simp [h, h2, h3]
def putT (T : List (List Key)) (k : List Key) : List (List Key) := if k ∈ T then T else T ++ [k]
theorem put_tk (T : List (List Key)) (k : List Key) : dPut (tkE T) k (.bl true) = tkE (putT T k) := by
  unfold dPut putT
  rw [any_tk]
  by_cases h : k ∈ T
  · simp only [h, decide_true, if_true]
    unfold tkE
    rw [List.map_map]
    refine List.map_congr_left fun x _ => ?_
    by_cases hx : x = k <;> simp [hx]
  · simp [h, tkE]
theorem putT_mem {T : List (List Key)} {k x : List Key} : x ∈ putT T k ↔ x ∈ T ∨ x = k := by
  unfold putT
  by_cases h : k ∈ T
  · rw [if_pos h]
    exact ⟨.inl, fun q => q.elim id fun e => e ▸ h⟩
  · rw [if_neg h]; simp
theorem putT_len (T : List (List Key)) (k : List Key) : (putT T k).length ≤ T.length + 1 := by
  unfold putT
  split
  · omega
  · simp
theorem opt_ite {α : Type} {c : Prop} [Decidable c] (a : α) : (if c then some a else none).isSome = decide c := by by_cases h : c <;> simp [h]
theorem item_cl {α : Type} (n : Nat) (d : D) (f : α → D) (h : n ≤ 1) : Cell.item (ln n d) ∘ f = sh ∘ f := funext fun x => item_ln n d (f x) h
theorem item_cm {α : Type} (b : Bm) (n : Nat) (d : D) (f : α → D) (h : n ≤ 1) : Cell.item ⟨b, n, d⟩ ∘ f = sh ∘ f := funext fun x => item_mk b n d (f x) h
theorem app_kc {α : Type} (xs : List (List Key)) (ys : List α) (g : α → List Key) : xs.map kD ++ ys.map (kD ∘ g) = (xs ++ ys.map g).map kD := by rw [List.map_append, List.map_map]
theorem dc_iff {p : Prop} [Decidable p] : (decide p = true) = p := decide_eq_true_eq
end VL
set_option maxRecDepth 100000
/-! WU: more built-ins: max of four; len(set(x)), sorted(set(x)); list(reversed(x)); list(range(..)); d.get, d.values(), d.setdefault(..).append(..). -/
/-! ### max(a, b, c, d) of ints -/
namespace VL
variable [TB : Tbs]
section
open PySem PySem.Spec PyProof.Rows
variable {prog : Program} {w : World} {A : Around} {E : Value → Shared → Prop} {s : Shared}
theorem args_max4 (a b c d : Value) : argsOk "max" ⟨[a, b, c, d], []⟩ := by unfold argsOk; kernel_rfl
theorem call_max_four {a b c e : Value} {Q : Value → Shared → Prop}
    (h : wpAny (model prog w) A.in1 (pyIter (.ref s.heap.objs.size)) (fun it s₂ => ∃ I fp wr n P St bt, it = .ref I ∧ Walks prog w A.in1 I fp wr n P St ∧ St 0 s₂.heap ∧ (∀ b ∈ fp, b < s₂.heap.objs.size) ∧ 0 < n ∧ CmpOf prog w A.in1 .Gt P bt ∧
      ∀ v h' tk, P (argBest bt (n - 1)) v → (∀ b o, b ∉ wr → s₂.heap.get? b = some o → h'.get? b = some o) → Q v { s₂ with heap := h', toks := tk }) E
      { s with heap := s.heap.push { cls := .type "tuple", data := .seq #[a, b, c, e] } }) :
    wpAny (model prog w) A (call (.builtin "max") [a, b, c, e]) Q E s := by
  have hname : (toString "max" ++ toString ".loop" : String) = "max.loop" := by decide
  refine call_function_tree F.kind_max F.plain_max F.entry_max (args_max4 _ _ _ _) ?_
  show wpAny _ A.in1 (Builtin.Builtins.bindParams "max" ["key", "default"] 0 ⟨[], []⟩ >>= _) _ _ s
  refine wpAny_bind (wpAny_of_eq (show Builtin.Builtins.bindParams "max" ["key", "default"] 0 ⟨[], []⟩ = pure [none, none] from rfl) ?_)
  show wpAny _ A.in1 (newTuple [a, b, c, e] >>= _) _ _ s
  refine wpAny_bind (wpAny_newObj_type ?_)
  refine wpAny_bind (wpAny_mono h (fun it s₂ h₂ => ?_) fun _ _ e => e)
  obtain ⟨I, fp, wr, n, P, St, bt, rfl, W, hst, hfp, hn, hcmp, hQ⟩ := h₂
  refine wpAny_bind (wpAny_newObj_type ?_)
  have hSf : s₂.heap.objs.size ∉ fp := fun hm => Nat.lt_irrefl _ (hfp _ hm)
  rw [hname]
  refine wpAny_pure ⟨plainId_quiet F.plain_max_loop _, codeAny_max_loop_first W bt hcmp s₂.heap.objs.size hSf hn (W.frame _ _ _ hst fun b _ o e => Heap.get?_push_of_some _ e) (Heap.get?_push_size _ rfl) fun v h' tk hP hk => ?_⟩
  exact hQ v h' tk hP fun b o hbw e => hk b o hbw (Nat.ne_of_lt (Heap.lt_size e)) (Heap.get?_push_of_some _ e)
theorem max_four_ints {a b c e : Int} {t u x y : Tok} {Q : Value → Shared → Prop} (hh : A.handled = none)
    (h : ∀ h' tk v, (∃ k, v = .int (max (max (max a b) c) e) k) → (∀ d o, s.heap.get? d = some o → h'.get? d = some o) → Q v { s with heap := h', toks := tk }) :
    wpAny (model prog w) A (call (.builtin "max") [.int a t, .int b u, .int c x, .int e y]) Q E s := by
  have hT : (s.heap.push { cls := .type "tuple", data := .seq #[.int a t, .int b u, .int c x, .int e y] }).IsTuple s.heap.objs.size (intItems #[(a, t), (b, u), (c, x), (e, y)]) := ⟨_, Heap.get?_push_size _ rfl, rfl, 0, by simp [intItems]⟩
  refine call_max_four (wpAny_pyIter_tuple hT ?_)
  have hsz : (s.heap.push { cls := .type "tuple", data := .seq #[.int a t, .int b u, .int c x, .int e y] }).objs.size = s.heap.objs.size + 1 := Heap.size_push ..
  refine ⟨_, [_, s.heap.objs.size], [_], _, _, _, _, rfl, Walks.tuple (A := A.in1) hh _ s.heap.objs.size (by rw [hsz]; exact Nat.ne_of_lt (Nat.lt_succ_self _)) (intItems #[(a, t), (b, u), (c, x), (e, y)]),
    ⟨⟨_, Heap.get?_push_size _ rfl, rfl, rfl⟩, hT.push _⟩, fun d hd => ?_, by simp [intItems], CmpOf.ints_gt (numAt #[(a, t), (b, u), (c, x), (e, y)]) (fun _ _ => intItems_at), fun v h' tk hP hk => ?_⟩
  · show d < ((s.heap.push _).push _).objs.size
    rw [Heap.size_push, hsz]
    rcases List.mem_cons.mp hd with rfl | hd
    · rw [hsz]; exact Nat.lt_succ_self _
    · rcases List.mem_cons.mp hd with rfl | hd
      · exact Nat.lt_succ_of_lt (Nat.lt_succ_self _)
      · cases hd
  · have hold : ∀ d o, s.heap.get? d = some o → h'.get? d = some o := fun d o e => by
      refine hk d o (fun hm => ?_) (Heap.get?_push_of_some _ (Heap.get?_push_of_some _ e))
      rcases List.mem_cons.mp hm with e1 | hm
      · have := Heap.lt_size e; rw [e1, hsz] at this; exact Nat.lt_irrefl _ (Nat.lt_of_succ_lt this)
      · cases hm
    refine h h' tk v ?_ hold
    have hP' : (intItems #[(a, t), (b, u), (c, x), (e, y)])[argBest (fun i j => decide (numAt #[(a, t), (b, u), (c, x), (e, y)] i > numAt #[(a, t), (b, u), (c, x), (e, y)] j)) 3]? = some v := by
      have hsz2 : (intItems #[(a, t), (b, u), (c, x), (e, y)]).size - 1 = 3 := by simp [intItems]
      rw [← hsz2]; exact hP
    by_cases h1 : b > a
    · by_cases h2 : c > b
      · by_cases h3 : e > c
        · simp [argBest, numAt, h1, h2, h3, intItems] at hP'
          exact ⟨y, by rw [← hP']; congr 1; omega⟩
        · simp [argBest, numAt, h1, h2, h3, intItems] at hP'
          exact ⟨x, by rw [← hP']; congr 1; omega⟩
      · by_cases h3 : e > b
        · simp [argBest, numAt, h1, h2, h3, intItems] at hP'
          exact ⟨y, by rw [← hP']; congr 1; omega⟩
        · simp [argBest, numAt, h1, h2, h3, intItems] at hP'
          exact ⟨u, by rw [← hP']; congr 1; omega⟩
    · by_cases h2 : c > a
      · by_cases h3 : e > c
        · simp [argBest, numAt, h1, h2, h3, intItems] at hP'
          exact ⟨y, by rw [← hP']; congr 1; omega⟩
        · simp [argBest, numAt, h1, h2, h3, intItems] at hP'
          exact ⟨x, by rw [← hP']; congr 1; omega⟩
      · by_cases h3 : e > a
        · simp [argBest, numAt, h1, h2, h3, intItems] at hP'
          exact ⟨y, by rw [← hP']; congr 1; omega⟩
        · simp [argBest, numAt, h1, h2, h3, intItems] at hP'
          exact ⟨t, by rw [← hP']; congr 1; omega⟩
end
end VL
namespace VL
open PySem L2
variable [TB : Tbs]
section
variable {X : Cx}
def rMax4 : List V → Hp → VK → Prop := fun xs H Q => ∃ i j k l, xs = [.int i, .int j, .int k, .int l] ∧ Q (.int (max (max (max i j) k) l)) H
theorem call_max4 (hc : X.calm = true) : CallR X (.builtin "max") rMax4 := by
  intro pins s σ H xs us Q I r h
  obtain ⟨i, j, k, l, rfl, q⟩ := h
  cases r with
  | cons r1 r =>
    cases r with
    | cons r2 r =>
      cases r with
      | cons r3 r =>
        cases r with
        | cons r4 r =>
          cases r
          obtain ⟨t1, rfl⟩ := r1
          obtain ⟨t2, rfl⟩ := r2
          obtain ⟨t3, rfl⟩ := r3
          obtain ⟨t4, rfl⟩ := r4
          exact max_four_ints (I.ok.hd hc) fun h' tk v hv kk => ⟨.int (max (max (max i j) k) l), H, I.kept kk, hv, q⟩
def max4M : MC := fun cs => match cs with
  | [w, x, y, z] => (match w.d, x.d, y.d, z.d with
    | .int i, .int j, .int k, .int l => some (sh (.int (max (max (max i j) k) l)))
    | _, _, _, _ => none)
  | _ => none
theorem cm_max4 {K : PySem.W.Frag} : CbM K rMax4 max4M := by
  refine ⟨fun cs Q => ∃ c, max4M cs = some c ∧ Q c, ?_, fun cs c h Q q => ⟨c, h, q⟩⟩
  rintro cs Q ⟨c, h, q⟩ S Fl F H vs tc tv Q' hl r k
  unfold max4M at h
  split at h
  · next w x y z =>
    split at h
    · next e1 e2 e3 e4 =>
      cases h
      match vs, hl with
      | [v1, v2, v3, v4], _ =>
        have s1 := Rel.sh r
        have s2 := Rel.sh (Rel.tail r)
        have s3 := Rel.sh (Rel.tail (Rel.tail r))
        have s4 := Rel.sh (Rel.tail (Rel.tail (Rel.tail r)))
        rw [e1] at s1
        rw [e2] at s2
        rw [e3] at s3
        rw [e4] at s4
        cases s1
        cases s2
        cases s3
        cases s4
        exact ⟨_, _, _, _, rfl, k _ _ S H q (Same.refl S) ((Rel.tail (Rel.tail (Rel.tail (Rel.tail r)))).push (.int _))⟩
    · cases h
  · cases h
end
end VL
set_option maxRecDepth 100000
/-! WV: more side questions. -/
namespace VL
open PySem L2
variable [TB : Tbs]
theorem pl60_nil : D.pl 60 (.lst []) = true := rfl
theorem pl60_tnil : D.pl 60 (.tup []) = true := rfl
theorem pl59_nil : D.pl 59 (.lst []) = true := rfl
theorem eqv_nn : D.eqv (.lst []) (.lst []) = true := rfl
theorem eqv_cn (x : D) (xs : List D) : D.eqv (.lst (x :: xs)) (.lst []) = false := by
  unfold D.eqv
  simp [D.py, pyA, PyData.eqv, PyData.eqvAll]
theorem eqv_lcons (x y : D) (xs ys : List D) : D.eqv (.lst (x :: xs)) (.lst (y :: ys)) = (x.eqv y && D.eqv (.lst xs) (.lst ys)) := by
  unfold D.eqv
  simp [D.py, pyA, PyData.eqv, PyData.eqvAll]
theorem eqv_tcons (x y : D) (xs ys : List D) : D.eqv (.tup (x :: xs)) (.tup (y :: ys)) = (x.eqv y && D.eqv (.tup xs) (.tup ys)) := by
  unfold D.eqv
  simp [D.py, pyA, PyData.eqv, PyData.eqvAll]
theorem eqv_tnn : D.eqv (.tup []) (.tup []) = true := rfl
theorem map_nil_iff {α β : Type} (f : α → β) (xs : List α) : (xs.map f = []) = (xs = []) := propext List.map_eq_nil_iff

theorem ixN_m1 (n : Nat) : ixN (n + 1) (-1) = some n := by
  rw [ixN_neg (by omega) (by omega)]
  congr 1
  omega
theorem toNat_m1 (n : Nat) : (-1 + ((n + 1 : Nat) : Int)).toNat = n := by omega
theorem get_snoc {α : Type} (xs : List α) (x : α) : (xs ++ [x])[xs.length]? = some x := by simp
theorem app_ne {α : Type} (xs : List α) (x : α) : (xs ++ [x] = []) = False := by simp
theorem last_snoc {α : Type} (xs : List α) (x : α) : (xs ++ [x]).getLast? = some x := by simp
theorem item_lnG (n : Nat) (d x : D) : (ln n d).item x = ln (n - 1) x := by
  match n with
  | 0 => rfl
  | 1 => rfl
  | n + 2 => rfl
/-- numbers, None, lists and tuples of such, to a depth -/
def alk : Nat → D → Bool
  | _, .non => true
  | _, .int _ => true
  | n + 1, .lst xs => xs.all (alk n) && decide (xs.length ≤ 100000)
  | n + 1, .tup xs => xs.all (alk n) && decide (xs.length ≤ 100000)
  | _, _ => false
/-! ### order of data -/
theorem leD_TL : PySem.W.TotalLe leD := PySem.W.sortLe_total (PyProof.Rows.listOrd PyProof.Rows.itemOrd) false fun d : D => PySem.W.keyToks d.py
theorem leD_tcons {x y : D} (h : PySem.W.alike y.py x.py = true) (xs ys : List D) : leD (.tup (x :: xs)) (.tup (y :: ys)) = if y.eqv x = true then leD (.tup xs) (.tup ys) else leD x y := by
  unfold leD
  simp only [D.py, pyA, PySem.W.dataLt_tuple]
  rw [PySem.W.dataLt_cons h]
  unfold D.eqv
  by_cases e : PyData.eqv y.py x.py = true <;> simp only [e, if_true, if_false, Bool.false_eq_true]
theorem leD_int (i j : Int) : leD (.int i) (.int j) = decide (i ≤ j) := by
  unfold leD
  simp only [D.py, PySem.W.dataLt_int]
  by_cases h : i ≤ j
  · simp [h]
  · simp [h]; omega
theorem leD_tint (i j : Int) (xs ys : List D) : leD (.tup (.int i :: xs)) (.tup (.int j :: ys)) = if i = j then leD (.tup xs) (.tup ys) else decide (i < j) := by
  rw [leD_tcons (by simp [D.py, PySem.W.alike]), eqv_int, leD_int]
  by_cases h : i = j
  · simp [h]
  · have h2 : ¬ j = i := fun e => h e.symm
    by_cases h3 : i < j
    · simp [h, h2, h3]; omega
    · simp [h, h2, h3]; omega
theorem leD_nil (xs : List D) : leD (.tup []) (.tup xs) = true := by
  unfold leD
  simp only [D.py, PySem.W.dataLt_tuple, pyA]
  cases xs with
  | nil => rfl
  | cons x xs =>
    rw [pyA, PySem.W.toks_all_cons]
    rfl
theorem alike_tints (xs ys : List Int) : PySem.W.alike (D.tup (xs.map D.int)).py (D.tup (ys.map D.int)).py = true := by
  have e : ∀ xs : List Int, pyA (xs.map D.int) = xs.map PyData.int := fun xs => by
    induction xs with
    | nil => rfl
    | cons x xs ih => rw [List.map_cons, pyA, ih]; rfl
  rw [D.py, D.py, e, e, PySem.W.alike]
  exact PySem.W.alike_ints xs ys
theorem sort_by {α : Type} (f : α → D) (xs : List α) : (xs.mergeSort fun a b => leD (f a) (f b)).Pairwise fun a b => leD (f a) (f b) = true :=
  List.pairwise_mergeSort (le := fun a b => leD (f a) (f b)) (fun a b c => leD_TL.trans (f a) (f b) (f c)) (fun a b => by simpa using leD_TL.total (f a) (f b)) xs
/-! ### lists of lists of ints -/
def rowD (r : List Int) : D := .lst (r.map D.int)
instance : Enc rowD := ⟨fun a b => eqv_lst a b⟩
instance : Pld rowD 1 := ⟨fun a n h => match n, h with | n + 1, _ => pl_lst a (Nat.zero_le n)⟩
theorem rowD_at (r : List Int) : D.lst (r.map D.int) = rowD r := rfl
theorem eqv_rows (xs ys : List (List Int)) : D.eqv (.lst (xs.map rowD)) (.lst (ys.map rowD)) = decide (xs = ys) := eqv_lst xs ys
theorem pl_rows (xs : List (List Int)) : D.pl 60 (.lst (xs.map rowD)) = true := pl60_lst xs
theorem alk_row (n : Nat) (r : List Int) (h : r.length ≤ 100000) : alk (n + 1) (rowD r) = true := by
  have : ∀ i : Int, alk n (.int i) = true := fun i => by cases n <;> rfl
  simp [rowD, alk, h, this]
theorem items_row (r : List Int) : D.items (rowD r) = some (r.map D.int) := rfl
/-! ### calls -/
abbrev Call := Int × List Int × Int
def callD (c : Call) : D := .tup [.int c.1, .tup (c.2.1.map D.int), .int c.2.2]
def leC (a b : Call) : Bool := leD (callD a) (callD b)
abbrev sortC (xs : List Call) : List Call := xs.mergeSort leC
instance : Enc callD := ⟨fun a b => by
  unfold callD
  rw [eqv_tup3, eqv_int, eqv_int, eqv_tints]
  by_cases h1 : a.1 = b.1 <;> by_cases h2 : a.2.1 = b.2.1 <;> by_cases h3 : a.2.2 = b.2.2 <;> simp [h1, h2, h3, Prod.ext_iff]⟩
instance : Pld callD 2 := ⟨fun a n h => match n, h with
  | n + 2, _ => by
    have := pl_tup (f := D.int) (n := n) a.2.1 (Nat.zero_le n)
    simp [callD, D.pl, pl_int, this]⟩
instance : Srt callD leC where
  le a b := rfl
  alike a b := by
    unfold callD
    have h := alike_tints a.2.1 b.2.1
    simp only [D.py] at h
    simp only [PySem.W.alike] at h
    simp [D.py, pyA, PySem.W.alike, PySem.W.alikeAll, h]
  kind := .inl fun a => ⟨_, _, rfl⟩
theorem leC_1 {a b : Call} (h : leC a b = true) : a.1 ≤ b.1 := by
  unfold leC callD at h
  rw [leD_tint] at h
  split at h
  · omega
  · simp at h; omega
theorem sortC_perm (xs : List Call) : (sortC xs).Perm xs := List.mergeSort_perm xs leC
theorem sortC_len (xs : List Call) : (sortC xs).length = xs.length := List.length_mergeSort xs
theorem sortC_mem {xs : List Call} {a : Call} : a ∈ sortC xs ↔ a ∈ xs := List.mem_mergeSort
theorem sortC_le (xs : List Call) : (sortC xs).Pairwise fun a b => a.1 ≤ b.1 := (sort_by callD xs).imp fun h => leC_1 h
theorem sorted_c (b : Bm) (n : Nat) (xs : List Call) (hl : xs.length ≤ 16777216) (hn : n ≤ 1) : sortedM [⟨b, n, .lst (xs.map callD)⟩] = some (own 1 (.lst ((sortC xs).map callD))) := sorted_m _ xs rfl (flat_le _ _ _ hn) hl
theorem sorted_cln (n : Nat) (xs : List Call) (hl : xs.length ≤ 16777216) (hn : n ≤ 1) : sortedM [ln n (.lst (xs.map callD))] = some (own 1 (.lst ((sortC xs).map callD))) := sorted_m _ xs (by rw [ln_d]; rfl) (flat_ln _ _ hn) hl
theorem snoc_call (xs : List Call) (x : Call) : xs.map callD ++ [callD x] = (xs ++ [x]).map callD := snoc_map callD xs x
theorem eqv_calls (xs ys : List Call) : D.eqv (.lst (xs.map callD)) (.lst (ys.map callD)) = decide (xs = ys) := eqv_lst xs ys
instance memCall (x : Call) (ys : List Call) : Decidable (x ∈ ys) := @List.instDecidableMemOfLawfulBEq _ instBEqOfDecidableEq inferInstance x ys
theorem mem_calls (x : Call) (ys : List Call) : D.mem (callD x) (ys.map callD) = decide (x ∈ ys) := mem_map x ys
theorem pl_calls (xs : List Call) : D.pl 60 (.lst (xs.map callD)) = true := pl60_lst xs
end VL
set_option maxRecDepth 100000
/-! WW: sets of small numbers as bits. -/
namespace VL
open PySem L2
variable [TB : Tbs]
def orB (s : Nat) (p : Int) : Nat := s ||| 2 ^ p.toNat
def bset (ps : List Int) : Nat := ps.foldl orB 0
theorem orB_test (ps : List Int) : ∀ (s i : Nat), (ps.foldl orB s).testBit i = (s.testBit i || ps.any fun p => decide (p.toNat = i)) := by
  induction ps with
  | nil => simp
  | cons p ps ih =>
    intro s i
    rw [List.foldl_cons, ih, orB, Nat.testBit_or, Nat.testBit_two_pow, List.any_cons, Bool.or_assoc]
theorem bset_test {ps : List Int} (i : Nat) : (bset ps).testBit i = ps.any fun p => decide (p.toNat = i) := by
  unfold bset
  rw [orB_test]
  simp
noncomputable def setBits (N : Nat) : List Nat := (List.range (bitLen (N : Int))).filter fun p => N.testBit p
theorem lt_bits (N : Nat) : N < 2 ^ bitLen (N : Int) := by
  rw [bitLen_eq]
  unfold Builtin.Int.intBits
  by_cases h : N = 0
  · subst h; simp
  · rw [if_neg (by simpa using h)]
    exact Nat.lt_log2_self
theorem perm_sum {xs ys : List Int} (p : xs.Perm ys) : xs.sum = ys.sum := by
  induction p with
  | nil => rfl
  | cons x _ ih => simp [ih]
  | swap x y l => simp; omega
  | trans _ _ h1 h2 => exact h1.trans h2
theorem setBits_mem {N p : Nat} : p ∈ setBits N ↔ N.testBit p = true := by
  unfold setBits
  rw [List.mem_filter, List.mem_range]
  constructor
  · exact fun h => h.2
  · intro h
    refine ⟨?_, h⟩
    refine Nat.lt_of_not_le fun z => ?_
    rw [Nat.testBit_lt_two_pow (Nat.lt_of_lt_of_le (lt_bits N) (Nat.pow_le_pow_right (by decide) z))] at h
    cases h
theorem setBits_lt (N : Nat) : (setBits N).Pairwise (· < ·) := List.Pairwise.filter _ List.pairwise_lt_range
/-- the bits of a list of places are the list, sorted -/
theorem setBits_bset {P : List Int} (nd : P.Nodup) (h : ∀ p ∈ P, 0 ≤ p) : (setBits (bset P)).map (fun p : Nat => (p : Int)) = sortI P := by
  refine pair_uniq ?_ ((List.pairwise_map.mpr ((setBits_lt _).imp fun h => by omega))) (sortI_le P)
  refine (List.perm_ext_iff_of_nodup ?_ ((sortI_perm P).nodup_iff.mpr nd)).mpr fun a => ?_
  · exact (List.pairwise_map.mpr ((setBits_lt _).imp fun h => by omega))
  · rw [sortI_mem, List.mem_map]
    constructor
    · rintro ⟨p, hp, rfl⟩
      rw [setBits_mem, bset_test, List.any_eq_true] at hp
      obtain ⟨q, hq, e⟩ := hp
      have := h q hq
      have e' : q = (p : Int) := by simp at e; omega
      rw [← e']; exact hq
    · intro ha
      have := h a ha
      refine ⟨a.toNat, ?_, by omega⟩
      rw [setBits_mem, bset_test, List.any_eq_true]
      exact ⟨a, ha, by simp⟩

theorem setBits_nodup (N : Nat) : (setBits N).Nodup := (setBits_lt N).imp fun h => by omega
/-- as many bits as unlike places -/
theorem setBits_count {N : Nat} {P : List Int} (nd : P.Nodup) (h0 : ∀ p ∈ P, 0 ≤ p) (h : ∀ i, N.testBit i = true ↔ (i : Int) ∈ P) : (setBits N).length = P.length := by
  have e : ((setBits N).map fun p : Nat => (p : Int)).Perm P := by
    refine (List.perm_ext_iff_of_nodup ?_ nd).mpr fun a => ?_
    · exact (List.pairwise_map.mpr ((setBits_lt _).imp fun h => by omega))
    · rw [List.mem_map]
      constructor
      · rintro ⟨p, hp, rfl⟩
        exact (h p).mp (setBits_mem.mp hp)
      · intro ha
        have h1 := h0 a ha
        refine ⟨a.toNat, setBits_mem.mpr ((h _).mpr ?_), by omega⟩
        rw [Int.toNat_of_nonneg h1]; exact ha
  have := e.length_eq
  rwa [List.length_map] at this
theorem bset_snoc (P : List Int) (p : Int) : bset (P ++ [p]) = bset P ||| 2 ^ p.toNat := by
  unfold bset
  rw [List.foldl_append]
  rfl
theorem bset_mem {P : List Int} (h : ∀ p ∈ P, 0 ≤ p) (i : Nat) : (bset P).testBit i = true ↔ (i : Int) ∈ P := by
  rw [bset_test, List.any_eq_true]
  constructor
  · rintro ⟨p, hp, e⟩
    have h1 := h p hp
    have e2 : p = (i : Int) := by simp at e; omega
    rw [← e2]; exact hp
  · intro hp
    exact ⟨_, hp, by simp⟩
theorem bset_two {P : List Int} {k : Nat} (h : ∀ p ∈ P, 0 ≤ p ∧ p < k) : bset P < 2 ^ k := by
  refine Nat.lt_pow_two_of_testBit _ fun i hi => ?_
  rw [bset_test, List.any_eq_false]
  intro p hp
  have := h p hp
  simp; omega
theorem bitLen_le {N k : Nat} (h : N < 2 ^ k) : bitLen (N : Int) ≤ k := by
  rw [bitLen_eq]
  unfold Builtin.Int.intBits
  by_cases h0 : N = 0
  · subst h0; simp
  · rw [if_neg (by simpa using h0)]
    have := (Nat.log2_lt h0).mpr h
    simp only [Int.natAbs_natCast]
    omega
theorem shl_one (i : Int) : (1 : Int) * 2 ^ i.toNat = ((2 ^ i.toNat : Nat) : Int) := by simp
theorem ones_nat (c : Int) : (1 : Int) * 2 ^ c.toNat - 1 = ((2 ^ c.toNat - 1 : Nat) : Int) := by
  have : 0 < 2 ^ c.toNat := Nat.two_pow_pos _
  rw [shl_one]; omega
theorem up_uniq {xs ys : List Int} (h1 : xs.Pairwise (· < ·)) (h2 : ys.Pairwise (· < ·)) (h : ∀ a, a ∈ xs ↔ a ∈ ys) : xs = ys := by
  have n1 : xs.Nodup := h1.imp fun h => by omega
  have n2 : ys.Nodup := h2.imp fun h => by omega
  exact pair_uniq ((List.perm_ext_iff_of_nodup n1 n2).mpr h) (h1.imp fun h => by omega) (h2.imp fun h => by omega)
theorem and_lt {a b k : Nat} (h : a < k) : a &&& b < k := Nat.lt_of_le_of_lt Nat.and_le_left h
/-- the open ones of c, as bits -/
def readyN (c : Int) (S : Nat) : Nat := (2 ^ c.toNat - 1) ^^^ S
theorem readyN_test {c : Int} {S : Nat} (h : S < 2 ^ c.toNat) (i : Nat) : (readyN c S).testBit i = (decide (i < c.toNat) && !S.testBit i) := by
  unfold readyN
  rw [Nat.testBit_xor, Nat.testBit_two_pow_sub_one]
  by_cases hi : i < c.toNat
  · simp [hi]
  · have : S.testBit i = false := Nat.testBit_lt_two_pow (Nat.lt_of_lt_of_le h (Nat.pow_le_pow_right (by decide) (by omega)))
    simp [hi, this]
theorem readyN_lt {c : Int} {S : Nat} (h : S < 2 ^ c.toNat) : readyN c S < 2 ^ c.toNat := by
  refine Nat.lt_pow_two_of_testBit _ fun i hi => ?_
  rw [readyN_test h]
  have : ¬ i < c.toNat := by omega
  simp [this]
/-- the open ones of c, as a list -/
def readyL (c : Int) (S : Nat) : List Int := ((List.range c.toNat).filter fun k => !S.testBit k).map fun k : Nat => (k : Int)
theorem readyL_mem {c : Int} {S : Nat} {k : Int} : k ∈ readyL c S ↔ 0 ≤ k ∧ k < c ∧ S.testBit k.toNat = false := by
  unfold readyL
  rw [List.mem_map]
  constructor
  · rintro ⟨i, hi, rfl⟩
    rw [List.mem_filter, List.mem_range] at hi
    refine ⟨by omega, by omega, ?_⟩
    simpa using hi.2
  · rintro ⟨h0, h1, h2⟩
    refine ⟨k.toNat, List.mem_filter.mpr ⟨List.mem_range.mpr (by omega), by simp [h2]⟩, by omega⟩
theorem readyL_up (c : Int) (S : Nat) : (readyL c S).Pairwise (· < ·) := List.pairwise_map.mpr ((List.Pairwise.filter _ List.pairwise_lt_range).imp fun h => by omega)
theorem readyL_nd (c : Int) (S : Nat) : (readyL c S).Nodup := (readyL_up c S).imp fun h => by omega
theorem readyL_len (c : Int) (S : Nat) : (readyL c S).length ≤ c.toNat := by
  unfold readyL
  rw [List.length_map]
  have := List.length_filter_le (fun k => !S.testBit k) (List.range c.toNat)
  rwa [List.length_range] at this
theorem readyN_mem {c : Int} {S : Nat} (h : S < 2 ^ c.toNat) (i : Nat) : (readyN c S).testBit i = true ↔ (i : Int) ∈ readyL c S := by
  rw [readyN_test h, readyL_mem, Bool.and_eq_true, decide_eq_true_eq, Bool.not_eq_true']
  constructor
  · rintro ⟨h1, h2⟩
    exact ⟨by omega, by omega, by simpa using h2⟩
  · rintro ⟨h0, h1, h2⟩
    exact ⟨by omega, by simpa using h2⟩
theorem ready_count {c : Int} {S : Nat} (h : S < 2 ^ c.toNat) : (setBits (readyN c S)).length = (readyL c S).length :=
  setBits_count (readyL_nd c S) (fun p hp => (readyL_mem.mp hp).1) fun i => readyN_mem h i
theorem and_count {c : Int} {S : Nat} {P : List Int} (h : S < 2 ^ c.toNat) (nd : P.Nodup) (h0 : ∀ p ∈ P, 0 ≤ p) : (setBits (bset P &&& readyN c S)).length = (P.filter fun p => decide (p ∈ readyL c S)).length := by
  refine setBits_count (nd.sublist List.filter_sublist) (fun p hp => h0 p (List.mem_filter.mp hp).1) fun i => ?_
  rw [Nat.testBit_and, Bool.and_eq_true, bset_mem h0, readyN_mem h, List.mem_filter, decide_eq_true_eq]
theorem bit_at (S k : Nat) : Builtin.bitAnd ((S : Int) / 2 ^ k) 1 = ((S.testBit k).toNat : Int) := by
  have e : (S : Int) / 2 ^ k = ((S / 2 ^ k : Nat) : Int) := by simp
  rw [e, and_one]
  rw [Nat.testBit_eq_decide_div_mod_eq]
  by_cases h : S / 2 ^ k % 2 = 1
  · simp [h]
  · have h2 : S / 2 ^ k % 2 = 0 := by omega
    simp [h2]
theorem bit_t {S k : Nat} (h : S.testBit k = true) : Builtin.bitAnd ((S : Int) / 2 ^ k) 1 = 1 := by rw [bit_at, h]; rfl
theorem bit_f {S k : Nat} (h : S.testBit k = false) : Builtin.bitAnd ((S : Int) / 2 ^ k) 1 = 0 := by rw [bit_at, h]; rfl
theorem pl_cf {α : Type} (f : α → Int) (xs : List α) : D.pl 60 (.lst (xs.map (D.int ∘ f))) = true := pl_lf f xs
theorem mem_cf {α : Type} (f : α → Int) (i : Int) (xs : List α) : D.mem (.int i) (xs.map (D.int ∘ f)) = decide (i ∈ xs.map f) := mem_lf f i xs
theorem eqv_cf {α β : Type} (f : α → Int) (g : β → Int) (xs : List α) (ys : List β) : D.eqv (.lst (xs.map (D.int ∘ f))) (.lst (ys.map (D.int ∘ g))) = decide (xs.map f = ys.map g) := eqv_lf f g xs ys
theorem eqv_cf1 {α : Type} (f : α → Int) (xs : List α) (ys : List Int) : D.eqv (.lst (xs.map (D.int ∘ f))) (.lst (ys.map D.int)) = decide (xs.map f = ys) := eqv_lf1 f xs ys
theorem eqv_cf2 {α : Type} (f : α → Int) (xs : List α) (ys : List Int) : D.eqv (.lst (ys.map D.int)) (.lst (xs.map (D.int ∘ f))) = decide (ys = xs.map f) := eqv_lf2 f xs ys
/-- a list made new at one place -/
theorem set_range {α : Type} (f g : Nat → α) (c k : Nat) (v : α) (h : ∀ i, i < c → g i = if i = k then v else f i) : ((List.range c).map f).set k v = (List.range c).map g := by
  apply List.ext_getElem
  · simp
  · intro i h1 h2
    simp at h1 h2
    rw [List.getElem_set]
    simp only [List.getElem_map, List.getElem_range]
    rw [h i h1]
    by_cases hk : i = k
    · subst hk; simp
    · have : ¬ k = i := fun z => hk z.symm
      simp [hk, this]
theorem rep_range {α : Type} (c : Nat) (v : α) : (List.replicate c [v]).flatten = (List.range c).map fun _ => v := by
  induction c with
  | zero => rfl
  | succ c ih => rw [List.replicate_succ', List.flatten_concat, ih, List.range_succ, List.map_append]; rfl
end VL
set_option maxRecDepth 100000
/-! WX: list(range(..)), d.get(..), tuple(reversed(..)); sets of ints, asked at once. -/
namespace VL
open PySem L2
variable [TB : Tbs]

/-! ### list(range(n)) -/
noncomputable def mListR1 (m : ME) : ME := fun ρ => (m ρ).bind fun c => match c.d with
  | .int n => if dB (0 ≤ n ∧ n ≤ 16777216) = true then .ok (own 1 (.lst ((List.range n.toNat).map fun i : Nat => .int i))) else .bad
  | _ => .bad
theorem sha_range {K : PySem.W.Frag} {S : Hp} (n : Int) : ShA K S (L2.rgV 0 n) ((List.range n.toNat).map fun i : Nat => .int i) := by
  unfold L2.rgV
  have e : (n - 0).toNat = n.toNat := by omega
  rw [e]
  generalize List.range n.toNat = xs
  induction xs with
  | nil => exact .nil
  | cons x xs ih =>
    rw [List.map_cons, List.map_cons]
    refine .cons ?_ ih
    have : (0 : Int) + (x : Int) = (x : Int) := by omega
    rw [this]
    exact .int _
section
variable {X : Cx} {W : WX} {a o e f : Expr} {ta to te tf : TE} {ma mo me mf : ME} {p p2 q pos apos cpos : Pos}
theorem em_listR1 (hc : X.calm = true) (hg : Gl X "list") (hm : X.mg "list" = none) (hg2 : Gl X "range") (hm2 : X.mg "range" = none) (ha : EM X W a ta ma) (na : starEach [a] X.env = (false, eval a X.env) :: starEach [] X.env := by rfl)
    (nb : starEach [.Call (.Name "range" p2) [a] [] q] X.env = (false, eval (.Call (.Name "range" p2) [a] [] q) X.env) :: starEach [] X.env := by rfl) :
    EM X W (.Call (.Name "list" p) [.Call (.Name "range" p2) [a] [] q] [] pos) (L2.tLstRg (L2.tRg1 ta)) (mListR1 ma) := by
  obtain ⟨a1, a2⟩ := ha
  refine ⟨L2.pe_listRg hc hg hm (L2.prg_1 hg2 hm2 a1 na) nb, ?_⟩
  intro ρ Q XQ w S Fl F H σ tc tv Q' ev r k kx
  simp only [we_, mListR1, wR_bind] at w
  refine a2 ρ _ XQ w S Fl F H σ tc tv _ ev r (fun c v S1 H1 q1 e1 r1 => ?_) kx
  split at q1
  · next n hd =>
    obtain ⟨h1, h2⟩ := wR_ite q1
    rw [dB_iff] at h1
    have hv := r1.sh
    rw [hd] at hv
    refine ⟨n, hv.intE, L2.RgOk.of_le (by omega) h1.2 (by omega) h1.1, fun p hp => ?_⟩
    exact k _ _ S1 _ h2 e1 (r1.tail.mkL hp (sha_range n) (by rw [L2.rgV_length, sizeLine_eq]; omega))
  · exact q1.elim
/-! ### d.get(k), d.get(k, x) -/
def isDict : D → Bool
  | .dK _ => true
  | .dT _ => true
  | _ => false
def getM (c ck : Cell) (dflt : D) : Option Cell := match c.d.at ck with
  | some (some d) => some (sh d)
  | some none => some (sh dflt)
  | none => none
def mGet1 (o k : ME) : ME := fun ρ => (o ρ).bind fun c => if isDict c.d = true ∧ c.n ≤ 1 then (k ρ).bind fun ck => .opt (getM c ck .non) else .bad
def mGet2 (o k x : ME) : ME := fun ρ => (o ρ).bind fun c => if isDict c.d = true ∧ c.n ≤ 1 then (k ρ).bind fun ck => (x ρ).bind fun cx => if cx.d.scal = true then .opt (getM c ck cx.d) else .bad else .bad
theorem isDict_at {K : PySem.W.Frag} {S Hh : Hp} {v : V} {d : D} (h : isDict d = true) (q : Sh K Hh v d) : ∃ a, v = .ref a ∧ L2.IsD Hh a := by
  cases q with
  | dK h1 h2 => exact ⟨_, rfl, .inl ⟨_, h1⟩⟩
  | dT h1 h2 => exact ⟨_, rfl, .inr ⟨_, h1⟩⟩
  | _ => cases h
theorem em_get1 (hu : X.A.units + 64 < cLine) (ho : EM X W o to mo) (he : EM X W e te me) (m : L2.M1 X o "get" apos e cpos) : EM X W (.Call (.Attribute o "get" apos) [e] [] cpos) (L2.tDGet1 to te) (mGet1 mo me) := by
  obtain ⟨o1, o2⟩ := ho
  obtain ⟨e1, e2⟩ := he
  refine ⟨L2.pe_dget1 (by omega) o1 e1 m, ?_⟩
  intro ρ Q XQ w S Fl F H σ tc tv Q' ev r k kx
  simp only [we_, mGet1, wR_bind] at w
  refine o2 ρ _ XQ w S Fl F H σ tc tv _ ev r (fun c v S1 H1 q1 s1 r1 => ?_) kx
  obtain ⟨⟨hd, hn⟩, q1⟩ := wR_ite q1
  simp only [wR_bind] at q1
  obtain ⟨ad, rfl, hD⟩ := isDict_at (S := S1) hd r1.sh
  refine ⟨ad, rfl, hD, ?_⟩
  refine e2 ρ _ XQ q1 S1 Fl F H1 σ _ _ _ (ev.ex s1) r1 (fun ck vk S2 H2 q2 s2 r2 => ?_) (kx.ex s1)
  obtain ⟨c', h1, h2⟩ := wR_opt q2
  have hs2 := r2.sh
  have rt := r2.tail.tail
  obtain ⟨L, t, hr⟩ := r2
  cases t with
  | @cons _ _ _ _ La Lb b t1 =>
    cases t1 with
    | @cons _ _ _ _ Lc Ld a t2 =>
      have hp : ∀ p ∈ Lc ++ (Fl ++ F), H2 p.1 = some p.2 := fun p hp => hr.all p (by
        rw [List.append_assoc]
        rcases List.mem_append.mp hp with hp | hp
        · exact List.mem_append_right _ (List.mem_append_left _ (List.mem_append_left _ hp))
        · exact List.mem_append_right _ (List.mem_append_right _ hp))
      unfold getM at h1
      split at h1
      · next d hat =>
        cases h1
        obtain ⟨ad', ro, e3, g1, g2, _⟩ := look_val a b hn hr.sh hp hs2 hat
        cases e3
        obtain ⟨y, rfl, hy⟩ := g2 d rfl
        exact ⟨some y, g1, k _ _ S2 H2 h2 (s1.trans s2) (rt.push hy)⟩
      · next hat =>
        cases h1
        obtain ⟨ad', ro, e3, g1, _, g3⟩ := look_val a b hn hr.sh hp hs2 hat
        cases e3
        rw [g3 rfl] at g1
        exact ⟨none, g1, k _ _ S2 H2 h2 (s1.trans s2) (rt.push .non)⟩
      · cases h1
theorem Sh.scalS {K : PySem.W.Frag} {S S' : Hp} {v : V} {d : D} (h : Sh K S v d) (q : d.scal = true) : Sh K S' v d := by
  cases h <;> first | (cases q; done) | constructor
theorem em_get2 (hu : X.A.units + 64 < cLine) (ho : EM X W o to mo) (he : EM X W e te me) (hf : EM X W f tf mf) (m : L2.M2 X o "get" apos e f cpos) : EM X W (.Call (.Attribute o "get" apos) [e, f] [] cpos) (L2.tDGet2 to te tf) (mGet2 mo me mf) := by
  obtain ⟨o1, o2⟩ := ho
  obtain ⟨e1, e2⟩ := he
  obtain ⟨f1, f2⟩ := hf
  refine ⟨L2.pe_dget2 (by omega) o1 e1 f1 m, ?_⟩
  intro ρ Q XQ w S Fl F H σ tc tv Q' ev r k kx
  simp only [we_, mGet2, wR_bind] at w
  refine o2 ρ _ XQ w S Fl F H σ tc tv _ ev r (fun c v S1 H1 q1 s1 r1 => ?_) kx
  obtain ⟨⟨hd, hn⟩, q1⟩ := wR_ite q1
  simp only [wR_bind] at q1
  obtain ⟨ad, rfl, hD⟩ := isDict_at (S := S1) hd r1.sh
  refine ⟨ad, rfl, hD, ?_⟩
  refine e2 ρ _ XQ q1 S1 Fl F H1 σ _ _ _ (ev.ex s1) r1 (fun ck vk S2 H2 q2 s2 r2 => ?_) (kx.ex s1)
  refine f2 ρ _ XQ q2 S2 Fl F H2 σ _ _ _ (ev.ex (s1.trans s2)) r2 (fun cx vx S3 H3 q3 s3 r3 => ?_) (kx.ex (s1.trans s2))
  obtain ⟨hsc, q3⟩ := wR_ite q3
  obtain ⟨c', h1, h2⟩ := wR_opt q3
  have hx : Sh X.K S3 vx cx.d := r3.sh.scalS hsc
  have hs2 := r3.tail.sh
  have rt := r3.tail.tail.tail
  have r4 := r3.tail
  obtain ⟨L, t, hr⟩ := r4
  cases t with
  | @cons _ _ _ _ La Lb b t1 =>
    cases t1 with
    | @cons _ _ _ _ Lc Ld a t2 =>
      have hp : ∀ p ∈ Lc ++ (Fl ++ F), H3 p.1 = some p.2 := fun p hp => hr.all p (by
        rw [List.append_assoc]
        rcases List.mem_append.mp hp with hp | hp
        · exact List.mem_append_right _ (List.mem_append_left _ (List.mem_append_left _ hp))
        · exact List.mem_append_right _ (List.mem_append_right _ hp))
      unfold getM at h1
      split at h1
      · next d hat =>
        cases h1
        obtain ⟨ad', ro, e3, g1, g2, _⟩ := look_val a b hn hr.sh hp hs2 hat
        cases e3
        obtain ⟨y, rfl, hy⟩ := g2 d rfl
        exact ⟨some y, g1, k _ _ S3 H3 h2 ((s1.trans s2).trans s3) (rt.push hy)⟩
      · next hat =>
        cases h1
        obtain ⟨ad', ro, e3, g1, _, g3⟩ := look_val a b hn hr.sh hp hs2 hat
        cases e3
        rw [g3 rfl] at g1
        exact ⟨none, g1, k _ _ S3 H3 h2 ((s1.trans s2).trans s3) (rt.push hx)⟩
      · cases h1
end
/-! evaluation -/
theorem x_listR1 (m : ME) (ρ : Env) : mListR1 m ρ = (m ρ).bind fun c => match c.d with
  | .int n => if dB (0 ≤ n ∧ n ≤ 16777216) = true then .ok (own 1 (.lst ((List.range n.toNat).map fun i : Nat => .int i))) else .bad
  | _ => .bad := id rfl
theorem x_get1 (o k : ME) (ρ : Env) : mGet1 o k ρ = (o ρ).bind fun c => if isDict c.d = true ∧ c.n ≤ 1 then (k ρ).bind fun ck => .opt (getM c ck .non) else .bad := rfl
theorem x_get2 (o k x : ME) (ρ : Env) : mGet2 o k x ρ = (o ρ).bind fun c => if isDict c.d = true ∧ c.n ≤ 1 then (k ρ).bind fun ck => (x ρ).bind fun cx => if cx.d.scal = true then .opt (getM c ck cx.d) else .bad else .bad := rfl
end VL
set_option maxRecDepth 100000
/-! WY: a set of the ints of a list or tuple: how many, and sorted. -/
namespace VL
variable [TB : Tbs]
section
open PySem PySem.Spec PyProof.Rows L2
variable {P : Program} {w : World} {A : Around} {E : Value → Shared → Prop} {s : Shared}
/-- the new set's object -/
abbrev freshSet (w : World) : Obj := { cls := .type "set", dict := none, data := .set #[] 0 (.fresh 0 0 (!w.params.followText "set-order")) }
/-- its filling from a list: the walk of the list, each item put in -/
theorem set_fill {l : Addr} {items : Array Value} (ns : List Int) {R : Result → Shared → Prop} (hh : A.handled = none) (hl : s.heap.IsList l items) (hit : IntsAre items.toList ns) (hb : ns.length + 1 < scanBound)
    (hR : ∀ h' tk c, SetR w h' s.heap.objs.size (fun j => decide (j ∈ ns)) c → c ≤ ns.length → (∀ b o, s.heap.get? b = some o → h'.get? b = some o) → R (.ok (.ret .none)) { s with heap := h', toks := tk }) :
    codeAny (model P w) A (.builtin "set.update.loop" ⟨[.ref s.heap.objs.size, .ref (s.heap.objs.size + 1)], []⟩) R
      { s with heap := (s.heap.push (freshSet w)).push { cls := .type "list_iterator", data := .fields #[.ref l, .int 0 0] } } := by
  have hsz : items.size = ns.length := by
    have q := IntsAre.length hit
    rwa [Array.length_toList] at q
  have e1 : (s.heap.push (freshSet w)).objs.size = s.heap.objs.size + 1 := Heap.size_push ..
  obtain ⟨ol, hol, _⟩ := id hl
  have hlt : l < s.heap.objs.size := Heap.lt_size hol
  have at0 : (s.heap.push (freshSet w)).get? s.heap.objs.size = some (freshSet w) := Heap.get?_push_size _ rfl
  have at1 : ((s.heap.push (freshSet w)).push { cls := .type "list_iterator", data := .fields #[.ref l, .int 0 0] }).get? (s.heap.objs.size + 1) = some { cls := .type "list_iterator", data := .fields #[.ref l, .int 0 0] } := by rw [← e1]; exact Heap.get?_push_size _ rfl
  refine set_update_ints (Walks.list (A := A.in1) hh (s.heap.objs.size + 1) l (Nat.ne_of_lt (Nat.lt_succ_of_lt hlt)) items).toS s.heap.objs.size (by
    simp only [List.mem_cons, List.not_mem_nil, or_false, not_or]
    exact ⟨Nat.ne_of_lt (Nat.lt_succ_self _), Nat.ne_of_gt hlt⟩) ns hsz hb (fun i v hv => ?_) items.size 0 _ rfl (Nat.zero_le _) ⟨⟨_, at1, rfl, rfl⟩, (hl.push _).push _⟩ ⟨0, Nat.le_refl 0, setR_new_at (Heap.get?_push_of_some _ at0)⟩ fun s' c hm hc hS => ?_
  · have hi : i < ns.length := by rw [← hsz]; exact (Array.getElem?_eq_some_iff.mp hv).1
    obtain ⟨t, e⟩ := IntsAre.int_at hit i v (by rw [Array.getElem?_toList]; exact hv)
    exact ⟨ns[i], t, List.getElem?_eq_getElem hi, by rw [e, List.getD_eq_getElem?_getD, List.getElem?_eq_getElem hi]; rfl⟩
  · rw [Moved.eq_with hm]
    refine hR _ _ c hS (by omega) fun b o e => ?_
    have hb := Heap.lt_size e
    exact hm.heap b o (by
      simp only [List.mem_cons, List.not_mem_nil, or_false, not_or]
      exact ⟨Nat.ne_of_lt hb, Nat.ne_of_lt (Nat.lt_succ_of_lt hb)⟩) (Heap.get?_push_of_some _ (Heap.get?_push_of_some _ e))
set_option maxHeartbeats 3200000 in
/-- set(xs), xs a list of ints -/
theorem set_of_list {l : Addr} {items : Array Value} (ns : List Int) {Q : Value → Shared → Prop} (hh : A.handled = none) (hl : s.heap.IsList l items) (hit : IntsAre items.toList ns) (hb : ns.length + 1 < scanBound) (h : ∀ (h' : Heap) (tk c : Nat), SetR w h' s.heap.objs.size (fun j => decide (j ∈ ns)) c → c ≤ ns.length → (∀ b o, s.heap.get? b = some o → h'.get? b = some o) → Q (.ref s.heap.objs.size) { s with heap := h', toks := tk }) : wpAny (model P w) A (call (.type "set") [.ref l]) Q E s := by
  have at0 : (s.heap.push (freshSet w)).get? s.heap.objs.size = some (freshSet w) := Heap.get?_push_size _ rfl
  have ty0 : Shared.TypeIs { s with heap := s.heap.push (freshSet w) } (.ref s.heap.objs.size) "set" := ⟨_, at0, rfl⟩
  obtain ⟨cl, mr, m1⟩ := F.called_set.mro
  have m2 := F.called_set.made
  have m3 := F.called_set.sub
  have m4 := F.called_set.notType
  have m5 := F.called_set.canCreate
  have m6 := F.typeCall_set_1 (.ref l)
  have m7 := F.called_set.init.lookup
  have m8 := F.called_set.init.bind (.ref s.heap.objs.size)
  refine wpAny_call (codeAny_of_tree ?_)
  show wpAny _ _ (callAny (.type "set") _) _ _ _
  refine wpAny_pure ⟨Code.quiet_builtin _ (by decide +kernel), codeAny_builtin F.entry_type_call ?_⟩
  rw [Around.under_plain (weight_type_call_type "set" [.ref l] []) rfl]
  repeat (any_goals (first | assumption | wp_step))
  refine codeAny_mono (code_set_led1 (P := P) (w := w) (A := A.in1) (s := s) (E := E) (.ref l) (Q₁ := fun v z => v = .ref s.heap.objs.size ∧ z = { s with heap := s.heap.push (freshSet w) }) ⟨rfl, rfl⟩) fun r z hr => ?_
  match r, hr with
  | .error e, hr => exact hr
  | .ok (.ret v), ⟨e1, e2⟩ =>
    subst e1; subst e2
    repeat (any_goals (first | assumption | wp_step))
    refine codeAny_mono (codeAny_call_builtin (R := wants (fun v z => v = .none ∧ ∃ h' tk c, z = { s with heap := h', toks := tk } ∧ SetR w h' s.heap.objs.size (fun j => decide (j ∈ ns)) c ∧ c ≤ ns.length ∧ (∀ b o, s.heap.get? b = some o → h'.get? b = some o)) E) F.called_set.init.plain F.entry_set_init (check_set_init_1 ty0 ?_)) fun r z hr => ?_
    · obtain ⟨⟨k1, k2, k3, k4⟩, hol, rfl, nl, rfl⟩ := hl
      have at1 := Heap.get?_push_of_some (freshSet w) hol
      have b1 := F.sub_list_set
      have b2 := F.sub_list_frozenset
      have b3 : (Value.type "list" == Value.type "dict") = false := by decide
      have hl0 : s.heap.IsList l items := ⟨_, hol, rfl, nl, rfl⟩
      have hl1 : (s.heap.push (freshSet w)).IsList l items := ⟨_, at1, rfl, nl, rfl⟩
      unfold Builtin.«set.__init__» noKeywords Builtin.Frozenset.updateFrom
      generalize hPI : pyIter = PI
      wp_walk
      subst hPI
      refine wpAny_pyIter_list hl1 (wpAny_bind (wpAny_runValue ?_))
      have esz : (s.heap.push (freshSet w)).objs.size = s.heap.objs.size + 1 := Heap.size_push ..
      show codeAny _ _ (.builtin "set.update.loop" ⟨[.ref s.heap.objs.size, .ref (s.heap.push (freshSet w)).objs.size], []⟩) _ _
      rw [esz]
      refine set_fill (A := A.in1.in1) ns (by simp [hh]) hl0 hit hb fun h' tk c q1 q2 q3 => ?_
      show wpAny _ _ _ _ _ _
      refine wpAny_pure ?_
      show wpAny _ _ (ret Value.none) _ _ _
      exact wpAny_pure ⟨rfl, h', tk, c, rfl, q1, q2, q3⟩
    · match r, hr with
      | .error e, hr => exact hr
      | .ok (.ret v), ⟨e1, h', tk, c, e2, q1, q2, q3⟩ =>
        subst e1; subst e2
        repeat (any_goals (first | assumption | wp_step))
        exact h _ _ _ q1 q2 q3
end
end VL
namespace VL
open PySem L2
variable [TB : Tbs]
/-! ### the distinct ones of a list, sorted -/
def insU (T : List Int) (x : Int) : List Int := if x ∈ T then T else T ++ [x]
def setI (ns : List Int) : List Int := sortI (ns.foldl insU [])
theorem insU_mem {y : Int} : ∀ {ns T : List Int}, y ∈ ns.foldl insU T ↔ y ∈ T ∨ y ∈ ns
  | [], T => by simp
  | x :: ns, T => by
    rw [List.foldl_cons, insU_mem]
    unfold insU
    split
    · next h =>
      rw [List.mem_cons]
      constructor
      · rintro (h1 | h1)
        · exact .inl h1
        · exact .inr (.inr h1)
      · rintro (h1 | h1 | h1)
        · exact .inl h1
        · exact .inl (h1 ▸ h)
        · exact .inr h1
    · simp [or_assoc]
theorem insU_nd : ∀ {ns T : List Int}, T.Nodup → (ns.foldl insU T).Nodup
  | [], T, h => h
  | x :: ns, T, h => by
    rw [List.foldl_cons]
    refine insU_nd ?_
    unfold insU
    split
    · exact h
    · next hx => exact List.nodup_append.mpr ⟨h, by simp, by rintro a ha b hb rfl; simp at hb; exact hx (hb ▸ ha)⟩
theorem insU_len : ∀ {ns T : List Int}, (ns.foldl insU T).length ≤ T.length + ns.length
  | [], T => by simp
  | x :: ns, T => by
    rw [List.foldl_cons]
    have h1 := insU_len (ns := ns) (T := insU T x)
    have h2 : (insU T x).length ≤ T.length + 1 := by unfold insU; split <;> simp
    rw [List.length_cons]; omega
theorem setI_mem {y : Int} {ns : List Int} : y ∈ setI ns ↔ y ∈ ns := by
  unfold setI
  rw [sortI_mem, insU_mem]
  simp
theorem setI_nd (ns : List Int) : (setI ns).Nodup := (sortI_perm _).nodup_iff.mpr (insU_nd .nil)
theorem setI_up (ns : List Int) : (setI ns).Pairwise (· < ·) := by
  have h1 := sortI_le (ns.foldl insU [])
  have h2 := setI_nd ns
  exact (List.pairwise_and_iff.mpr ⟨h1, h2⟩).imp fun ⟨a, b⟩ => by omega
theorem setI_len (ns : List Int) : (setI ns).length ≤ ns.length := by
  unfold setI
  rw [sortI_len]
  have := insU_len (ns := ns) (T := [])
  simpa using this
theorem setI_id {ns : List Int} (h : ns.Nodup) : setI ns = sortI ns := by
  unfold setI
  congr 1
  have : ∀ (ns T : List Int), (T ++ ns).Nodup → ns.foldl insU T = T ++ ns := by
    intro ns
    induction ns with
    | nil => intro T _; simp
    | cons x ns ih =>
      intro T h
      rw [List.foldl_cons]
      have hx : x ∉ T := fun hm => by
        rw [List.nodup_append] at h
        exact h.2.2 x hm x (by simp) rfl
      have e : insU T x = T ++ [x] := if_neg hx
      rw [e, ih (T ++ [x]) (by simpa using h)]
      simp
  simpa using this ns [] (by simpa using h)
theorem setR_len {w : World} {h : Heap} {a : Addr} {ns : List Int} {c : Nat} (R : L2.SetR w h a (fun j => decide (j ∈ ns)) c) : c = (setI ns).length := by
  obtain ⟨o, es, ep, t, _, _, _, _, nd, hm, _, _, hn, _⟩ := R
  have p : (es.toList.map L2.keyOf).Perm (setI ns) := (List.perm_ext_iff_of_nodup nd (setI_nd ns)).mpr fun k => by
    rw [setI_mem, ← hm k]; simp
  have := p.length_eq
  rw [List.length_map, Array.length_toList] at this
  omega
/-! ### set(xs) -/
def rSetOf (K : PySem.W.Frag) (w : World) : List V → Hp → VK → Prop := fun vs H Q => ∃ (a : Addr) (ns : List Int), vs = [V.ref a] ∧ (SqL K H a (ns.map V.int) ∨ SqT K H a (ns.map V.int)) ∧ ns.length ≤ 4000 ∧
  ∀ p, H p = none → Q (.ref p) (upd H p (L2.SetO w p (fun j => decide (j ∈ ns)) (setI ns).length))
section
variable {X : Cx} {W : WX} {e : Expr} {te : TE} {me : ME} {p p2 q pos : Pos}
theorem ints_are : ∀ {ns : List Int} {us : List Value}, Vals (ns.map V.int) us → PyProof.Rows.IntsAre us ns
  | [], _, .nil => .nil
  | n :: ns, _, .cons ⟨k, e⟩ t => by rw [e]; exact .cons n k (ints_are t)
theorem cr_setOf (hc : X.calm = true) : CallR X (.type "set") (rSetOf X.K X.w) := by
  intro pins s σ H xs us Q I r h
  obtain ⟨a, ns, rfl, hq, hl, k⟩ := h
  have sb : ns.length + 1 < scanBound := by unfold scanBound; omega
  rw [Vals.ref1 r]
  rcases hq with hq | hq
  · obtain ⟨its, rv, pl, _⟩ := I.list hq
    refine set_of_list ns (I.ok.hd hc) pl.isList (by simpa using ints_are rv) sb fun h' tk c R _ hk => ?_
    have hn : H s.heap.objs.size = none := I.hok.fresh (Nat.le_refl _)
    rw [setR_len R] at R
    exact ⟨.ref _, _, I.laid (t' := tk) hk (Nat.le_refl _) (L2.setO_new R), rfl, k _ hn⟩
  · obtain ⟨its, rv, pl, _⟩ := I.tuple hq
    refine L2.call_set_tupI ns (I.ok.hd hc) pl (by simpa using ints_are rv) sb fun h' tk c R _ hk => ?_
    have hn : H s.heap.objs.size = none := I.hok.fresh (Nat.le_refl _)
    rw [setR_len R] at R
    exact ⟨.ref _, _, I.laid (t' := tk) hk (Nat.le_refl _) (L2.setO_new R), rfl, k _ hn⟩
/-! ### len of a set -/
def rLenS (w : World) : List V → Hp → VK → Prop := fun vs H Q => ∃ (a : Addr) (S : Int → Bool) (n : Nat), vs = [V.ref a] ∧ H a = some (L2.SetO w a S n) ∧ Q (.int n) H
theorem cr_lenS : CallR X (.builtin "len") (rLenS X.w) := by
  intro pins s σ H xs us Q I r h
  obtain ⟨a, S, n, rfl, ha, k⟩ := h
  rw [Vals.ref1 r]
  obtain ⟨o, es, ep, t, h1, h2, h3, _, _, _, h4, h5, h6, _⟩ := L2.setO_get I ha
  refine call_len_set h1 h2 h3 h5 (by unfold scanBound at h4; omega) ?_
  exact ⟨.int n, H, I.tok _, ⟨_, by rw [h6]⟩, k⟩
/-! ### as expressions -/
abbrev tSetOf (K : PySem.W.Frag) (w : World) (te : TE) : TE := tCB (rSetOf K w) (tCons te tNil)
noncomputable def intsOf (c : Cell) (m : Nat) : Option (List Int) := if c.flat = true then (match c.d.items with
  | some ds => (match D.intA ds with
    | some ns => if dB (ns.length ≤ m) = true then some ns else none
    | none => none)
  | none => none) else none
noncomputable def mLenSet (e : ME) : ME := fun ρ => (e ρ).bind fun c => match intsOf c 4000 with
  | some ns => .ok (sh (.int (setI ns).length))
  | none => .bad
noncomputable def mSortSet (e : ME) : ME := fun ρ => (e ρ).bind fun c => match intsOf c 60 with
  | some ns => .ok (own 1 (.lst ((setI ns).map D.int)))
  | none => .bad
theorem intsOf_of {c : Cell} {m : Nat} {ns : List Int} (h : intsOf c m = some ns) : c.flat = true ∧ c.d.items = some (ns.map D.int) ∧ ns.length ≤ m := by
  unfold intsOf at h
  split at h
  · next h1 =>
    split at h
    · next ds h2 =>
      split at h
      · next ns' h3 =>
        split at h
        · next h4 =>
          cases h
          rw [dB_iff] at h4
          exact ⟨h1, by rw [h2, intA_of h3], h4⟩
        · cases h
      · cases h
    · cases h
  · cases h
theorem sha_ints {K : PySem.W.Frag} {S : Hp} : ∀ ys : List Int, ShA K S (ys.map V.int) (ys.map D.int)
  | [] => .nil
  | y :: ys => .cons (.int y) (sha_ints ys)
theorem set_at {K : PySem.W.Frag} {S Hh : Hp} {Fl F : Hl} {c : Cell} {v : V} {tc : List Cell} {tv : List V} {m : Nat} {ns : List Int} (r : Rel K S Fl F Hh (c :: tc) (v :: tv)) (h : intsOf c m = some ns) :
    ∃ S' a, Same S S' ∧ v = .ref a ∧ (SqL K Hh a (ns.map V.int) ∨ SqT K Hh a (ns.map V.int)) ∧ Rel K S' Fl F Hh tc tv := by
  obtain ⟨h1, h2, h3⟩ := intsOf_of h
  obtain ⟨S', a, vs, g1, g2, g3, g4, g5, g6⟩ := r.items h2 h1
  have e := g4.ints
  subst e
  refine ⟨S', a, g1, g2, ?_, g6⟩
  unfold SeqP at g3
  split at g3
  · exact .inl g3
  · exact .inr g3
  · exact g3.elim
theorem em_lenSet (hc : X.calm = true) (hg : Gl X "len") (hm : X.mg "len" = none) (hg2 : Gl X "set") (hm2 : X.mg "set" = none) (he : EM X W e te me)
    (na : starEach [e] X.env = (false, eval e X.env) :: starEach [] X.env := by rfl) (nb : starEach [.Call (.Name "set" p2) [e] [] q] X.env = (false, eval (.Call (.Name "set" p2) [e] [] q) X.env) :: starEach [] X.env := by rfl)
    (pa : (backTo q (starEach [] X.env)).any (·.1) = false := by rfl) (pb : (backTo pos (starEach [] X.env)).any (·.1) = false := by rfl) :
    EM X W (.Call (.Name "len" p) [.Call (.Name "set" p2) [e] [] q] [] pos) (tCB (rLenS X.w) (tCons (tSetOf X.K X.w te) tNil)) (mLenSet me) := by
  obtain ⟨e1, e2⟩ := he
  refine ⟨pe_callB cr_lenS hg hm (by decide +kernel) (pa_cons (pe_callTy (cr_setOf hc) hg2 hm2 (by decide +kernel) (pa_cons e1 pa_nil na) (by decide) (by decide) na pa) pa_nil nb) (by decide) (by decide) nb pb, ?_⟩
  intro ρ Q XQ w S Fl F H σ tc tv Q' ev r k kx
  simp only [we_, mLenSet, wR_bind] at w
  refine e2 ρ _ XQ w S Fl F H σ tc tv _ ev r (fun c v S1 H1 q1 s1 r1 => ?_) kx
  split at q1
  · next ns hns =>
    obtain ⟨S2, a, s2, rfl, hq, r2⟩ := set_at r1 hns
    refine ⟨a, ns, rfl, hq, (intsOf_of hns).2.2, fun p0 hp0 => ?_⟩
    obtain ⟨r3, s3⟩ := r2.laid (o := L2.SetO X.w p0 (fun j => decide (j ∈ ns)) (setI ns).length) hp0
    exact ⟨p0, _, _, rfl, upd_same, k _ _ _ _ q1 ((s1.trans s2).trans s3) (r3.push (.int _))⟩
  · exact q1.elim
theorem em_sortSet (hc : X.calm = true) (hg : Gl X "sorted") (hm : X.mg "sorted" = none) (hg2 : Gl X "set") (hm2 : X.mg "set" = none) (he : EM X W e te me)
    (na : starEach [e] X.env = (false, eval e X.env) :: starEach [] X.env := by rfl) (nb : starEach [.Call (.Name "set" p2) [e] [] q] X.env = (false, eval (.Call (.Name "set" p2) [e] [] q) X.env) :: starEach [] X.env := by rfl)
    (pa : (backTo q (starEach [] X.env)).any (·.1) = false := by rfl) (pb : (backTo pos (starEach [] X.env)).any (·.1) = false := by rfl) :
    EM X W (.Call (.Name "sorted" p) [.Call (.Name "set" p2) [e] [] q] [] pos) (tCB (L2.rSortedSet X.w) (tCons (tSetOf X.K X.w te) tNil)) (mSortSet me) := by
  obtain ⟨e1, e2⟩ := he
  refine ⟨pe_callB (L2.cr_sortedSet hc) hg hm (by decide +kernel) (pa_cons (pe_callTy (cr_setOf hc) hg2 hm2 (by decide +kernel) (pa_cons e1 pa_nil na) (by decide) (by decide) na pa) pa_nil nb) (by decide) (by decide) nb pb, ?_⟩
  intro ρ Q XQ w S Fl F H σ tc tv Q' ev r k kx
  simp only [we_, mSortSet, wR_bind] at w
  refine e2 ρ _ XQ w S Fl F H σ tc tv _ ev r (fun c v S1 H1 q1 s1 r1 => ?_) kx
  split at q1
  · next ns hns =>
    obtain ⟨S2, a, s2, rfl, hq, r2⟩ := set_at r1 hns
    have h3 := (intsOf_of hns).2.2
    refine ⟨a, ns, rfl, hq, by omega, fun p0 hp0 => ?_⟩
    obtain ⟨r3, s3⟩ := r2.laid (o := L2.SetO X.w p0 (fun j => decide (j ∈ ns)) (setI ns).length) hp0
    have hl := setI_len ns
    refine ⟨p0, _, _, rfl, upd_same, by omega, fun xs p1 hu hx hn hp1 => ?_⟩
    have ex : xs = setI ns := up_uniq hu (setI_up ns) fun a => by rw [hx a, setI_mem]; simp
    subst ex
    refine k _ _ _ _ q1 ((s1.trans s2).trans s3) (r3.mkL hp1 ?_ (by rw [List.length_map, sizeLine_eq]; omega))
    exact sha_ints _
  · exact q1.elim
end
/-! evaluation -/
theorem x_lenSet (e : ME) (ρ : Env) : mLenSet e ρ = (e ρ).bind fun c => match intsOf c 4000 with
  | some ns => .ok (sh (.int (setI ns).length))
  | none => .bad := id rfl
theorem x_sortSet (e : ME) (ρ : Env) : mSortSet e ρ = (e ρ).bind fun c => match intsOf c 60 with
  | some ns => .ok (own 1 (.lst ((setI ns).map D.int)))
  | none => .bad := id rfl
theorem intsOf_l (b : Bm) (n m : Nat) (ns : List Int) (h : n ≤ 1) (h2 : ns.length ≤ m) : intsOf ⟨b, n, .lst (ns.map D.int)⟩ m = some ns := by
  unfold intsOf
  rw [if_pos (flat_le b n _ h)]
  simp only [D.items, intA_map]
  rw [if_pos ((dB_iff _).mpr h2)]
theorem intsOf_t (b : Bm) (n m : Nat) (ns : List Int) (h : n ≤ 1) (h2 : ns.length ≤ m) : intsOf ⟨b, n, .tup (ns.map D.int)⟩ m = some ns := by
  unfold intsOf
  rw [if_pos (flat_le b n _ h)]
  simp only [D.items, intA_map]
  rw [if_pos ((dB_iff _).mpr h2)]
theorem intsOf_lln (n m : Nat) (ns : List Int) (h : n ≤ 1) (h2 : ns.length ≤ m) : intsOf (ln n (.lst (ns.map D.int))) m = some ns := by
  unfold intsOf
  rw [if_pos (flat_ln n _ h), ln_d]
  simp only [D.items, intA_map]
  rw [if_pos ((dB_iff _).mpr h2)]
theorem intsOf_tln (n m : Nat) (ns : List Int) (h : n ≤ 1) (h2 : ns.length ≤ m) : intsOf (ln n (.tup (ns.map D.int))) m = some ns := by
  unfold intsOf
  rw [if_pos (flat_ln n _ h), ln_d]
  simp only [D.items, intA_map]
  rw [if_pos ((dB_iff _).mpr h2)]
theorem intsOf_cf {α : Type} (b : Bm) (n m : Nat) (f : α → Int) (xs : List α) (h : n ≤ 1) (h2 : xs.length ≤ m) : intsOf ⟨b, n, .lst (xs.map (D.int ∘ f))⟩ m = some (xs.map f) := by
  have := intsOf_l b n m (xs.map f) h (by rw [List.length_map]; exact h2)
  rwa [List.map_map] at this
end VL
set_option maxRecDepth 100000
/-! WZ: int(..) of an int or a truth; what a dict holds behind a store. -/
namespace VL
open PySem L2
variable [TB : Tbs]
def intSM : MC := fun cs => match cs with
  | [x] => (match x.d with | .int i => some (sh (.int i)) | .bl k => some (sh (.int (if k then 1 else 0))) | _ => none)
  | _ => none
def cIntS : WF := fun cs Q => (∃ c i, cs = [c] ∧ c.d = .int i ∧ Q (sh (.int i))) ∨ ∃ c k, cs = [c] ∧ c.d = .bl k ∧ Q (sh (.int (if k then 1 else 0)))
theorem ok_intS {K : PySem.W.Frag} : CallOk K (fun xs H Q => (∃ i, xs = [.int i] ∧ Q (.int i) H) ∨ ∃ k, xs = [.bl k] ∧ Q (.int (if k then 1 else 0)) H) cIntS := by
  rintro cs Q (⟨c, i, rfl, hi, q⟩ | ⟨c, i, rfl, hi, q⟩) S Fl F H vs tc tv Q' hl r k
  · obtain ⟨v, rfl⟩ := vs1 hl rfl
    have a := r.sh
    rw [hi] at a
    exact .inl ⟨i, by rw [a.intE], k _ _ S H q (Same.refl S) (r.tail.push (.int _))⟩
  · obtain ⟨v, rfl⟩ := vs1 hl rfl
    have a := r.sh
    rw [hi] at a
    exact .inr ⟨i, by rw [a.blE], k _ _ S H q (Same.refl S) (r.tail.push (.int _))⟩
theorem cm_intS {K : PySem.W.Frag} : CbM K (fun xs H Q => (∃ i, xs = [.int i] ∧ Q (.int i) H) ∨ ∃ k, xs = [.bl k] ∧ Q (.int (if k then 1 else 0)) H) intSM := ⟨_, ok_intS, fun cs c h Q q => by
  unfold intSM at h
  split at h
  · split at h
    · next e1 => cases h; exact .inl ⟨_, _, rfl, e1, q⟩
    · next e1 => cases h; exact .inr ⟨_, _, rfl, e1, q⟩
    · cases h
  · cases h⟩
theorem ints_t : (if true = true then (1 : Int) else 0) = 1 := rfl
theorem ints_f : (if false = true then (1 : Int) else 0) = 0 := rfl
theorem dPut_len {κ : Type} [DecidableEq κ] (es : List (κ × D)) (k : κ) (d : D) : (dPut es k d).length ≤ es.length + 1 := by
  unfold dPut
  split
  · rw [List.length_map]; omega
  · simp
theorem look_put {κ : Type} [DecidableEq κ] (es : List (κ × D)) (k k' : κ) (d : D) : dLook (dPut es k d) k' = if k' = k then some d else dLook es k' := by
  unfold dLook dPut
  by_cases ha : (es.any fun e => decide (e.1 = k)) = true
  · rw [if_pos ha]
    induction es with
    | nil => cases ha
    | cons x es ih =>
      rw [List.map_cons, List.find?_cons, List.find?_cons]
      by_cases hx : x.1 = k
      · simp only [hx, if_true]
        by_cases hk : k = k'
        · subst hk; simp
        · have hk2 : ¬ k' = k := fun e => hk e.symm
          simp only [hk, hk2, decide_false, if_false]
          by_cases hb : (es.any fun e => decide (e.1 = k)) = true
          · have := ih hb
            simp only [hk2, if_false] at this
            exact this
          · have hz : es.map (fun e => if e.1 = k then (e.1, d) else e) = es := by
              rw [List.map_congr_left (g := id), List.map_id]
              intro y hy
              have : ¬ y.1 = k := fun e => hb (List.any_eq_true.mpr ⟨y, hy, decide_eq_true e⟩)
              simp [this]
            rw [hz]
      · have hb : (es.any fun e => decide (e.1 = k)) = true := by
          rw [List.any_cons] at ha
          simpa [hx] using ha
        simp only [hx, if_false]
        by_cases hk : x.1 = k'
        · have hk2 : ¬ k' = k := fun e => hx (hk.trans e)
          simp [hk, hk2]
        · simp only [hk, decide_false]
          exact ih hb
  · rw [if_neg ha]
    rw [List.find?_append]
    by_cases hk : k' = k
    · subst hk
      have hn : es.find? (fun e => decide (e.1 = k')) = none := by
        rw [List.find?_eq_none]
        intro y hy hy2
        exact ha (List.any_eq_true.mpr ⟨y, hy, hy2⟩)
      simp [hn]
    · have hk2 : ¬ k = k' := fun e => hk e.symm
      simp only [List.find?_cons, hk2, decide_false, List.find?_nil, Option.or_none, hk, if_false]
theorem look_nil {κ : Type} [DecidableEq κ] (k : κ) : dLook ([] : List (κ × D)) k = none := rfl
theorem units65 {k : Nat} {A : Around} (r : Room k A) : A.units + 65 < cLine := by have := r.un; omega
end VL
set_option maxRecDepth 100000
/-! XE: str(..) of an int or a text. -/
namespace VL
open PySem L2
variable [TB : Tbs]
def strM : MC := fun cs => match cs with
  | [x] => (match x.d with | .int i => if i.natAbs.log2 < 1920 then some (sh (.str (toString i))) else none | _ => none)
  | _ => none
def cStrI : WF := fun cs Q => ∃ c i, cs = [c] ∧ c.d = .int i ∧ i.natAbs.log2 < 1920 ∧ Q (sh (.str (toString i)))
theorem ok_strI {K : PySem.W.Frag} : CallOk K (fun xs H Q => ∃ i, xs = [.int i] ∧ i.natAbs.log2 < 1920 ∧ Q (.str (toString i)) H) cStrI := by
  rintro cs Q ⟨c, i, rfl, hi, hz, q⟩ S Fl F H vs tc tv Q' hl r k
  obtain ⟨v, rfl⟩ := vs1 hl rfl
  have a := r.sh
  rw [hi] at a
  exact ⟨i, by rw [a.intE], hz, k _ _ S H q (Same.refl S) (r.tail.push (.str _))⟩
theorem cm_strI {K : PySem.W.Frag} : CbM K (fun xs H Q => ∃ i, xs = [.int i] ∧ i.natAbs.log2 < 1920 ∧ Q (.str (toString i)) H) strM := ⟨_, ok_strI, fun cs c h Q q => by
  unfold strM at h
  split at h
  · split at h
    · next e1 => split at h <;> first | (next e2 => cases h; exact ⟨_, _, rfl, e1, e2, q⟩) | cases h
    · cases h
  · cases h⟩
theorem log_small {i : Int} (h : i.natAbs < 2 ^ 100) : i.natAbs.log2 < 1920 := by
  by_cases h4 : i.natAbs = 0
  · rw [h4]; decide
  · have := (Nat.log2_lt h4).mpr h
    omega
end VL
set_option maxRecDepth 100000
/-! XF: effects in displays, in tests, in comprehensions. -/
namespace VL
open PySem L2
variable [TB : Tbs]
/-! ### slots that agree -/
section
variable {K : PySem.W.Frag} {mg : Str → Option Value} {W : WX} {S : Hp} {F : Hl} {A : Nat → V}
theorem Slots.agree {ρ : Env} : ∀ {σ : St} {L : Hl}, Slots K S F A ρ σ L → ∀ σ' : St, σ'.length = σ.length → (∀ (i : Nat) (c : Cell), ρ[i]? = some (some c) → σ'[i]? = σ[i]?) → Slots K S F A ρ σ' L := by
  intro σ L h
  induction h with
  | nil => intro σ' hl _; rw [List.eq_nil_of_length_eq_zero hl]; exact .nil
  | no t ih =>
    intro σ' hl ha
    cases σ' with
    | nil => cases hl
    | cons x σ' => exact .no (ih σ' (by simpa using hl) fun i c e => by simpa using ha (i + 1) c (by simpa using e))
  | yes a g t ih =>
    intro σ' hl ha
    cases σ' with
    | nil => cases hl
    | cons x σ' =>
      have h0 := ha 0 _ rfl
      simp at h0
      subst h0
      exact .yes a g (ih σ' (by simpa using hl) fun i c e => by simpa using ha (i + 1) c (by simpa using e))
theorem wipeE_not {ρ : Env} {i : Nat} {c : Cell} : ∀ ow : List Nat, (wipeE ρ ow)[i]? = some (some c) → i ∉ ow
  | [], _ => by simp
  | v :: vs, h => by
    have h1 : ((wipeE ρ vs).set v none)[i]? = some (some c) := h
    by_cases hv : v = i
    · subst hv
      by_cases hi : v < (wipeE ρ vs).length
      · rw [List.getElem?_set_self hi] at h1; cases h1
      · rw [List.getElem?_eq_none (by simpa using hi)] at h1; cases h1
    · rw [List.getElem?_set_ne hv] at h1
      intro hm
      rcases List.mem_cons.mp hm with rfl | hm
      · exact hv rfl
      · exact wipeE_not vs h1 hm
theorem wipe_at {σ : St} {i : Nat} : ∀ ow : List Nat, i ∉ ow → (_root_.L2.wipe σ ow)[i]? = σ[i]?
  | [], _ => rfl
  | v :: vs, h => by
    show ((_root_.L2.wipe σ vs).set v none)[i]? = _
    rw [List.getElem?_set_ne (fun e : v = i => h (by rw [e]; exact List.mem_cons_self))]
    exact wipe_at vs fun e => h (List.mem_cons_of_mem _ e)
theorem wipe_len {σ : St} : ∀ ow : List Nat, (_root_.L2.wipe σ ow).length = σ.length
  | [] => rfl
  | v :: vs => by
    show ((_root_.L2.wipe σ vs).set v none).length = _
    rw [List.length_set]; exact wipe_len vs
theorem Slots.into {ρ : Env} {σ : St} {L : Hl} {ow : List Nat} (h : Slots K S F A (wipeE ρ ow) σ L) : Slots K S F A (wipeE ρ ow) (_root_.L2.wipe σ ow) L :=
  h.agree _ (wipe_len ow) fun _ _ e => wipe_at ow (wipeE_not ow e)
theorem Slots.back {ρ : Env} {σ : St} {x : Option V} {j : Nat} {L : Hl} {ow : List Nat} (hj : j ∈ ow) (h : Slots K S F A (wipeE ρ ow) ((_root_.L2.wipe σ ow).set j x) L) : Slots K S F A (wipeE ρ ow) σ L :=
  h.agree _ (by rw [List.length_set, wipe_len]) fun i c e => by
    have hn := wipeE_not ow e
    rw [List.getElem?_set_ne (fun z : j = i => hn (by rw [← z]; exact hj)), wipe_at ow hn]
/-! ### tests -/
abbrev MFT := Env → RF Bool
def FTOk (K : PySem.W.Frag) (mg : Str → Option Value) (W : WX) (t : TT) (m : MFT) : Prop := ∀ ρ S F A H σ Le M Q', σ.length = ρ.length → Slots K S F A ρ σ Le → HRel S (M ++ (Le ++ F)) H → match m ρ with
  | .ok b ρ' => (∀ S' H' Le', σ.length = ρ'.length → Same S S' → Slots K S' F A ρ' σ Le' → HRel S' (M ++ (Le' ++ F)) H' → Q' b H') → t σ H Q'
  | .ex x ρ' => XF_ K mg W S F A σ x ρ' → t σ H Q'
  | .bad => True
def ftPure (m : MT) : MFT := fun ρ => match m ρ with
  | .ok b => .ok b ρ
  | .ex x => .ex x ρ
  | .bad => .bad
theorem ft_pure_s {t : TT} {m : MT} (h : TestOk K mg W t (we_ m)) : FTOk K mg W t (ftPure m) := by
  intro ρ S F A H σ Le M Q' hl sl hr
  unfold ftPure
  have hr' : HRel S ([] ++ ((M ++ Le) ++ F)) H := by rw [List.nil_append, List.append_assoc]; exact hr
  have ev : EnvV K S (M ++ Le) F ρ σ := sl.view (List.sublist_append_right M Le)
  cases hm : m ρ with
  | ok c =>
    intro k
    refine h ρ (fun c' => c' = c) (fun _ => False) (by simp only [we_]; rw [hm]; rfl) S (M ++ Le) F H σ [] [] Q' ev ⟨[], .nil, hr'⟩ (fun c' S1 H1 q e1 r1 => ?_) (fun x cls d S' H' hx => hx.elim)
    subst q
    obtain ⟨L, t1, hr1⟩ := r1
    cases t1
    exact k S1 H1 Le hl e1 (sl.ex e1) (by rw [List.nil_append, List.append_assoc] at hr1; exact hr1)
  | ex x =>
    intro k
    refine h ρ (fun _ => False) (fun y => y = x) (by simp only [we_]; rw [hm]; rfl) S (M ++ Le) F H σ [] [] Q' ev ⟨[], .nil, hr'⟩ (fun _ _ _ q => q.elim) (fun y cls d S1 H1 hy e1 ex hr1 => ?_)
    subst hy
    exact k cls d S1 H1 hl e1 ex ⟨Le, sl.ex e1, hr1.sub (by rw [List.append_assoc]; exact List.sublist_append_right _ _)⟩
  | bad => trivial
/-! ### comprehensions -/
def lcF (n : Nat) (ow : List Nat) (g : MG) (t : MFT) (e : MF) : List Cell → Env → RF (List D)
  | [], ρ => .ok [] (wipeE ρ ow)
  | x :: xs, ρ => match g x (wipeE ρ ow) with
    | none => .bad
    | some ρ1 => match t ρ1 with
      | .ok true ρ2 => (match e ρ2 with
        | .ok c ρ3 => if c.fits n = true then (lcF n ow g t e xs (wipeE ρ3 ow)).bind fun ds ρ4 => .ok (c.d :: ds) ρ4 else .bad
        | _ => .bad)
      | .ok false ρ2 => lcF n ow g t e xs (wipeE ρ2 ow)
      | _ => .bad
def fLc (n : Nat) (it : MI) (g : MG) (t : MFT) (e : MF) (ow : List Nat) : MF := fun ρ => match it ρ with
  | .ok p => if p.1 = true ∧ p.2.length < sizeLine then (lcF n ow g t e p.2 ρ).bind fun ds ρ' => .ok (own (n + 1) (.lst ds)) ρ' else .bad
  | .ex x => .ex x ρ
  | .bad => .bad
theorem lcF_noex {n : Nat} {ow : List Nat} {g : MG} {t : MFT} {e : MF} : ∀ (xs : List Cell) (ρ : Env) (x : Exn) (ρ' : Env), lcF n ow g t e xs ρ ≠ .ex x ρ'
  | [], ρ, x, ρ' => by rw [lcF]; intro h; cases h
  | y :: xs, ρ, x, ρ' => by
    intro h
    rw [lcF] at h
    cases hg : g y (wipeE ρ ow) with
    | none => rw [hg] at h; cases h
    | some ρ1 =>
      rw [hg] at h
      simp only at h
      cases ht : t ρ1 with
      | bad => rw [ht] at h; cases h
      | ex _ _ => rw [ht] at h; cases h
      | ok b ρ2 =>
        rw [ht] at h
        cases b with
        | false => exact lcF_noex xs _ x ρ' h
        | true =>
          simp only at h
          cases he : e ρ2 with
          | bad => rw [he] at h; cases h
          | ex _ _ => rw [he] at h; cases h
          | ok c ρ3 =>
            rw [he] at h
            simp only at h
            split at h
            · cases hr : lcF n ow g t e xs (wipeE ρ3 ow) with
              | ok a b => rw [hr] at h; cases h
              | ex a b => exact lcF_noex xs _ a b hr
              | bad => rw [hr] at h; cases h
            · cases h
theorem lcF_sound {n j : Nat} {ti : TI} {it : MI} {tt : TT} {mt : MFT} {te : TE} {me : MF} {ow : List Nat} (hi : IterOk K mg W ti (wi_ it)) (hj : j ∈ ow) (ht : FTOk K mg WF0 tt mt) (he : FxOk K mg WF0 te me) :
    FxOk K mg W (tLc ti (gName j) tt te ow) (fLc n it (gmName j) mt me ow) := by
  intro ρ S F A H σ Le M Q' hl sl hr
  have hr' : HRel S ([] ++ ((M ++ Le) ++ F)) H := by rw [List.nil_append, List.append_assoc]; exact hr
  have ev : EnvV K S (M ++ Le) F ρ σ := sl.view (List.sublist_append_right M Le)
  unfold fLc
  cases hit : it ρ with
  | bad => trivial
  | ex x =>
    intro k
    refine hi ρ (fun _ _ => False) (fun y => y = x) (by show wR (it ρ) _ _; rw [hit]; rfl) S (M ++ Le) F H σ [] [] _ ev ⟨[], .nil, hr'⟩ (fun _ _ _ _ _ _ q => q.elim) (fun y cls d S1 H1 hy e1 ex hr1 => ?_)
    subst hy
    exact k cls d S1 H1 hl e1 ex ⟨Le, sl.ex e1, hr1.sub (by rw [List.append_assoc]; exact List.sublist_append_right _ _)⟩
  | ok p =>
    obtain ⟨fl, xs⟩ := p
    simp only
    by_cases hp : fl = true ∧ xs.length < sizeLine
    · rw [if_pos hp]
      obtain ⟨hfl, hz⟩ := hp
      cases hlc : lcF n ow (gmName j) mt me xs ρ with
      | bad => trivial
      | ex x ρ' => exact absurd hlc (lcF_noex _ _ _ _)
      | ok ds ρ' =>
        intro k
        refine hi ρ (fun cs ys => cs.all Cell.noL = true ∧ ys = xs) (fun _ => False) (by show wR (it ρ) _ _; rw [hit]; exact fun cs h => ⟨h hfl, rfl⟩) S (M ++ Le) F H σ [] [] _ ev ⟨[], .nil, hr'⟩ (fun cs vs ys J S1 H1 q e1 r1 tcs wk => ?_) (fun x cls d S' H' hx => hx.elim)
        obtain ⟨hno, rfl⟩ := q
        intro Dl hD
        have tcs0 : Tmp K S1 [] F cs vs [] := tcs.lf2 (by
          rw [List.all_eq_true] at hno ⊢
          intro c hc
          have := hno c hc
          unfold Cell.noL at this
          unfold Cell.nl
          split <;> simp_all)
        let Good := fun (i : Nat) (H' : Hp) => ∃ (S' : Hp) (ρi : Env) (Lei La : Hl) (da rest : List D), Same S1 S' ∧ ρi.length = ρ.length ∧ Slots K S' F A ρi σ Lei ∧ Own K S' (n + 1) (.ref Dl) (.lst da) La ∧ HRel S' (La ++ (M ++ (Lei ++ F))) H' ∧ da.length ≤ i ∧
          lcF n ow (gmName j) mt me (ys.drop i) ρi = .ok rest ρ' ∧ da ++ rest = ds
        refine ⟨fun i m H' => m = ys.length - i ∧ i ≤ ys.length ∧ Good i H', ⟨_, rfl, Nat.zero_le _, S1, ρ, Le, [(Dl, .lst [])], [], ds, Same.refl S1, rfl, sl.ex e1, .lst (Nat.zero_le _) .nil, ?_, Nat.zero_le _, hlc, rfl⟩, ?_⟩
        · obtain ⟨L, t1, hr1⟩ := r1
          cases t1
          rw [List.nil_append, List.append_assoc] at hr1
          exact hr1.lay hD
        rintro i m H' ⟨rfl, hi', S', ρi, Lei, La, da, rest, e2, hρi, sli, oa, hri, hda, hlc2, hdr⟩
        have hri2 : HRel S' ((La ++ (M ++ Lei)) ++ ([] ++ F)) H' := by simpa [List.append_assoc] using hri
        have w := wk i S' [] F _ H' e2 (tcs0.ex e2) hri2
        by_cases hlt : i < ys.length
        · refine .inr ⟨w.1 hlt, fun H2 => Good (i + 1) H2, fun H2 hG => ⟨ys.length - (i + 1), by omega, rfl, hlt, hG⟩, fun x H2 hy => ?_⟩
          obtain ⟨c, S2, hc, e3, hr3, cok⟩ := w.2.2 hlt x H2 hy
          have hdrop : ys.drop i = c :: ys.drop (i + 1) := by
            rw [List.drop_eq_getElem_cons hlt]
            rw [List.getElem?_eq_getElem hlt] at hc
            rw [Option.some.inj hc]
          rw [hdrop, lcF] at hlc2
          obtain ⟨Lw, slw, sub⟩ := (sli.ex e3).wipe ow
          have slw2 := slw.into
          cases hg : gmName j c (wipeE ρi ow) with
          | none => rw [hg] at hlc2; cases hlc2
          | some ρ1 =>
            rw [hg] at hlc2
            simp only at hlc2
            unfold gmName at hg
            split at hg
            · next h5 =>
              obtain ⟨h5, h6⟩ := h5
              cases hg
              obtain ⟨L1, s1, R, p1, p2⟩ := Slots.set cok (Cell.noL_m h6) h5 slw2
              have hr4 : HRel S2 ((La ++ M) ++ (L1 ++ F)) H2 := by
                have h7 : HRel S2 ((La ++ M) ++ (R ++ F)) H2 := by
                  refine hr3.sub ?_
                  rw [List.nil_append]
                  have : ((La ++ M) ++ (R ++ F)).Sublist ((La ++ M) ++ (Lei ++ F)) := (List.Sublist.refl _).append ((p2.trans sub).append (List.Sublist.refl _))
                  simpa [List.append_assoc] using this
                refine h7.perm (List.Perm.append_left _ (List.Perm.append_right _ ?_))
                simpa using p1.symm
              have hl1 : ((_root_.L2.wipe σ ow).set j (some x)).length = ((wipeE ρi ow).set j (some c)).length := by
                rw [List.length_set, List.length_set, wipe_len, wipeE_len, hρi]; exact hl
              refine ⟨by rw [wipe_set hj]; exact wipe_idem ow fun i hi => hi, ?_⟩
              have h8 := ht _ S2 F A H2 _ L1 (La ++ M) (fun b H3 => if b = true then te ((_root_.L2.wipe σ ow).set j (some x)) H3 fun y H4 => ∃ acc, H4 Dl = some (HO.lst acc) ∧ acc.length < sizeLine ∧ Good (i + 1) (upd H4 Dl (HO.lst (acc ++ [y]))) else Good (i + 1) H3) hl1 s1 hr4
              cases hmt : mt ((wipeE ρi ow).set j (some c)) with
              | bad => rw [hmt] at hlc2; cases hlc2
              | ex _ _ => rw [hmt] at hlc2; cases hlc2
              | ok b ρ2 =>
                rw [hmt] at hlc2 h8
                refine h8 fun S3 H3 Le3 l3 e4 sl3 hr5 => ?_
                cases b with
                | false =>
                  refine iteF ?_
                  simp only at hlc2
                  obtain ⟨Lx, slx, subx⟩ := sl3.wipe ow
                  exact ⟨S3, wipeE ρ2 ow, Lx, La, da, rest, (e2.trans e3).trans e4, by rw [wipeE_len, ← l3, hl1, List.length_set, wipeE_len, hρi], slx.back hj, oa.ex (e3.trans e4), by
                    rw [List.append_assoc] at hr5
                    exact hr5.sub ((List.Sublist.refl _).append ((List.Sublist.refl _).append (subx.append (List.Sublist.refl _)))), by omega, hlc2, hdr⟩
                | true =>
                  refine iteT ?_
                  simp only at hlc2
                  have h9 := he ρ2 S3 F A H3 _ Le3 (La ++ M) (fun y H4 => ∃ acc, H4 Dl = some (HO.lst acc) ∧ acc.length < sizeLine ∧ Good (i + 1) (upd H4 Dl (HO.lst (acc ++ [y])))) l3 sl3 hr5
                  cases hme : me ρ2 with
                  | bad => rw [hme] at hlc2; cases hlc2
                  | ex _ _ => rw [hme] at hlc2; cases hlc2
                  | ok c2 ρ3 =>
                    rw [hme] at hlc2 h9
                    simp only at hlc2
                    by_cases hf : c2.fits n = true
                    · rw [if_pos hf] at hlc2
                      cases hrec : lcF n ow (gmName j) mt me (ys.drop (i + 1)) (wipeE ρ3 ow) with
                      | bad => rw [hrec] at hlc2; cases hlc2
                      | ex _ _ => rw [hrec] at hlc2; cases hlc2
                      | ok rest2 ρ4 =>
                        rw [hrec] at hlc2
                        cases hlc2
                        refine h9 fun y S4 H4 Le4 Lc l4 e5 sl4 cy hr6 => ?_
                        have oa4 := oa.ex ((e3.trans e4).trans e5)
                        cases oa4 with
                        | @lst _ _ acc _ L1' hz1 oaa =>
                          have hm := hr6.all (Dl, .lst acc) (List.mem_append_right _ (List.mem_append_left _ (List.mem_append_left _ List.mem_cons_self)))
                          obtain ⟨S5, L', e6, o6, hr7⟩ := store1 (M := []) cy hr6 hf
                          have hal : acc.length < sizeLine := by rw [oaa.length]; omega
                          refine ⟨acc, hm, hal, ?_⟩
                          obtain ⟨Lx, slx, subx⟩ := (sl4.ex e6).wipe ow
                          refine ⟨S5, wipeE ρ3 ow, Lx, (Dl, HO.lst (acc ++ [y])) :: (L1' ++ (L' ++ [])), da ++ [c2.d], rest2, (((e2.trans e3).trans e4).trans e5).trans e6, ?_, slx.back hj, .lst ?_ ((oaa.ex e6).append (.cons o6 .nil)), ?_, ?_, hrec, ?_⟩
                          · rw [wipeE_len, ← l4, hl1, List.length_set, wipeE_len, hρi]
                          · rw [List.length_append]; simp; omega
                          · have h10 : HRel S5 ((Dl, HO.lst acc) :: (L1' ++ (L' ++ (M ++ (Lx ++ F))))) H4 := by
                              have h11 : HRel S5 (L' ++ ((((Dl, HO.lst acc) :: L1') ++ M) ++ (Lx ++ F))) H4 := hr7.sub (by
                                rw [List.nil_append]
                                exact (List.Sublist.refl _).append ((List.Sublist.refl _).append (subx.append (List.Sublist.refl _))))
                              refine h11.perm ?_
                              have := perm_abc L' ((Dl, HO.lst acc) :: L1') (M ++ (Lx ++ F))
                              simpa [List.append_assoc] using this
                            have h12 := h10.put (o' := .lst (acc ++ [y]))
                            simpa [List.append_assoc] using h12
                          · rw [List.length_append]; simp; omega
                          · rw [List.append_assoc]; exact hdr
                    · rw [if_neg hf] at hlc2; cases hlc2
            · cases hg
        · have hi2 : i = ys.length := by omega
          subst hi2
          rw [List.drop_length, lcF] at hlc2
          cases hlc2
          rw [List.append_nil] at hdr
          subst hdr
          obtain ⟨Lx, slx, subx⟩ := sli.wipe ow
          refine .inl ⟨w.2.1 (Nat.le_refl _), k _ S' H' Lx La (by rw [wipeE_len, hρi]; exact hl) (e1.trans e2) slx (.o oa) ?_⟩
          exact hri.sub ((List.Sublist.refl _).append ((List.Sublist.refl _).append (subx.append (List.Sublist.refl _))))
    · rw [if_neg hp]; trivial
end
/-! ### displays -/
section
variable {K : PySem.W.Frag} {mg : Str → Option Value} {W : WX}
def fLst (n : Nat) (a : MFA) : MF := fun ρ => (a ρ).bind fun cs ρ1 => if fitsN n cs = true ∧ cs.length ≤ sizeLine then .ok (own (n + 1) (.lst (cs.map Cell.d))) ρ1 else .bad
def fTup (n : Nat) (a : MFA) : MF := fun ρ => (a ρ).bind fun cs ρ1 => if fitsN n cs = true ∧ cs.length ≤ sizeLine then .ok (tupC n cs) ρ1 else .bad
theorem fx_lst_s {n : Nat} {ta : TA} {a : MFA} (ha : FaOk K mg W ta a) : FxOk K mg W (tLst ta) (fLst n a) := by
  intro ρ S F A H σ Le M Q' hl sl hr
  have h1 := ha ρ S F A H σ Le M (fun vs H1 => vs.length ≤ sizeLine ∧ ∀ p, H1 p = none → Q' (.ref p) (upd H1 p (.lst vs))) hl sl hr
  unfold fLst
  cases hm : a ρ with
  | bad => trivial
  | ex x ρ1 => rw [hm] at h1; exact h1
  | ok cs ρ1 =>
    rw [hm] at h1
    simp only [RF.bind_ok]
    by_cases hc : fitsN n cs = true ∧ cs.length ≤ sizeLine
    · rw [if_pos hc]
      intro k
      refine h1 fun vs S1 H1 Le1 Lc l1 e1 sl1 t1 hr1 => ?_
      have hlv := t1.length
      refine ⟨by rw [← hlv]; exact hc.2, fun p hp => ?_⟩
      obtain ⟨S2, L1, L2, e2, o2, t2, r2⟩ := storeA (n := n) (tc := []) (tv := []) (M := []) hlv (by rw [List.append_nil, List.append_nil]; exact t1) hr1 (fun c hcs => List.all_eq_true.mp hc.1 c hcs)
      cases t2
      refine k _ S2 _ Le1 _ l1 (e1.trans e2) (sl1.ex e2) (.o (.lst (by rw [← hlv]; exact hc.2) o2)) ?_
      have := r2.lay (o := .lst vs) hp
      simpa [List.append_assoc] using this
    · rw [if_neg hc]; trivial
theorem fx_tup_s {n : Nat} {ta : TA} {a : MFA} (ha : FaOk K mg W ta a) : FxOk K mg W (tTup ta) (fTup n a) := by
  intro ρ S F A H σ Le M Q' hl sl hr
  have h1 := ha ρ S F A H σ Le M (fun vs H1 => vs.length ≤ sizeLine ∧ ∀ p, H1 p = none → Q' (.ref p) (upd H1 p (.tup vs))) hl sl hr
  unfold fTup
  cases hm : a ρ with
  | bad => trivial
  | ex x ρ1 => rw [hm] at h1; exact h1
  | ok cs ρ1 =>
    rw [hm] at h1
    simp only [RF.bind_ok]
    by_cases hc : fitsN n cs = true ∧ cs.length ≤ sizeLine
    · rw [if_pos hc]
      intro k
      refine h1 fun vs S1 H1 Le1 Lc l1 e1 sl1 t1 hr1 => ?_
      have hlv := t1.length
      refine ⟨by rw [← hlv]; exact hc.2, fun p hp => ?_⟩
      obtain ⟨S2, L1, L2, e2, o2, t2, r2⟩ := storeA (n := n) (tc := []) (tv := []) (M := []) hlv (by rw [List.append_nil, List.append_nil]; exact t1) hr1 (fun c hcs => List.all_eq_true.mp hc.1 c hcs)
      cases t2
      cases n with
      | zero =>
        obtain ⟨sa, rfl⟩ := o2.to_sh
        have r3 : HRel S2 (M ++ (Le1 ++ F)) H1 := by simpa using r2
        have e3 : Same S2 (upd S2 p (HO.tup vs)) := fun b u e => by rw [upd_ne (ne_of_none e (r3.none_of hp))]; exact e
        exact k _ _ _ Le1 [] l1 ((e1.trans e2).trans e3) (sl1.ex (e2.trans e3)) (.o (.sh (.tup upd_same (sa.ex e3)))) (r3.laid hp)
      | succ n =>
        refine k _ S2 _ Le1 _ l1 (e1.trans e2) (sl1.ex e2) (.o (.tup o2)) ?_
        have := r2.lay (o := .tup vs) hp
        simpa [List.append_assoc] using this
    · rw [if_neg hc]; trivial
end
/-! ### as rules -/
structure FTM (X : Cx) (W : WX) (e : Expr) (t : TT) (m : MFT) : Prop where
  p : PT X e t
  s : FTOk X.K X.mg W t m
structure FTMs (X : Cx) (W : WX) (es : List Expr) (t : TT) (m : MFT) : Prop where
  p : PTs X es t
  s : FTOk X.K X.mg W t m
def asBlF (c : Cell) (ρ : Env) : RF Bool := match c.d with
  | .bl b => .ok b ρ
  | _ => .bad
def ftTst (e : MF) : MFT := fun ρ => (e ρ).bind asBlF
section
variable {X : Cx} {W : WX} {e a b : Expr} {es : List Expr} {te ta tb : TE} {tr : TA} {mr : MFA} {m : ME} {pos : Pos} {tt : TT} {mt : MT} {mft : MFT} {mf : MF}
theorem fm_lst (n : Nat) (h : FAM X W es tr mr) : FM X W (.List es pos) (tLst tr) (fLst n mr) := ⟨pe_lst h.p, fx_lst_s h.s⟩
theorem fm_tup {x1} (n : Nat) (h : FAM X W es tr mr) : FM X W (.Tuple es x1 pos) (tTup tr) (fTup n mr) := ⟨pe_tup h.p, fx_tup_s h.s⟩
theorem ftm_pure (h : TM X W e tt mt) : FTM X W e tt (ftPure mt) := ⟨h.p, ft_pure_s h.s⟩
theorem ftms_nil : FTMs X W [] tYes (ftPure mYes) := ⟨pts_nil, ft_pure_s yes_sound⟩
theorem ftms_one (h : FTM X W e tt mft) : FTMs X W [e] tt mft := ⟨pts_one h.p, h.s⟩
end
section
variable {X : Cx} {W : WX} {elt tg iter : Expr} {ifs : List Expr} {scope : Scope} {ow : List (Str × Nat)} {pos spos : Pos} {ti : TI} {it : MI} {j : Nat} {mt : MFT} {me : MF}
  {tt : Shared → Hp → Addr → List (Str × Addr) → List Addr → TT} {te : Shared → Hp → Addr → List (Str × Addr) → List Addr → TE}
theorem fm_lc (n : Nat) (hc : X.calm = true) (hN : X.N.Nodup) (hi : IM X W tg iter ti it) (ok : BlkOk X.N X.env.scope scope ow)
    (hg : ∀ (s : Shared) (H : Hp) (C : Addr) (cl : List (Str × Addr)) (fp : List Addr), PG (X.blk s H scope (compEnvC scope cl C X.env) fp) tg (gName j))
    (ht : ∀ (s : Shared) (H : Hp) (C : Addr) (cl : List (Str × Addr)) (fp : List Addr), FTMs (X.blk s H scope (compEnvC scope cl C X.env) fp) WF0 ifs (tt s H C cl fp) mt)
    (he : ∀ (s : Shared) (H : Hp) (C : Addr) (cl : List (Str × Addr)) (fp : List Addr), FM (X.blk s H scope (compEnvC scope cl C X.env) fp) WF0 elt (te s H C cl fp) me)
    (hj : j ∈ ow.map (·.2) := by decide)
    (hs : ∀ x, foldedSetIterable iter X.env x = pure x := by intro _; rfl)
    (qt : ∀ (s : Shared) (H : Hp) (C : Addr) (cl : List (Str × Addr)) (fp : List Addr), tt s H C cl fp = tt X.s_0 X.H_0 0 [] [] := by intros; rfl)
    (qe : ∀ (s : Shared) (H : Hp) (C : Addr) (cl : List (Str × Addr)) (fp : List Addr), te s H C cl fp = te X.s_0 X.H_0 0 [] [] := by intros; rfl) :
    FM X W (.ListComp elt [⟨tg, iter, ifs, 0⟩] scope pos) (tLc ti (gName j) (tt X.s_0 X.H_0 0 [] []) (te X.s_0 X.H_0 0 [] []) (ow.map (·.2))) (fLc n it (gmName j) mt me (ow.map (·.2))) :=
  ⟨pe_lc hc hN hi.p ok hg (fun s H C cl fp => qt s H C cl fp ▸ (ht s H C cl fp).p) (fun s H C cl fp => qe s H C cl fp ▸ (he s H C cl fp).p) hs,
    lcF_sound hi.s hj (ht X.s_0 X.H_0 0 [] []).s (he X.s_0 X.H_0 0 [] []).s⟩
end
/-! ### tests over an effect -/
section
variable {K : PySem.W.Frag} {mg : Str → Option Value} {W : WX}
theorem ft_tst_s {t : TE} {m : MF} (h : FxOk K mg W t m) : FTOk K mg W (tTest t) (ftTst m) := by
  intro ρ S F A H σ Le M Q' hl sl hr
  have h1 := h ρ S F A H σ Le M (fun x H' => ∃ k, x = .bl k ∧ Q' k H') hl sl hr
  unfold ftTst
  cases hm : m ρ with
  | bad => trivial
  | ex x ρ1 => rw [hm] at h1; exact h1
  | ok c ρ1 =>
    rw [hm] at h1
    simp only [RF.bind_ok, asBlF]
    cases hc : c.d with
    | bl b =>
      intro k
      refine h1 fun v S1 H1 Le1 Lc l1 e1 sl1 c1 hr1 => ⟨b, ?_, ?_⟩
      · have q := c1.shH (X := []) hr1.sh fun p hp => (hr1.pr p (by
          rcases List.mem_append.mp hp with hp | hp
          · exact List.mem_append_left _ hp
          · exact List.mem_append_right _ (List.mem_append_right _ (List.mem_append_right _ (by simpa using hp))))).1
        rw [hc] at q
        exact q.blE
      · exact k S1 H1 Le1 l1 e1 sl1 (hr1.sub (List.sublist_append_right _ _))
    | _ => trivial
theorem ft_at {t : TT} {m : MFT} {ρ : Env} {S : Hp} {F : Hl} {A : Nat → V} {H : Hp} {σ : St} {D : WEnds} {De : Ends} {k : Bool → Env → SR} {Q' : Bool → Hp → Prop} (h : FTOk K mg W t m) (hw : wSR (ofRF (m ρ) k) D) (hl : σ.length = ρ.length) (r : SRel K S F A H ρ σ) (en : EndsOk K mg W S F A ρ.length D De)
    (q : ∀ b ρ' S' H' Le', wSR (k b ρ') D → σ.length = ρ'.length → Same S S' → Slots K S' F A ρ' σ Le' → HRel S' (Le' ++ F) H' → Q' b H') : t σ H Q' := by
  obtain ⟨Le, sl, hr⟩ := r
  have h1 := h ρ S F A H σ Le [] Q' hl sl hr
  cases hm : m ρ with
  | bad => rw [hm] at hw; exact hw.elim
  | ex x ρ1 =>
    rw [hm] at hw h1
    exact h1 fun cls d S' H' l1 e ex r1 => en.ex x cls d ρ1 σ S' H' hw hl (l1.symm.trans hl) e ex r1
  | ok c ρ1 =>
    rw [hm] at hw h1
    exact h1 fun S' H' Le' l1 e sl1 hr1 => q c ρ1 S' H' Le' hw l1 e sl1 hr1
end
def sIfF (t : MFT) (a b : MS) : MS := fun ρ => ofRF (t ρ) fun x ρ1 => if x = true then a ρ1 else b ρ1
section
variable {X : Cx} {W : WX} {a b c : Expr} {ta tb : TE} {ma mb : MF} {pos : Pos} {r : R2} {mo : MO} {x y : List Stmt} {tc : TT} {mt : MFT} {t t2 : TS} {u v : MS}
theorem ftm_cmp {op : CmpOp} (ho : OpR X (compareOp op) r) (h : OpM X.K r mo) (ha : FM X W a ta ma) (hb : FM X W b tb mb) (hm : behindInMarks op b = false) : FTM X W (.Compare a [op] [b] pos) (tTest (tOp r ta tb)) (ftTst (fOp mo ma mb)) :=
  ⟨pt_cmpR ho ha.p hb.p hm, ft_tst_s (fx_op_s h ha.s hb.s)⟩
theorem sm_ifF (hc : FTM X W c tc mt) (ha : SsM X W x t u) (hb : SsM X W y t2 v) : SM X W (.If c x y pos) (tIfS tc t t2) (sIfF mt u v) := by
  refine ⟨ps_if hc.p ha.p hb.p, ?_⟩
  intro D ρ hw S F A H σ De hl r en
  refine ft_at hc.s hw hl r en fun c ρ1 S' H' Le' hw l1 e sl1 hr1 => ?_
  have hlen : ρ1.length = ρ.length := l1.symm.trans hl
  have en' : EndsOk X.K X.mg W S' F A ρ1.length D De := by rw [hlen]; exact en.up e
  cases c with
  | true => exact iteT (ha.s D ρ1 (by simpa using hw) S' F A H' σ De l1 ⟨Le', sl1, hr1⟩ en')
  | false => exact iteF (hb.s D ρ1 (by simpa using hw) S' F A H' σ De l1 ⟨Le', sl1, hr1⟩ en')
theorem y_ifF (t : MFT) (a b : MS) (ρ : Env) : sIfF t a b ρ = ofRF (t ρ) fun x ρ1 => if x = true then a ρ1 else b ρ1 := rfl
theorem x_fLst (n : Nat) (a : MFA) (ρ : Env) : fLst n a ρ = (a ρ).bind fun cs ρ1 => if fitsN n cs = true ∧ cs.length ≤ sizeLine then .ok (own (n + 1) (.lst (cs.map Cell.d))) ρ1 else .bad := rfl
theorem x_fTup (n : Nat) (a : MFA) (ρ : Env) : fTup n a ρ = (a ρ).bind fun cs ρ1 => if fitsN n cs = true ∧ cs.length ≤ sizeLine then .ok (tupC n cs) ρ1 else .bad := rfl
theorem x_ftTst (e : MF) (ρ : Env) : ftTst e ρ = (e ρ).bind asBlF := rfl
theorem x_asBlF (b : Bool) (ρ : Env) : asBlF (sh (.bl b)) ρ = .ok b ρ := rfl
theorem x_ftYes (ρ : Env) : ftPure mYes ρ = .ok true ρ := rfl
theorem x_fLc (n : Nat) (it : MI) (g : MG) (t : MFT) (e : MF) (ow : List Nat) (ρ : Env) : fLc n it g t e ow ρ = match it ρ with
  | .ok p => if p.1 = true ∧ p.2.length < sizeLine then (lcF n ow g t e p.2 ρ).bind fun ds ρ' => .ok (own (n + 1) (.lst ds)) ρ' else .bad
  | .ex x => .ex x ρ
  | .bad => .bad := rfl
theorem lcF_nil (n : Nat) (ow : List Nat) (g : MG) (t : MFT) (e : MF) (ρ : Env) : lcF n ow g t e [] ρ = .ok [] (wipeE ρ ow) := rfl
def lcFe (n : Nat) (ow : List Nat) (r : RF Cell) (rest : Env → RF (List D)) : RF (List D) := match r with
  | .ok c ρ3 => if c.fits n = true then (rest (wipeE ρ3 ow)).bind fun ds ρ4 => .ok (c.d :: ds) ρ4 else .bad
  | _ => .bad
def lcFt (n : Nat) (ow : List Nat) (r : RF Bool) (e : MF) (rest : Env → RF (List D)) : RF (List D) := match r with
  | .ok b ρ2 => if b = true then lcFe n ow (e ρ2) rest else rest (wipeE ρ2 ow)
  | _ => .bad
def lcFo (n : Nat) (ow : List Nat) (o : Option Env) (t : MFT) (e : MF) (rest : Env → RF (List D)) : RF (List D) := match o with
  | some ρ1 => lcFt n ow (t ρ1) e rest
  | none => .bad
theorem lcF_cons (n : Nat) (ow : List Nat) (g : MG) (t : MFT) (e : MF) (ρ : Env) (x : Cell) (xs : List Cell) : lcF n ow g t e (x :: xs) ρ = lcFo n ow (g x (wipeE ρ ow)) t e (lcF n ow g t e xs) := by
  rw [lcF]
  cases g x (wipeE ρ ow) with
  | none => rfl
  | some ρ1 =>
    simp only [lcFo]
    cases t ρ1 with
    | bad => rfl
    | ex _ _ => rfl
    | ok b ρ2 => cases b <;> rfl
theorem lcFo_some (n : Nat) (ow : List Nat) (ρ1 : Env) (t : MFT) (e : MF) (rest : Env → RF (List D)) : lcFo n ow (some ρ1) t e rest = lcFt n ow (t ρ1) e rest := rfl
theorem lcFt_ok (n : Nat) (ow : List Nat) (b : Bool) (ρ2 : Env) (e : MF) (rest : Env → RF (List D)) : lcFt n ow (.ok b ρ2) e rest = if b = true then lcFe n ow (e ρ2) rest else rest (wipeE ρ2 ow) := rfl
theorem lcFe_ok (n : Nat) (ow : List Nat) (c : Cell) (ρ3 : Env) (rest : Env → RF (List D)) : lcFe n ow (.ok c ρ3) rest = if c.fits n = true then (rest (wipeE ρ3 ow)).bind fun ds ρ4 => .ok (c.d :: ds) ρ4 else .bad := rfl
end
theorem x_fCB (o : MC) (a : MFA) (ρ : Env) : fCB o a ρ = (a ρ).bind fun cs ρ1 => match o cs with
  | some c => if c.nl = true then .ok c ρ1 else .bad
  | none => .bad := rfl
end VL
set_option maxRecDepth 100000
/-! XG: raise, try .. except X as e (the caught exception is a value), isinstance, fields. -/
namespace VL
open PySem L2
variable [TB : Tbs]

/-! ### a heap that has the caught exception -/
section
variable {X : Cx} {pins pins' : List (Addr × Obj)} {σ : St} {H : Hp} {s : Shared} {a : Addr} {cls : Value} {d : Option Addr} {oe : Obj} {vs : Array Value}
theorem exk_ok {P : Program} {w : World} {h : Heap} (e : h.get? a = some oe) (z : Zc cls d oe) (f : oe.data = .fields vs) : ObjOk P w H h a (ExK cls d a) :=
  ⟨⟨oe, vs, e, z, f⟩, ⟨oe, e⟩, fun _ _ ⟨o, v, q, r⟩ k => ⟨o, v, k o q, r⟩⟩
theorem inv_held (I : Inv X pins σ H s) (e : s.heap.get? a = some oe) (z : Zc cls d oe) (f : oe.data = .fields vs) (na : H a = none) (n0 : X.s_0.heap.get? a = none)
    (np : ∀ p ∈ X.pn ++ pins, p.1 ≠ a) (nL : a ≠ X.env.locals) : Inv (X.suite a (X.pn ++ pins)) [] σ (upd H a (ExK cls d a)) s where
  ok := I.ok.suite _ _
  os := I.os
  bare := I.bare
  base := ⟨I.base.keep, I.base.slot, fun b o e1 n hx => by
      have hb : b ≠ a := fun q => by rw [q] at e1; rw [show X.s_0.heap.get? a = _ from e1] at n0; cases n0
      rw [upd_ne hb]; exact I.base.free b o e1 n hx,
    I.base.there, fun b xs q => by rw [upd_ne (ne_of_none (I.base.tups b xs q) na)]; exact I.base.tups b xs q,
    fun b o u q => by rw [upd_ne (ne_of_none (I.base.frzs b o u q) na)]; exact I.base.frzs b o u q,
    fun b ps q => by
      obtain ⟨m, r⟩ := I.base.tbls b ps q
      exact ⟨m, by rw [upd_ne (ne_of_none r na)]; exact r⟩⟩
  loc := I.loc
  cell := I.cell
  free := by rw [upd_ne (Ne.symm nL)]; exact I.free
  freeC := fun x c q => by
    have hc : c ≠ a := fun y => by
      obtain ⟨v, o, h1, h2⟩ := I.cell x c q
      rw [y, e] at h1; cases h1; rw [f] at h2; cases h2
    rw [upd_ne hc]; exact I.freeC x c q
  pin := fun p hp => by
    have hp' : p ∈ X.pn ++ pins := by rw [List.append_nil] at hp; exact hp
    obtain ⟨h1, h2, h3⟩ := I.pin p hp'
    exact ⟨h1, by rw [upd_ne (np p hp')]; exact h2, h3⟩
  hok := fun b u q => by
    by_cases hb : b = a
    · subst hb; rw [upd_same] at q; cases q; exact exk_ok e z f
    · rw [upd_ne hb] at q
      exact (I.hok b u q).stay (fun _ _ _ y => y) (fun c y => by rw [upd_ne (ne_of_none y na)]; exact y) fun c xs y => by rw [upd_ne (ne_of_none y na)]; exact y
  len := I.len
theorem inv_back (ok : X.Ok) (I : Inv (X.suite a (X.pn ++ pins)) pins' σ H s) : Inv X pins σ H s where
  ok := ok
  os := I.os
  bare := I.bare
  base := I.base
  loc := I.loc
  cell := I.cell
  free := I.free
  freeC := I.freeC
  pin := fun p hp => I.pin p (List.mem_append_left _ hp)
  hok := I.hok
  len := I.len
end

/-! ### try: body, except x as n: suite; every exception of the body is caught -/
/-- the ends of the suite: n's slot is emptied -/
def endAs (i : Nat) (D : Ends) : Ends := { nx := fun σ H => D.nx (σ.set i none) H, rt := D.rt, bk := fun σ H => D.bk (σ.set i none) H, ct := fun σ H => D.ct (σ.set i none) H }
/-- the wish of an exception of the body -/
def wHeld (K : PySem.W.Frag) (c : Value) (i : Nat) (ts : TS) (D : Ends) : WX := fun cls d σ H =>
  PySem.W.exmOne K cls c = some true ∧ ∀ a, H a = none → ts (endAs i D) (σ.set i (some (.ref a))) (upd H a (ExK cls d a))
section
variable {X : Cx} {x n : Str} {c : Value} {i : Nat} {body suite : List Stmt} {b₀ : Stmt} {ns pos pos' : Pos} {tb : WX → TS} {ts : TS}
theorem ps_tryHeld (hs : X.stack = X.env :: X.outer) (hf : X.env.frame = some X.env.locals) (hN : X.N.Nodup) (hi : X.N[i]? = some n) (hln : X.env.kindOf n = some .local) (hc : Names X x c) (hx : X.ex = [])
    (hb : ∀ (W : WX) (pn : List (Addr × Obj)) (xe : Value → Shared → Prop), Takes (X.tr pn xe) W → PassesOwn (model X.prog X.w) X.A X.env xe → PSs (X.tr pn xe) body (tb W))
    (hsu : ∀ (a : Addr) (pn : List (Addr × Obj)), PSs (X.suite a pn) (b₀ :: suite) ts) :
    PS X (.Try body [.ExceptHandler (some (.Name x ns)) (some n) (b₀ :: suite) pos'] [] [] pos) (fun D σ H => tb (wHeld X.K c i ts D) D σ H) := by
  constructor
  intro pins s σ H D I h
  have ok := I.ok
  have fr : X.A.frames = some (X.env :: X.outer) := by rw [← hs]; exact ok.frames
  apply wpAny_Try_except
  let xe : Value → Shared → Prop := fun e t => wpAny (model X.prog X.w) X.A (noteFrame e X.env) (fun _ t2 => wpAny (model X.prog X.w) X.A (setFlight e none)
    (fun _ t3 => wpAny (model X.prog X.w) X.A (handleBy e X.env [.ExceptHandler (some (.Name x ns)) (some n) (b₀ :: suite) pos']) (SP X pins D) X.xe t3) X.xe t2) X.xe t
  have takes : Takes (X.tr (X.pn ++ pins) xe) (wHeld X.K c i ts D) := by
    rintro u t ⟨a, B, t0, pins1, σ1, H1, cls, d, rfl, J1, old, grown, sky, na, os, ag, yes, go⟩
    have J := J1.ofTry ok
    have sky1 : Sky B (X.env :: X.outer) a (Zc cls d) X.env.locals t.heap := hs ▸ sky
    refine Sky.land Zc.steady fr hf sky1 fun h3 fl grown3 => ?_
    have J3 := J.landed (s' := { t with heap := h3 }) old fl.1 (grown.trans grown3) os ag
    obtain ⟨o3, f3, e3, z3, d3⟩ := fl.there
    have out : a ∉ frs (X.env :: X.outer) := fun hm => by
      obtain ⟨_, o, e, hnf⟩ := fl.2.2.1.mem hm
      rw [e3] at e
      cases e
      exact hnf _ d3
    have new : t0.heap.get? a = none := by
      cases e : t0.heap.get? a with
      | none => rfl
      | some o =>
        have := old a o e (hs ▸ out)
        rw [fl.2.1] at this
        cases this
    have new0 : X.s_0.heap.get? a = none := by
      cases e : X.s_0.heap.get? a with
      | none => rfl
      | some o =>
        obtain ⟨o', e'⟩ := J.base.there a o e (by rw [hx]; exact List.not_mem_nil)
        rw [new] at e'
        cases e'
    have nL : a ≠ X.env.locals := fun q => out (List.mem_filterMap.mpr ⟨X.env, List.mem_cons_self, hf.trans (congrArg some q.symm)⟩)
    have np : ∀ p ∈ X.pn ++ pins, p.1 ≠ a := fun p hp q => by
      have y := (J.pin p hp).1
      rw [q, new] at y
      cases y
    have S3 := inv_held J3 e3 z3 d3 na new0 np nL
    apply wpAny_handleBy_cons (hnb := by intro q; cases q)
    apply codeAny_handlers_test
    have kind : PySem.W.Looks (model X.prog X.w) h3 (typeOf (.ref a)) cls := by
      intro A Q E s k q
      exact wpAny_typeOf_ref (k _ _ e3) (z3.1 ▸ q)
    have hit := PySem.W.exm_one (M := model X.prog X.w) J3.kIn kind yes
    have name : ∀ {Q : Value → Shared → Prop} {E : Value → Shared → Prop}, Q c { t with heap := h3 } → wpAny (model X.prog X.w) (X.A.mark (some (.ref a))) (eval (.Name x ns) X.env) Q E { t with heap := h3 } := by
      intro Q E q
      rcases hc with ⟨g, nd, m | ⟨m, b, y⟩⟩
      · exact ld_glob (X := X.suite a (X.pn ++ pins)) S3 g m q nd
      · exact ld_blt (X := X.suite a (X.pn ++ pins)) S3 g m b q y nd
    refine name (hit.here (codeAny_handlers_suite_as ?_))
    refine HandSPX.lands_againZ fl fun h4 fl4 grown4 => ?_
    have J4 := J.landed (s' := { t with heap := h4 }) old fl4.1 ((grown.trans grown3).trans grown4) os ag
    obtain ⟨o4, f4, e4, z4, d4⟩ := fl4.there
    have S4 := inv_held J4 e4 z4 d4 na new0 np nL
    refine store_ok (X := X.suite a (X.pn ++ pins)) (v := .ref a) S4 hN hi (.inl hln) rfl (fun t5 S5 => ?_) (.inr hln)
    have gone : ∀ {σ6 : St} {H6 : Hp} {t6 : Shared} {pins6 : List (Addr × Obj)} {Q : Shared → Prop}, Inv (X.suite a (X.pn ++ pins)) pins6 σ6 H6 t6 → (∀ t7, Inv X pins (σ6.set i none) H6 t7 → Q t7) →
        wpAny (model X.prog X.w) X.A (do bindName X.env n .none; unbindBehindTheSuite X.env n pos') (fun _ t7 => Q t7) X.xe t6 := fun I6 q => gone_ok (inv_back ok I6) hN hi hln q
    refine wpAny_mono ((hsu a (X.pn ++ pins)).run [] t5 _ _ _ S5 (go a na)) (fun f t6 q6 => ?_) fun _ _ z => z.elim
    match f, q6 with
    | .next, ⟨_, _, I6, q⟩ => exact gone I6 fun t7 I7 => ⟨_, _, I7, q⟩
    | .brk, ⟨_, _, I6, q⟩ => exact gone I6 fun t7 I7 => ⟨_, _, I7, q⟩
    | .cont, ⟨_, _, I6, q⟩ => exact gone I6 fun t7 I7 => ⟨_, _, I7, q⟩
    | .ret u, ⟨_, _, _, I6, r, q⟩ => exact gone I6 fun t7 I7 => ⟨_, _, _, I7, r, q⟩
  refine wpAny_mono ((hb _ (X.pn ++ pins) xe takes PassesOwn.looking).run [] s σ H D (I.toTry _) h) (fun f t q => ?_) fun _ _ z => z
  match f, q with
  | .next, ⟨_, _, J, q⟩ => exact wpAny_execs_nil ⟨_, _, J.ofTry ok, q⟩
  | .brk, ⟨_, _, J, q⟩ => exact ⟨_, _, J.ofTry ok, q⟩
  | .cont, ⟨_, _, J, q⟩ => exact ⟨_, _, J.ofTry ok, q⟩
  | .ret u, ⟨_, _, _, J, r, q⟩ => exact ⟨_, _, _, J.ofTry ok, r, q⟩
end

/-! ### over cells -/
theorem try_ctx {X : Cx} (hs : X.stack = X.env :: X.outer) (hf : X.env.frame = some X.env.locals) : ∃ xe : Value → Shared → Prop, (∀ W, Takes (X.tr [] xe) W) ∧ PassesOwn (model X.prog X.w) X.A X.env xe := by
  refine ⟨fun e t => wpAny (model X.prog X.w) X.A (noteFrame e X.env) (fun _ t2 => wpAny (model X.prog X.w) X.A (setFlight e none) (fun _ _ => True) (fun _ _ => True) t2) (fun _ _ => True) t, ?_, PassesOwn.looking⟩
  rintro W u t ⟨a, B, t0, pins1, σ1, H1, cls, d, rfl, J1, old, grown, sky, na, os, ag, _⟩
  have fr : X.A.frames = some (X.env :: X.outer) := by rw [← hs]; exact J1.ok.frames
  have sky1 : Sky B (X.env :: X.outer) a (Zc cls d) X.env.locals t.heap := hs ▸ sky
  exact Sky.land Zc.steady fr hf sky1 fun h3 fl grown3 => trivial
/-- class t catches the classes of the table -/
def CatX (K : PySem.W.Frag) (mg : Str → Option Value) (t : Str) (tab : List Str) : Prop :=
  ∃ C, mg t = some (.ref C) ∧ ∀ x ∈ tab, ∃ D, PySem.W.nsIn K mainGlobals x = some (some (.ref D)) ∧ mg x = some (.ref D) ∧ PySem.W.exmOne K (.ref D) (.ref C) = some true
def hasX (tab : List Str) (x : Str) : Bool := tab.any fun y => decide (y = x)
theorem hasX_mem {tab : List Str} {x : Str} (h : hasX tab x = true) : x ∈ tab := by
  obtain ⟨y, h1, h2⟩ := List.any_eq_true.mp h
  rw [← of_decide_eq_true h2]; exact h1
def tryEnd (i : Nat) (r : SR) : SR := match r with
  | .nx ρ => .nx (ρ.set i none) | .rt c ρ => .rt c ρ | .bk ρ => .bk (ρ.set i none) | .ct ρ => .ct (ρ.set i none) | .ex _ _ => .bad | .bad => .bad
def trySel (tab : List Str) (i : Nat) (hs : MS) (r : SR) : SR := match r with
  | .ex x ρ => if hasX tab x.cls = true ∧ i < ρ.length then tryEnd i (hs (ρ.set i (some (sh (.exn x.cls x.fs))))) else .bad
  | r => r
def sTry (tab : List Str) (i : Nat) (body hs : MS) : MS := fun ρ => trySel tab i hs (body ρ)
def WNone : WX := fun _ _ _ _ => False
def endW (i : Nat) (D : WEnds) : WEnds := { nx := fun ρ => D.nx (ρ.set i none), rt := D.rt, bk := fun ρ => D.bk (ρ.set i none), ct := fun ρ => D.ct (ρ.set i none), ex := fun _ _ => False }
theorem wSR_tryEnd {i : Nat} {r : SR} {D : WEnds} (h : wSR (tryEnd i r) D) : wSR r (endW i D) := by
  cases r <;> exact h
theorem Slots.gone {K : PySem.W.Frag} {S : Hp} {F : Hl} {A : Nat → V} {ρ : Env} {x : Option V} : ∀ {σ : St} {L : Hl} {i : Nat}, Slots K S F A ρ σ L → ∃ L', Slots K S F A (ρ.set i none) (σ.set i x) L' ∧ L'.Sublist L := by
  intro σ L i h
  induction h generalizing i with
  | nil => exact ⟨_, .nil, List.Sublist.refl _⟩
  | no t ih =>
    cases i with
    | zero => exact ⟨_, .no t, List.Sublist.refl _⟩
    | succ i =>
      obtain ⟨L', h1, h2⟩ := ih (i := i)
      exact ⟨L', .no h1, h2⟩
  | @yes c0 cs v0 vs L1 L2 b gb t ih =>
    cases i with
    | zero => exact ⟨_, .no t, List.sublist_append_right _ _⟩
    | succ i =>
      obtain ⟨L', h1, h2⟩ := ih (i := i)
      exact ⟨_, .yes b gb h1, (List.Sublist.refl L1).append h2⟩
theorem SRel.gone {K : PySem.W.Frag} {S : Hp} {F : Hl} {A : Nat → V} {H : Hp} {ρ : Env} {σ : St} {i : Nat} {x : Option V} (h : SRel K S F A H ρ σ) : SRel K S F A H (ρ.set i none) (σ.set i x) := by
  obtain ⟨L, sl, hr⟩ := h
  obtain ⟨L', s', q⟩ := sl.gone (i := i) (x := x)
  exact ⟨L', s', hr.sub (q.append (List.Sublist.refl _))⟩
/-- the fields of a noted exception -/
theorem FldOk.shE {K : PySem.W.Frag} {S : Hp} : ∀ {fs : List (Str × D)} {vs : List (Str × V)}, FldOk K S fs vs → ShE K S Str vs fs
  | _, _, .nil => .nil
  | _, _, .cons h t => .cons h (FldOk.shE t)
theorem ExnOk.sh {K : PySem.W.Frag} {mg : Str → Option Value} {S : Hp} {x : Exn} {cls : Value} {d : Option Addr} {a D : Addr} (h : ExnOk K mg S x cls d) (ns : PySem.W.nsIn K mainGlobals x.cls = some (some (.ref D))) (m : mg x.cls = some (.ref D)) (na : S a = none) :
    cls = .ref D ∧ Sh K (upd S a (ExK cls d a)) (.ref a) (.exn x.cls x.fs) := by
  obtain ⟨C, h1, rfl, h2⟩ := h
  have e : C = D := by rw [m] at h1; cases h1; rfl
  subst e
  refine ⟨rfl, ?_⟩
  have k : Same S (upd S a (ExK (.ref C) d a)) := fun b u e => by rw [upd_ne (ne_of_none e na)]; exact e
  rcases h2 with ⟨h3, h4⟩ | ⟨b, fs, h3, h4, h5⟩
  · exact .exn ns upd_same (.inl ⟨h4, rfl⟩) (by rw [h3]; exact .nil)
  · exact .exn ns upd_same (.inr ⟨b, h3, k _ _ h4⟩) (ShE.ex k h5.shE)
section
variable {X : Cx} {W : WX} {t n : Str} {i : Nat} {body suite : List Stmt} {b₀ : Stmt} {ns pos pos' : Pos} {tb : WX → TS} {ts : TS} {mb ms : MS}
theorem sm_try' (tab : List Str) (C : CatX X.K X.mg t tab) (hs : X.stack = X.env :: X.outer) (hf : X.env.frame = some X.env.locals) (hN : X.N.Nodup) (hi : X.N[i]? = some n) (hln : X.env.kindOf n = some .local) (hg : Gl X t) (hdb : (t == ("__debug__" : Str)) = false) (hx : X.ex = [])
    (hb : ∀ (W' : WX) (pn : List (Addr × Obj)) (xe : Value → Shared → Prop), Takes (X.tr pn xe) W' → PassesOwn (model X.prog X.w) X.A X.env xe → SsM (X.tr pn xe) W' body (tb W') mb)
    (hsu : ∀ (a : Addr) (pn : List (Addr × Obj)), SsM (X.suite a pn) WNone (b₀ :: suite) ts ms) :
    SM X W (.Try body [.ExceptHandler (some (.Name t ns)) (some n) (b₀ :: suite) pos'] [] [] pos) (fun D σ H => tb (wHeld X.K (.ref C.choose) i ts D) D σ H) (sTry tab i mb ms) := by
  obtain ⟨xe, tk, ps⟩ := try_ctx hs hf
  obtain ⟨cm, ct⟩ := C.choose_spec
  refine ⟨ps_tryHeld hs hf hN hi hln ⟨hg, hdb, .inl cm⟩ hx (fun W' pn xe h1 h2 => (hb W' pn xe h1 h2).p) fun a pn => (hsu a pn).p, ?_⟩
  intro D ρ hw S F A H σ De hl r en
  have bs : StmtOk X.K X.mg _ (tb (wHeld X.K (.ref C.choose) i ts De)) (ws_ mb) := (hb (wHeld X.K (.ref C.choose) i ts De) [] xe (tk _) ps).s
  let B : WEnds := { nx := D.nx, rt := D.rt, bk := D.bk, ct := D.ct, ex := fun x ρ1 => hasX tab x.cls = true ∧ i < ρ1.length ∧ wSR (ms (ρ1.set i (some (VL.sh (.exn x.cls x.fs))))) (endW i D) }
  have hB : wSR (mb ρ) B := by
    have hw' : wSR (trySel tab i ms (mb ρ)) D := hw
    cases hm : mb ρ with
    | ex x ρ1 =>
      rw [hm] at hw'
      obtain ⟨⟨h1, h2⟩, h3⟩ := wSR_ite hw'
      exact ⟨h1, h2, wSR_tryEnd h3⟩
    | nx ρ1 => rw [hm] at hw'; exact hw'
    | rt c ρ1 => rw [hm] at hw'; exact hw'
    | bk ρ1 => rw [hm] at hw'; exact hw'
    | ct ρ1 => rw [hm] at hw'; exact hw'
    | bad => rw [hm] at hw'; exact hw'.elim
  refine bs B ρ hB S F A H σ De hl r ⟨en.nx, en.rt, en.bk, en.ct, ?_⟩
  rintro x cls d ρ1 σ1 S1 H1 ⟨hm, hlen, hw1⟩ l1 l2 e1 xo sr
  obtain ⟨D1, n1, m1, em⟩ := ct x.cls (hasX_mem hm)
  have hcls : cls = .ref D1 := by
    obtain ⟨C0, g1, g2, _⟩ := xo
    rw [m1] at g1; cases g1; exact g2
  refine ⟨by rw [hcls]; exact em, fun a na => ?_⟩
  obtain ⟨L, sl, hr⟩ := sr
  have na' := hr.none_of na
  obtain ⟨_, shx⟩ := xo.sh n1 m1 na'
  have k : Same S1 (upd S1 a (ExK cls d a)) := fun b u e => by rw [upd_ne (ne_of_none e na')]; exact e
  have hr2 : HRel (upd S1 a (ExK cls d a)) (L ++ F) (upd H1 a (ExK cls d a)) := hr.laid na
  obtain ⟨L', s', R, p1, p2⟩ := Slots.set (c := VL.sh (.exn x.cls x.fs)) (v := .ref a) (M := []) (i := i) (.o (.sh shx)) (fun j z => by cases z) hlen (sl.ex k)
  have sr2 : SRel X.K (upd S1 a (ExK cls d a)) F A (upd H1 a (ExK cls d a)) (ρ1.set i (some (VL.sh (.exn x.cls x.fs)))) (σ1.set i (some (.ref a))) :=
    ⟨L', s', (hr2.sub (p2.append (List.Sublist.refl F))).perm (p1.symm.append_right F)⟩
  refine (hsu a []).s (endW i D) _ hw1 _ F A _ _ (endAs i De) (by rw [List.length_set, List.length_set, l1, l2]) sr2 ⟨?_, ?_, ?_, ?_, fun _ _ _ _ _ _ _ z => z.elim⟩
  · intro ρ2 σ2 S2 H2 q g1 g2 e2 r2
    exact en.nx _ _ S2 H2 q (by rw [List.length_set, g1, List.length_set, l2]) (by rw [List.length_set, g2, List.length_set, l2]) (e1.trans (k.trans e2)) r2.gone
  · intro c v ρ2 σ2 Lc Le S2 H2 q e2
    exact en.rt c v ρ2 σ2 Lc Le S2 H2 q (e1.trans (k.trans e2))
  · intro ρ2 σ2 S2 H2 q g1 g2 e2 r2
    exact en.bk _ _ S2 H2 q (by rw [List.length_set, g1, List.length_set, l2]) (by rw [List.length_set, g2, List.length_set, l2]) (e1.trans (k.trans e2)) r2.gone
  · intro ρ2 σ2 S2 H2 q g1 g2 e2 r2
    exact en.ct _ _ S2 H2 q (by rw [List.length_set, g1, List.length_set, l2]) (by rw [List.length_set, g2, List.length_set, l2]) (e1.trans (k.trans e2)) r2.gone
theorem sm_try (tab : List Str) {tb : WX → List (Addr × Obj) → (Value → Shared → Prop) → TS} {ts : Addr → List (Addr × Obj) → TS} (C : CatX X.K X.mg t tab) (hs : X.stack = X.env :: X.outer) (hf : X.env.frame = some X.env.locals) (hN : X.N.Nodup) (hi : X.N[i]? = some n) (hln : X.env.kindOf n = some .local) (hg : Gl X t) (hdb : (t == ("__debug__" : Str)) = false) (hx : X.ex = [])
    (hb : ∀ (W' : WX) (pn : List (Addr × Obj)) (xe : Value → Shared → Prop), Takes (X.tr pn xe) W' → PassesOwn (model X.prog X.w) X.A X.env xe → SsM (X.tr pn xe) W' body (tb W' pn xe) mb)
    (hsu : ∀ (a : Addr) (pn : List (Addr × Obj)), SsM (X.suite a pn) WNone (b₀ :: suite) (ts a pn) ms)
    (etb : ∀ W' pn xe, tb W' pn xe = tb W' [] (fun _ _ => False) := by intros; rfl) (ets : ∀ a pn, ts a pn = ts 0 [] := by intros; rfl) :
    SM X W (.Try body [.ExceptHandler (some (.Name t ns)) (some n) (b₀ :: suite) pos'] [] [] pos) (fun D σ H => tb (wHeld X.K (.ref C.choose) i (ts 0 []) D) [] (fun _ _ => False) D σ H) (sTry tab i mb ms) :=
  sm_try' (tb := fun W' => tb W' [] fun _ _ => False) tab C hs hf hN hi hln hg hdb hx (fun W' pn xe h1 h2 => etb W' pn xe ▸ hb W' pn xe h1 h2) fun a pn => ets a pn ▸ hsu a pn
end

/-! ### raise -/
/-- X is a class of errors of the program without a making of its own -/
def RaiX (K : PySem.W.Frag) (mg : Str → Option Value) (x : Str) : Prop :=
  ∃ C, mg x = some (.ref C) ∧ PySem.W.excIn K C [.type "ValueError", .type "Exception", .type "BaseException", .type "object"] "ValueError.__new__" = true ∧ PySem.W.keepIn K (.ref C) = true ∧
    PySem.W.subIn K (.ref C) (.type "BaseException") = some true ∧ PySem.W.typeIn K (.ref C) = some (.type "type")
def sRaise (x : Str) : MS := fun ρ => .ex ⟨x, []⟩ ρ
section
variable {X : Cx} {W : WX} {x m : Str} {j : Nat} {p p2 pos pos' : Pos}
theorem sm_raise (R : RaiX X.K X.mg x) (hc : X.calm = true) (tk : Takes X W) (hg : Gl X x) (hdb : (x == ("__debug__" : Str)) = false) :
    SM X W (.Raise (some (.Call (.Name x p) [.Constant (.str m) j p2] [] pos)) none pos') (fun _ σ H => W (.ref R.choose) none σ H) (sRaise x) := by
  obtain ⟨h1, h2, h3, h4, h5⟩ := R.choose_spec
  refine ⟨ps_raise hc tk (pmk_own PySem.F.excBase_ValueError h2 h1 h3 (raises_own h4 h5) hg hdb), ?_⟩
  intro D ρ hw S F A H σ De hl r en
  exact en.ex ⟨x, []⟩ _ _ ρ σ S H hw hl rfl (Same.refl S) ⟨_, h1, rfl, .inl ⟨rfl, rfl⟩⟩ r
/-- a statement that is never come to -/
theorem sm_never {st : Stmt} : SM X W st (fun _ _ _ => False) (fun _ => .bad) := ⟨ps_never, fun D ρ hw => hw.elim⟩
end

/-! ### isinstance of a noted exception -/
/-- what a class must say, so that isinstance may ask its instances -/
structure ErrC (K : PySem.W.Frag) (C : Addr) : Prop where
  cl : (PySem.W.clsIn K C).isSome = true
  ga : PySem.W.findIn K (.ref C) "__getattribute__" = some (some (.builtin "BaseException.__getattribute__"))
  gt : PySem.W.findIn K (.ref C) "__getattr__" = some none
  sb : PySem.W.subIn K (.ref C) (.type "BaseException") = some true
  kl : PySem.W.findIn K (.ref C) "__class__" = some (some (.builtin "object.__class__"))
  sp : PySem.W.specialIn K (.builtin "object.__class__") "__get__" = some (some (.builtin "getset_descriptor.__get__"))
  tk : PySem.W.takesIn K (.builtin "object.__class__") = some true
  ob : PySem.W.mroIn K C (.type "object") = some true
  hd : PySem.W.hasDictIn K C = true
theorem ErrC.of {K : PySem.W.Frag} {C : Addr} (ga : PySem.W.findIn K (.ref C) "__getattribute__" = some (some (.builtin "BaseException.__getattribute__"))) (gt : PySem.W.findIn K (.ref C) "__getattr__" = some none) (sb : PySem.W.subIn K (.ref C) (.type "BaseException") = some true)
    (kl : PySem.W.findIn K (.ref C) "__class__" = some (some (.builtin "object.__class__"))) (ob : PySem.W.mroIn K C (.type "object") = some true) (hd : PySem.W.hasDictIn K C = true)
    (sp : PySem.W.specialIn K (.builtin "object.__class__") "__get__" = some (some (.builtin "getset_descriptor.__get__"))) (tk : PySem.W.takesIn K (.builtin "object.__class__") = some true) : ErrC K C := by
  obtain ⟨cd, hc, _⟩ := PySem.W.any_some hd
  exact ⟨by rw [hc]; rfl, ga, gt, sb, kl, sp, tk, ob, hd⟩
def cvOf : V → Value
  | .ref a => .ref a | .ty T => .type T | _ => .none
/-- a class by its name -/
def ClsV (mg : Str → Option Value) (t : Str) (c : V) : Prop := (∃ C, c = .ref C ∧ mg t = some (.ref C)) ∨ (∃ T, c = .ty T ∧ mg t = none ∧ bootBuiltins t = some (.type T) ∧ t ≠ "__name__")
/-- the answers of isinstance(e, t) by the class of e -/
def IsX (K : PySem.W.Frag) (mg : Str → Option Value) (t : Str) (tab : List (Str × Bool)) : Prop :=
  ∃ c : V, ClsV mg t c ∧ ∀ p ∈ tab, ∃ C, PySem.W.nsIn K mainGlobals p.1 = some (some (.ref C)) ∧ ErrC K C ∧ PySem.W.kitOne K (.ref C) (cvOf c) = some p.2
theorem ClsV.eq {mg : Str → Option Value} {t : Str} {c : V} (h : ClsV mg t c) : ∀ u, RelV c u → u = cvOf c := by
  rcases h with ⟨C, rfl, _⟩ | ⟨T, rfl, _⟩ <;> exact fun u r => r
def rIsX (K : PySem.W.Frag) : List V → Hp → VK → Prop := fun xs H Q => ∃ (a C : Addr) (d : Option Addr) (c : V) (b : Bool), xs = [.ref a, c] ∧ (∀ u, RelV c u → u = cvOf c) ∧ H a = some (ExK (.ref C) d a) ∧ (d = none ∨ ∃ dd fs, d = some dd ∧ H dd = some (.xd fs)) ∧ ErrC K C ∧ PySem.W.kitOne K (.ref C) (cvOf c) = some b ∧ Q (.bl b) H
theorem exk_inst {X : Cx} {pins : List (Addr × Obj)} {σ : St} {H : Hp} {s : Shared} {a C : Addr} {d : Option Addr} (I : Inv X pins σ H s) (e : H a = some (ExK (.ref C) d a)) (hd : d = none ∨ ∃ dd fs, d = some dd ∧ H dd = some (.xd fs)) :
    ∃ oe od, PySem.W.InstAt s.heap a oe C od ∧ ∀ dd fs, d = some dd → H dd = some (.xd fs) → ∃ o mA, od = some o ∧ s.heap.Ns1 dd mA ∧ s.heap.get? dd = some o ∧ ∀ f, RelO (fs.lookup f) (mA f) := by
  obtain ⟨⟨oe, vs, h1, ⟨h2, h3⟩, h4⟩, _, _⟩ := I.hok a _ e
  have no : PySem.W.notCls oe = true := by unfold PySem.W.notCls; rw [h4] <;> rfl
  rcases hd with rfl | ⟨dd, fs, rfl, hx⟩
  · exact ⟨oe, none, ⟨h1, h2, no, by rw [h3]; trivial⟩, fun _ _ z => by cases z⟩
  · obtain ⟨mA, hn, hr⟩ : ObjOk X.prog X.w H s.heap dd (.xd fs) := I.hok dd _ hx
    obtain ⟨o, es, ep, ho, r⟩ := id hn
    refine ⟨oe, some o, ⟨h1, h2, no, by rw [h3]; exact ho⟩, fun dd' fs' z hx' => ?_⟩
    cases z
    rw [hx] at hx'
    cases hx'
    exact ⟨o, mA, rfl, hn, ho, hr⟩
theorem call_isX {X : Cx} : CallR X (.builtin "isinstance") (rIsX X.K) := by
  intro pins s σ H xs us Q I r h
  obtain ⟨a, C, d, c, b, rfl, hc, e, hd, E, k, q⟩ := h
  cases r with
  | cons r1 r =>
    cases r with
    | cons r2 r =>
      cases r
      cases r1
      obtain rfl := hc _ r2
      obtain ⟨oe, od, J, _⟩ := exk_inst I e hd
      exact PySem.W.kia_one (PySem.W.kitx_exc (ox := oe) (od := od) E.cl E.ga E.gt E.sb E.kl E.sp E.tk E.ob) I.kIn J k (fun z => nomatch z) fun tk => ⟨.bl b, H, I.tok tk, rfl, q⟩
def lookX (tab : List (Str × Bool)) (x : Str) : Option Bool := (tab.find? fun p => decide (p.1 = x)).map (·.2)
theorem lookX_mem {tab : List (Str × Bool)} {x : Str} {b : Bool} (h : lookX tab x = some b) : (x, b) ∈ tab := by
  unfold lookX at h
  obtain ⟨p, h1, h2⟩ := Option.map_eq_some_iff.mp h
  have e := List.find?_some h1
  have m := List.mem_of_find?_eq_some h1
  obtain ⟨y, z⟩ := p
  obtain rfl : y = x := of_decide_eq_true e
  cases h2
  exact m
def mIsX (tab : List (Str × Bool)) (e : ME) : ME := fun ρ => (e ρ).bind fun c => match c.d with
  | .exn cls _ => (match lookX tab cls with | some b => .ok (sh (.bl b)) | none => .bad)
  | _ => .bad
theorem Sh.exnE {K : PySem.W.Frag} {S : Hp} {v : V} {cls : Str} {fs : List (Str × D)} {C : Addr} (h : Sh K S v (.exn cls fs)) (n : PySem.W.nsIn K mainGlobals cls = some (some (.ref C))) :
    ∃ a d vs, v = .ref a ∧ S a = some (ExK (.ref C) d a) ∧ ((d = none ∧ vs = []) ∨ ∃ b, d = some b ∧ S b = some (.xd vs)) ∧ ShE K S Str vs fs := by
  cases h with
  | @exn a C' d _ vs _ n' h1 h2 h3 =>
    rw [n] at n'
    cases n'
    exact ⟨a, d, vs, rfl, h1, h2, h3⟩
section
variable {X : Cx} {W : WX} {a : Expr} {ta : TE} {ma : ME} {p p2 pos : Pos} {t : Str} {c : V}
theorem pe_cls (h : ClsV X.mg t c) (hg : Gl X t) (hdb : (t == ("__debug__" : Str)) = false) : PE X (.Name t p2) (tC c) := by
  rcases h with ⟨C, rfl, hm⟩ | ⟨T, rfl, hm, hb, hn⟩
  · exact pe_glob hg hm rfl hdb
  · exact pe_bltn hg hm hb rfl hn hdb
theorem em_isX (tab : List (Str × Bool)) (T : IsX X.K X.mg t tab) (hg : Gl X "isinstance") (hm : X.mg "isinstance" = none) (hgt : Gl X t) (hdb : (t == ("__debug__" : Str)) = false) (ha : EM X W a ta ma)
    (he : starEach [a, .Name t p2] X.env = (false, eval a X.env) :: starEach [.Name t p2] X.env := by rfl) (he2 : starEach [.Name t p2] X.env = (false, eval (.Name t p2) X.env) :: starEach [] X.env := by rfl) (hpl : (backTo pos (starEach [.Name t p2] X.env)).any (·.1) = false := by rfl) :
    EM X W (.Call (.Name "isinstance" p) [a, .Name t p2] [] pos) (tCB (rIsX X.K) (tCons ta (tCons (tC T.choose) tNil))) (mIsX tab ma) := by
  obtain ⟨h1, h2⟩ := T.choose_spec
  refine ⟨pe_callB call_isX hg hm (by decide +kernel) (pa_cons ha.p (pa_cons (pe_cls h1 hgt hdb) pa_nil he2) he) (by decide) (by decide) he hpl, ?_⟩
  intro ρ Q XQ w S Fl F H σ tc tv Q' ev r0 k kx
  simp only [we_, mIsX, wR_bind] at w
  refine ha.s ρ _ XQ w S Fl F H σ tc tv _ ev r0 (fun c v S1 H1 q e1 r1 => ?_) kx
  have hv := r1.sh
  split at q
  · next cls fs hd =>
    split at q
    · next b hb =>
      rw [hd] at hv
      obtain ⟨C, n, E, kt⟩ := h2 _ (lookX_mem hb)
      obtain ⟨a', d, vs, rfl, g1, g2, g3⟩ := hv.exnE n
      exact ⟨a', C, d, _, b, rfl, h1.eq, g1, g2.imp (·.1) (fun ⟨x, y, z⟩ => ⟨x, _, y, z⟩), E, kt, k _ _ S1 H1 q e1 (r1.tail.push (.bl _))⟩
    · exact q.elim
  · exact q.elim

/-! ### a field of a noted exception -/
def FldX (K : PySem.W.Frag) (f : Str) (tab : List Str) : Prop := ∀ x ∈ tab, ∃ C, PySem.W.nsIn K mainGlobals x = some (some (.ref C)) ∧ ErrC K C ∧ PySem.W.findIn K (.ref C) f = some none
def tXfd (K : PySem.W.Frag) (f : Str) (te : TE) : TE := fun σ H Q => te σ H fun x H1 => ∃ (a C dd : Addr) (fs : List (Str × V)) (v : V), x = .ref a ∧ H1 a = some (ExK (.ref C) (some dd) a) ∧ H1 dd = some (.xd fs) ∧ ErrC K C ∧ PySem.W.findIn K (.ref C) f = some none ∧ fs.lookup f = some v ∧ Q v H1
theorem pe_xfd {e : Expr} {te : TE} {f : Str} (he : PE X e te) (hb : attributeBase e f X.env (eval e X.env) = eval e X.env := by rfl) : PE X (.Attribute e f pos) (tXfd X.K f te) := by
  constructor
  intro pins s σ H Q I h
  refine attr_of hb (thn (he.run pins s σ H _ I h) ?_)
  rintro u s1 ⟨x, H1, I1, rx, a, C, dd, fs, v, rfl, ha, hd, E, no, l, q⟩
  obtain rfl : u = Value.ref a := rx
  obtain ⟨oe, od, J, g⟩ := exk_inst I1 ha (.inr ⟨dd, fs, rfl, hd⟩)
  obtain ⟨o, mA, rfl, hn, ho, hr⟩ := g dd fs rfl hd
  obtain ⟨od, ho', hl⟩ := lookIn_ns hn
  obtain rfl : o = od := by rw [ho] at ho'; cases ho'; rfl
  obtain ⟨w, hw, rw'⟩ := RelO.some_of (v := v) (o := mA f) (by rw [← l]; exact hr f)
  exact HandSPX.exc_get I1.kIn J E.ga E.gt E.sb (PySem.W.findObj_own E.hd no rfl (by rw [hl, hw])) (handed_of rw') ⟨v, H1, I1.tok _, rw', q⟩
def fldX (fs : List (Str × D)) (f : Str) : Option D := (fs.find? fun p => decide (p.1 = f)).map (·.2)
def mFldX (tab : List Str) (f : Str) (e : ME) : ME := fun ρ => (e ρ).bind fun c => match c.d with
  | .exn cls fs => if hasX tab cls = true then (match fldX fs f with | some d => .ok (sh d) | none => .bad) else .bad
  | _ => .bad
theorem ShE.fld {K : PySem.W.Frag} {S : Hp} {f : Str} {d : D} : ∀ {vs : List (Str × V)} {fs : List (Str × D)}, ShE K S Str vs fs → fldX fs f = some d → ∃ v, vs.lookup f = some v ∧ Sh K S v d
  | _, _, .nil, h => by cases h
  | _, _, @ShE.cons _ _ _ _ k v vs e es h t, hf => by
    by_cases hk : k = f
    · subst hk
      have e1 : fldX ((k, e) :: es) k = some e := by unfold fldX; rw [List.find?_cons_of_pos (by simp)]; rfl
      rw [e1] at hf
      cases hf
      exact ⟨v, by rw [List.lookup_cons, beq_self_eq_true], h⟩
    · have e1 : fldX ((k, e) :: es) f = fldX es f := by unfold fldX; rw [List.find?_cons_of_neg (by simpa using hk)]
      rw [e1] at hf
      obtain ⟨w, h1, h2⟩ := ShE.fld t hf
      refine ⟨w, ?_, h2⟩
      rw [List.lookup_cons]
      have : (f == k) = false := by simpa using fun z => hk z.symm
      rw [this]
      exact h1
theorem CellOk.exn {K : PySem.W.Frag} {S : Hp} {Fl F L : Hl} {c : Cell} {v : V} {cls : Str} {fs : List (Str × D)} (h : CellOk K S Fl F c v L) (e : c.d = .exn cls fs) : Sh K S v (.exn cls fs) := by
  cases h with
  | o h => cases e; cases h with | sh h => exact h
  | l _ h => cases e; cases h with | sh h => exact h
  | p _ h => cases e; cases h with | sh h => exact h
  | m h => cases e; cases h with | sh h => exact h
theorem Rel.exn {K : PySem.W.Frag} {S H : Hp} {Fl F : Hl} {c : Cell} {v : V} {cs : List Cell} {vs : List V} {cls : Str} {fs : List (Str × D)} (h : Rel K S Fl F H (c :: cs) (v :: vs)) (e : c.d = .exn cls fs) : Sh K S v (.exn cls fs) := by
  obtain ⟨L, t, _⟩ := h
  cases t with
  | cons a b => exact a.exn e
theorem em_fldX (tab : List Str) {f : Str} (T : FldX X.K f tab) (ha : EM X W a ta ma) (hb : attributeBase a f X.env (eval a X.env) = eval a X.env := by rfl) : EM X W (.Attribute a f pos) (tXfd X.K f ta) (mFldX tab f ma) := by
  refine ⟨pe_xfd ha.p hb, ?_⟩
  intro ρ Q XQ w S Fl F H σ tc tv Q' ev r0 k kx
  simp only [we_, mFldX, wR_bind] at w
  refine ha.s ρ _ XQ w S Fl F H σ tc tv _ ev r0 (fun c v S1 H1 q e1 r1 => ?_) kx
  split at q
  · next cls fs hd =>
    obtain ⟨h1, q⟩ := wR_ite q
    split at q
    · next d hf =>
      have hv := r1.exn hd
      obtain ⟨C, n, E, no⟩ := T cls (hasX_mem h1)
      obtain ⟨a', d', vs, rfl, g1, g2, g3⟩ := hv.exnE n
      obtain ⟨v, l, sv⟩ := g3.fld hf
      rcases g2 with ⟨_, rfl⟩ | ⟨b, rfl, g2⟩
      · cases l
      · exact ⟨a', C, b, vs, v, rfl, r1.same _ _ g1, r1.same _ _ g2, E, no, l, k _ _ S1 H1 q e1 (r1.tail.push sv)⟩
    · exact q.elim
  · exact q.elim
end
end VL
set_option maxRecDepth 100000
/-! XH: raise of own classes with fields: __init__(self, ..) says HallError.__init__(self, 'm') and stores its arguments. -/
namespace VL
open PySem L2
variable [TB : Tbs]
/-- x is a class of errors whose making is ValueError's -/
def HeiX (K : PySem.W.Frag) (mg : Str → Option Value) (x : Str) : Prop := ∃ C, mg x = some (.ref C) ∧ PySem.W.specialIn K (.ref C) "__getattribute__" = some (some (.builtin "type.__getattribute__")) ∧
  PySem.W.readsIn K C (.type "type") = true ∧ PySem.W.findCls K (.ref C) (.type "type") "__init__" = some (.val (.builtin "ValueError.__init__"))
section
variable {X : Cx} {e : Expr} {es : List Expr} {ta : TA} {p1 p2 pos : Pos} {x : Str}
theorem pe_hei {pl : Sem Bool} (T : HeiX X.K X.mg x) (hg : Gl X x) (hdb : (x == ("__debug__" : Str)) = false) (ha : PA X (e :: es) ta)
    (hc : eval (.Call (.Attribute (.Name x p1) "__init__" p2) (e :: es) [] pos) X.env = (do
      let o ← eval (.Name x p1) X.env
      standAt p2.atName
      let (g, f) ← holding [o] (getMethod o "__init__" pl)
      callWith pos g f (backTo pos (starEach (e :: es) X.env)) (backToKw pos (keywordEach [] X.env))) := by rfl)
    (hs : starEach (e :: es) X.env = (false, eval e X.env) :: starEach es X.env := by rfl) (hn : (backTo pos (starEach es X.env)).any (·.1) = false := by rfl) :
    PE X (.Call (.Attribute (.Name x p1) "__init__" p2) (e :: es) [] pos) (tVeI X.K ta) := by
  obtain ⟨C, m, h1, h2, h3⟩ := T
  constructor
  intro pins s σ H Q I h
  refine PySem.W.methodCall_KW (ld_glob I hg m ?_ hdb) hc
  refine PySem.W.method_cls I.kIn h1 (PySem.W.cls_value I.kIn h2 h3 (by decide +kernel) ?_)
  refine PyProof.Rows.callWith_method1 (thn (ha.run pos pins _ σ H _ (I.tok _) h) ?_) hs hn
  rintro us s1 ⟨vs, H1, I1, r1, a, C', ws, rfl, hl, O, ea, q⟩
  cases r1 with
  | @cons _ u _ ur ra r2 =>
    obtain rfl : u = Value.ref a := ra
    refine oinit_ok O I1 ea ?_ fun s2 J => ⟨.non, H1, J, rfl, q⟩
    have := Paired.length r2
    rw [sizeLine_eq]
    omega
end
/-- what __init__ does with a new error at a -/
def spInit (K : PySem.W.Frag) (C : Addr) (fs : List Str) : Sp := fun vs H Q _ => ∃ a ws, vs = .ref a :: ws ∧ ws.length = fs.length ∧ OexC K C ∧ (∀ f ∈ fs, PySem.W.findIn K (.ref C) f = some none) ∧ H a = some (exo a C none) ∧
  ∀ d H', H d = none → d ≠ a → H' a = some (exo a C (some d)) → H' d = some (exd d (fs.zip ws).reverse) → (∀ b, b ≠ a → b ≠ d → H' b = H b) → Q .non H'
theorem spInit_len {K : PySem.W.Frag} {C : Addr} {fs ps : List Str} (h : ps.length = fs.length + 1) : ∀ vs H Q E, spInit K C fs vs H Q E → vs.length = ps.length := by
  rintro vs H Q E ⟨a, ws, rfl, hl, _⟩
  rw [List.length_cons, hl, h]
abbrev tHei (K : PySem.W.Frag) (m : Str) : TS := tDrop (tVeI K (tCons (tVar 0) (tCons (tC (.str m)) tNil)))
abbrev tSto (K : PySem.W.Frag) (f : Str) (i : Nat) : TS := tOst K f (tVar 0) (tVar i)
section
variable {K : PySem.W.Frag} {C : Addr} {m f1 f2 f3 : Str} {vs : List V} {H : Hp} {Q : VK} {E : XK}
theorem init_read1 {N : List Str} (hN : N.length = 2) (h : spInit K C [f1] vs H Q E) : tSeq (tHei K m) (tSto K f1 1) { nx := fun _ H' => Q .non H', rt := Q } (L2.start N vs) H := by
  obtain ⟨a, ws, rfl, hl, O, nf, ea, k⟩ := h
  match ws, hl with
  | [w1], _ =>
    have hst : L2.start N [.ref a, w1] = [some (.ref a), some w1] := by unfold L2.start; rw [hN]; rfl
    rw [hst]
    refine ⟨_, rfl, a, C, _, rfl, by simp, O, ea, ?_⟩
    refine ⟨_, rfl, _, rfl, a, C, rfl, O, nf _ (by simp), .inl ⟨ea, fun d hd hne => ?_⟩⟩
    exact k d _ hd hne upd_same (by rw [upd_ne hne, upd_same]; rfl) fun b h1 h2 => by rw [upd_ne h1, upd_ne h2]
theorem init_read2 {N : List Str} (hN : N.length = 3) (h : spInit K C [f1, f2] vs H Q E) : tSeq (tHei K m) (tSeq (tSto K f1 1) (tSto K f2 2)) { nx := fun _ H' => Q .non H', rt := Q } (L2.start N vs) H := by
  obtain ⟨a, ws, rfl, hl, O, nf, ea, k⟩ := h
  match ws, hl with
  | [w1, w2], _ =>
    have hst : L2.start N [.ref a, w1, w2] = [some (.ref a), some w1, some w2] := by unfold L2.start; rw [hN]; rfl
    rw [hst]
    refine ⟨_, rfl, a, C, _, rfl, by simp, O, ea, ?_⟩
    refine ⟨_, rfl, _, rfl, a, C, rfl, O, nf _ (by simp), .inl ⟨ea, fun d hd hne => ?_⟩⟩
    refine ⟨_, rfl, _, rfl, a, C, rfl, O, nf _ (by simp), .inr ⟨d, _, upd_same, by rw [upd_ne hne, upd_same], by simp, ?_⟩⟩
    exact k d _ hd hne (by rw [upd_ne (Ne.symm hne), upd_same]) upd_same fun b h1 h2 => by rw [upd_ne h2, upd_ne h1, upd_ne h2]
theorem init_read3 {N : List Str} (hN : N.length = 4) (h : spInit K C [f1, f2, f3] vs H Q E) : tSeq (tHei K m) (tSeq (tSto K f1 1) (tSeq (tSto K f2 2) (tSto K f3 3))) { nx := fun _ H' => Q .non H', rt := Q } (L2.start N vs) H := by
  obtain ⟨a, ws, rfl, hl, O, nf, ea, k⟩ := h
  match ws, hl with
  | [w1, w2, w3], _ =>
    have hst : L2.start N [.ref a, w1, w2, w3] = [some (.ref a), some w1, some w2, some w3] := by unfold L2.start; rw [hN]; rfl
    rw [hst]
    refine ⟨_, rfl, a, C, _, rfl, by simp, O, ea, ?_⟩
    refine ⟨_, rfl, _, rfl, a, C, rfl, O, nf _ (by simp), .inl ⟨ea, fun d hd hne => ?_⟩⟩
    refine ⟨_, rfl, _, rfl, a, C, rfl, O, nf _ (by simp), .inr ⟨d, _, upd_same, by rw [upd_ne hne, upd_same], by simp, ?_⟩⟩
    refine ⟨_, rfl, _, rfl, a, C, rfl, O, nf _ (by simp), .inr ⟨d, _, by rw [upd_ne (Ne.symm hne), upd_same], upd_same, by simp, ?_⟩⟩
    exact k d _ hd hne (by rw [upd_ne (Ne.symm hne), upd_ne (Ne.symm hne), upd_same]) upd_same fun b h1 h2 => by rw [upd_ne h2, upd_ne h2, upd_ne h1, upd_ne h2]
end
/-- x is a class of errors with these fields -/
def RaiF (P : Program) (w : World) (K : PySem.W.Frag) (mg : Str → Option Value) (base : Heap) (k : Nat) (x : Str) (fs : List Str) : Prop :=
  ∃ C fI fd ps, mg x = some (.ref C) ∧ OexC K C ∧ (∀ f ∈ fs, PySem.W.findIn K (.ref C) f = some none) ∧ PySem.W.findIn K (.ref C) "__init__" = some (some (.ref fI)) ∧ PySem.W.typeIn K (.ref fI) = some (.type "function") ∧
    FnOk P w K mg base (L2.CX P w) k fI fd ps (spInit K C fs) ∧ Binds K fd ps []
theorem PMk.mono {X : Cx} {e : Expr} {t t' : St → Hp → XK → Prop} (h : PMk X e t) (q : ∀ σ H Q, t' σ H Q → t σ H Q) : PMk X e t' := fun pins s σ H Q I w => h pins s σ H Q I (q σ H Q w)
def sRaiseF (x : Str) (fs : List Str) (a : MA) : MS := fun ρ => ofR (a ρ) ρ fun cs => if fitsN 0 cs = true ∧ cs.length = fs.length ∧ cs.length ≤ 900 then .ex ⟨x, (fs.zip (cs.map Cell.d)).reverse⟩ ρ else .bad
theorem ShA.fld {K : PySem.W.Frag} {S : Hp} : ∀ {vs : List V} {ds : List D} {fs : List Str}, ShA K S vs ds → FldOk K S (fs.zip ds) (fs.zip vs)
  | _, _, [], _ => by simp only [List.zip_nil_left]; exact .nil
  | _, _, _ :: _, .nil => by simp only [List.zip_nil_right]; exact .nil
  | _, _, _ :: _, .cons h t => .cons h (ShA.fld t)
theorem FldOk.snoc {K : PySem.W.Frag} {S : Hp} {f : Str} {d : D} {v : V} : ∀ {fs : List (Str × D)} {vs : List (Str × V)}, FldOk K S fs vs → Sh K S v d → FldOk K S (fs ++ [(f, d)]) (vs ++ [(f, v)])
  | _, _, .nil, h => .cons h .nil
  | _, _, .cons a t, h => .cons a (FldOk.snoc t h)
theorem FldOk.rev {K : PySem.W.Frag} {S : Hp} : ∀ {fs : List (Str × D)} {vs : List (Str × V)}, FldOk K S fs vs → FldOk K S fs.reverse vs.reverse
  | _, _, .nil => .nil
  | _, _, .cons a t => by rw [List.reverse_cons, List.reverse_cons]; exact FldOk.snoc (FldOk.rev t) a
theorem FldOk.ex {K : PySem.W.Frag} {S S' : Hp} (e : Same S S') : ∀ {fs : List (Str × D)} {vs : List (Str × V)}, FldOk K S fs vs → FldOk K S' fs vs
  | _, _, .nil => .nil
  | _, _, .cons a t => .cons (a.ex e) (FldOk.ex e t)
section
variable {X : Cx} {W : WX} {x : Str} {fs : List Str} {k : Nat} {e : Expr} {es : List Expr} {ta : TA} {ma : MA} {p pos pos' : Pos}
theorem sm_raiseF (R : RaiF X.prog X.w X.K X.mg X.base k x fs) (hr : Room (k + 1) X.A) (hc : X.calm = true) (tk : Takes X W) (hg : Gl X x) (hdb : (x == ("__debug__" : Str)) = false) (ha : AM X W (e :: es) ta ma)
    (he : starEach (e :: es) X.env = (false, eval e X.env) :: starEach es X.env := by rfl) (hpl : (backTo pos (starEach es X.env)).any (·.1) = false := by rfl) :
    SM X W (.Raise (some (.Call (.Name x p) (e :: es) [] pos)) none pos') (fun _ σ H => tMkO R.choose (spInit X.K R.choose fs) [] ta σ H fun cls d H' => W cls d σ H') (sRaiseF x fs ma) := by
  obtain ⟨fI, fd, ps, h1, O, nf, iC, tI, F, B⟩ := R.choose_spec
  generalize R.choose = C at *
  constructor
  · refine ps_raise hc tk (pmk_oex (sp := spInit X.K C fs) (ds := []) (dvs := []) O iC tI F hr B .nil (fun pins σ H s er s' I c => ?_) hg h1 ha.p hdb he hpl)
    obtain ⟨_, _, _, _, _, _, _, _, _, _, _, _, z⟩ := c
    exact z.elim
  · intro D ρ hw S F A H σ De hl r en
    obtain ⟨Le, sl, hr'⟩ := r
    refine ha.s ρ (fun cs => fitsN 0 cs = true ∧ cs.length = fs.length ∧ cs.length ≤ 900 ∧ D.ex ⟨x, (fs.zip (cs.map Cell.d)).reverse⟩ ρ) (D.x ρ) ?_ S Le F H σ [] [] _ (sl.view (List.Sublist.refl _)) ⟨[], .nil, hr'⟩ (fun cs vs S1 H1 q hlen e1 r1 => ?_) ?_
    · refine wR_mono (wSR_ofR hw) fun cs _ h => ?_
      obtain ⟨⟨g1, g2, g3⟩, h⟩ := wSR_ite h
      exact ⟨g1, g2, g3, h⟩
    · obtain ⟨q1, q2, q3, q4⟩ := q
      obtain ⟨L, t, hr1⟩ := r1
      obtain ⟨S2, L1, L2', e2, o2, t2, r2⟩ := storeA (n := 0) (M := []) hlen t hr1 (fun c hc => List.all_eq_true.mp q1 c hc)
      obtain ⟨sa, rfl⟩ := o2.to_sh
      refine ⟨by omega, fun a na => ⟨a, vs, by simp, by omega, O, nf, upd_same, fun d H' hd hne g1 g2 g3 => ⟨rfl, d, _, g1, g2, ?_, ?_⟩⟩⟩
      · rw [← hd, upd_ne hne]
      · have hd' : H1 d = none := by rw [← hd, upd_ne hne]
        have ee : upd (del H' a) d (.xd (fs.zip vs).reverse) = upd H1 d (.xd (fs.zip vs).reverse) := by
          funext b
          by_cases hb : b = d
          · rw [hb, upd_same, upd_same]
          · rw [upd_ne hb, upd_ne hb]
            by_cases ha' : b = a
            · rw [ha', del_same, na]
            · rw [del_ne ha', g3 b ha' hb, upd_ne ha']
        rw [ee]
        have r3 : HRel S2 (Le ++ F) H1 := r2.sub (by simp)
        have k3 : Same S2 (upd S2 d (.xd (fs.zip vs).reverse)) := fun b u z => by rw [upd_ne (ne_of_none z (r3.none_of hd'))]; exact z
        exact en.ex _ _ _ ρ σ (upd S2 d (.xd (fs.zip vs).reverse)) _ q4 hl rfl ((e1.trans e2).trans k3) ⟨C, h1, rfl, .inr ⟨d, _, rfl, upd_same, ((ShA.fld sa).rev).ex k3⟩⟩ ⟨Le, sl.ex ((e1.trans e2).trans k3), r3.laid hd'⟩
    · intro y cls d S1 H1 hx e xo hr2
      exact en.ex y cls d ρ σ S1 H1 hx hl rfl e xo ⟨Le, sl.ex e, hr2⟩
end
end VL
set_option maxRecDepth 100000
/-! XI: xs.index(y), xs.count(y) over data without texts. -/
namespace VL
open PySem L2
variable [TB : Tbs]
/-- data without texts, at most n deep -/
def D.pi : Nat → D → Bool
  | _, .non => true | _, .bl _ => true | _, .int _ => true
  | n + 1, .lst xs => xs.all (D.pi n) | n + 1, .tup xs => xs.all (D.pi n)
  | _, _ => false
theorem piA_lay {n : Nat} (h : ∀ d, D.pi n d = true → d.py.canLay0 = true ∧ d.py.depth ≤ n ∧ d.py.plain = true) : ∀ xs : List D, xs.all (D.pi n) = true → PyData.canLayAll0 (pyA xs) = true ∧ PyData.depthAll (pyA xs) ≤ n ∧ PyData.plainAll (pyA xs) = true
  | [], _ => ⟨rfl, Nat.zero_le _, rfl⟩
  | x :: xs, q => by
    rw [List.all_cons, Bool.and_eq_true] at q
    obtain ⟨h1, h2, h5⟩ := h x q.1
    obtain ⟨h3, h4, h6⟩ := piA_lay h xs q.2
    refine ⟨?_, ?_, ?_⟩
    · rw [pyA, PyData.canLayAll0, h1, h3]; rfl
    · rw [pyA, PyData.depthAll]; exact Nat.max_le.mpr ⟨h2, h4⟩
    · rw [pyA, PyData.plainAll, h5, h6]; rfl
theorem pi_lay : ∀ (n : Nat) (d : D), D.pi n d = true → d.py.canLay0 = true ∧ d.py.depth ≤ n ∧ d.py.plain = true
  | n, .non, _ => ⟨rfl, by simp only [D.py, PyData.depth]; exact Nat.zero_le _, rfl⟩
  | n, .bl _, _ => ⟨rfl, by simp only [D.py, PyData.depth]; exact Nat.zero_le _, rfl⟩
  | n, .int _, _ => ⟨rfl, by simp only [D.py, PyData.depth]; exact Nat.zero_le _, rfl⟩
  | n, .str _, h => by cases n <;> simp [D.pi] at h
  | 0, .lst _, h => by simp [D.pi] at h
  | 0, .tup _, h => by simp [D.pi] at h
  | n, .dK _, h => by cases n <;> simp [D.pi] at h
  | n, .dT _, h => by cases n <;> simp [D.pi] at h
  | n, .exn _ _, h => by cases n <;> simp [D.pi] at h
  | n, .dF _, h => by cases n <;> simp [D.pi] at h
  | n, .obj _ _, h => by cases n <;> simp [D.pi] at h
  | n, .pob _ _, h => by cases n <;> simp [D.pi] at h
  | n, .clo _ _, h => by cases n <;> simp [D.pi] at h
  | n + 1, .lst xs, h => by
    rw [D.pi] at h
    obtain ⟨a, b, c⟩ := piA_lay (pi_lay n) xs h
    exact ⟨by rw [D.py, PyData.canLay0]; exact a, by rw [D.py, PyData.depth]; exact Nat.succ_le_succ b, by rw [D.py, PyData.plain]; exact c⟩
  | n + 1, .tup xs, h => by
    rw [D.pi] at h
    obtain ⟨a, b, c⟩ := piA_lay (pi_lay n) xs h
    exact ⟨by rw [D.py, PyData.canLay0]; exact a, by rw [D.py, PyData.depth]; exact Nat.succ_le_succ b, by rw [D.py, PyData.plain]; exact c⟩
theorem pi_shaped {d : D} (h : D.pi 60 d = true) : SeqAt.shaped d.py = true ∧ d.py.plain = true := by
  obtain ⟨a, b, c⟩ := pi_lay 60 d h
  refine ⟨?_, c⟩
  unfold SeqAt.shaped
  rw [a, Bool.true_and, decide_eq_true_eq]
  omega
theorem depth_of_pi {d : D} (h : D.pi 60 d = true) : d.py.depth ≤ 60 := (pi_lay 60 d h).2.1
/-- the first place -/
def idxD (y : D) : List D → Option Nat
  | [] => none
  | x :: xs => if x.eqv y = true then some 0 else (idxD y xs).map (· + 1)
theorem idxD_at {y : D} : ∀ {xs : List D} {j : Nat}, idxD y xs = some j → (∃ z, xs[j]? = some z ∧ z.eqv y = true) ∧ ∀ m z, m < j → xs[m]? = some z → z.eqv y = false
  | [], _, h => by cases h
  | x :: xs, j, h => by
    rw [idxD] at h
    split at h
    · next hx => cases h; exact ⟨⟨x, rfl, hx⟩, fun m z hm => by omega⟩
    · next hx =>
      obtain ⟨i, h1, rfl⟩ := Option.map_eq_some_iff.mp h
      obtain ⟨a, b⟩ := idxD_at h1
      refine ⟨by simpa using a, fun m z hm hz => ?_⟩
      cases m with
      | zero => simp at hz; subst hz; simpa using hx
      | succ m => exact b m z (by omega) (by simpa using hz)
def idxF (ds : List D) (y : D) : Option D := if D.pi 60 (.lst ds) = true ∧ D.pi 60 y = true then (idxD y ds).map fun j => .int (j : Nat) else none
def cntF (ds : List D) (y : D) : Option D := if D.pi 60 (.lst ds) = true ∧ D.pi 60 y = true then some (.int ((ds.countP fun z => z.eqv y) : Nat)) else none
def mLm (f : List D → D → Option D) (o e : ME) : ME := fun ρ => (o ρ).bind fun c => match c.d with
  | .lst ds => (e ρ).bind fun y => (match f ds y.d with | some d => .ok (sh d) | none => .bad)
  | _ => .bad
def rCountD (K : PySem.W.Frag) : V → List V → Hp → VK → Prop := fun x xs H Q => ∃ (a : Addr) (y : V) (d : PyData) (ds : List PyData), x = V.ref a ∧ xs = [y] ∧ Dp K H (V.ref a) (.list ds) ∧ Dp K H y d ∧
  SeqAt.shaped (.list ds) = true ∧ SeqAt.shaped d = true ∧ Q (.int ((ds.countP fun z => PyData.eqv z d) : Nat)) H
theorem mt_countD {X : Cx} (hu : X.A.units + 65 < cLine) : MtR X "list.count" (rCountD X.K) := by
  rintro pins s σ H x xs v us Q I rx rxs ⟨a, y, d, ds, rfl, rfl, hl, hy, sl, sd, q⟩
  cases rx
  obtain ⟨u, rfl, ru⟩ := rxs.one
  obtain ⟨bs, r1⟩ := Dp.reads I d y u hy ru
  have lay : PyData.canLayAll0 ds = true := SeqAt.canLay_of_shaped sl
  have room : X.A.units + 1 + min (PyData.depthAll ds) d.depth < cLine := by
    have := SeqAt.depth_of_shaped sd
    have := Nat.min_le_right (PyData.depthAll ds) d.depth
    omega
  cases hl with
  | lst hs ha =>
    obtain ⟨its, rv, ⟨⟨cls, dd, data, sls⟩, n, ho, hc, hdn, hdt⟩, hlen⟩ := I.list hs
    simp only at hc hdt
    subst hc hdt
    obtain ⟨as, rd⟩ := Dp.readsAll I ds _ its ha rv
    have em : its.map (SeqAt.readOf s.heap) = ds := SeqAt.readsAll_map ds its as lay rd
    refine call_meets PySem.F.slot_list_count ⟨_, ho, rfl⟩ PySem.F.entry_list_count (PySem.F.args_list_count_2 _ _)
      (SeqAt.list_countAt a its.toArray n dd sls u fun z => PyData.eqv (SeqAt.readOf s.heap z) d) ⟨ho, SeqAt.items_eqAt (vs := its.toArray) (show ReadsAll s.heap its.toArray.toList ds as from rd) r1 lay (SeqAt.canLay_of_shaped sd) room, ?_⟩
    have ec : its.toArray.toList.countP (fun z => PyData.eqv (SeqAt.readOf s.heap z) d) = ds.countP fun z => PyData.eqv z d := by
      rw [← em, List.countP_map]; rfl
    exact ⟨.int ((ds.countP fun z => PyData.eqv z d) : Nat), H, I.tok _, ⟨s.toks, by rw [ec]⟩, q⟩
theorem pyA_get {ds : List D} {j : Nat} : (pyA ds)[j]? = (ds[j]?).map D.py := by rw [pyA_map, List.getElem?_map]
section
variable {X : Cx} {W : WX} {o e : Expr} {to te : TE} {mo me : ME} {apos cpos : Pos}
theorem Sh.lstTy {K : PySem.W.Frag} {H : Hp} {v : V} {ds : List D} (h : Sh K H v (.lst ds)) : ∃ a, v = .ref a ∧ tyV K "list" v H := by
  cases h with
  | lst h1 h2 => exact ⟨_, rfl, Or.inl ⟨rfl, _, h1⟩⟩
theorem lst_meth {r : V → List V → Hp → VK → Prop} {f : List D → D → Option D} (ho : EM X W o to mo) (he : EM X W e te me)
    (hr : ∀ ds y d, f ds y = some d → ∀ H v w Q, Sh X.K H v (.lst ds) → Sh X.K H w y → (∀ u, (∀ S, Sh X.K S u d) → Q u H) → r v [w] H Q)
    (hs : starEach (e :: []) X.env = (false, eval e X.env) :: starEach [] X.env) :
    ExprOk X.K X.mg W (tBM X.K "list" r to (tCons te tNil)) (we_ (mLm f mo me)) := by
  intro ρ Q XQ w S Fl F H σ tc tv Q' ev r0 k kx
  simp only [we_, mLm, wR_bind] at w
  refine ho.s ρ _ XQ w S Fl F H σ tc tv _ ev r0 (fun c v S1 H1 q e1 r1 => ?_) kx
  have hv := r1.sh
  split at q
  · next ds hd =>
    rw [hd] at hv
    obtain ⟨a, rfl, ty⟩ := hv.lstTy
    rw [wR_bind] at q
    refine ⟨ty, ?_⟩
    refine (am_cons he am_nil hs).s ρ (fun cs => ∃ y, cs = [y] ∧ wR (match f ds y.d with | some d => .ok (sh d) | none => .bad) Q XQ) XQ ?_ S1 Fl F H1 σ _ _ _ (ev.ex e1) r1 (fun cs vs S2 H2 q2 hl e2 r2 => ?_) (kx.ex e1)
    · show wR ((me ρ).bind fun c => (R.ok []).bind fun cs => .ok (c :: cs)) _ _
      rw [wR_bind]
      exact wR_mono q fun y _ h => ⟨y, rfl, h⟩
    · obtain ⟨y, rfl, q2⟩ := q2
      obtain ⟨w1, rfl⟩ : ∃ w1, vs = [w1] := by
        match vs, hl with
        | [w1], _ => exact ⟨w1, rfl⟩
      have hl2 := r2.sh2
      rw [hd] at hl2
      split at q2
      · next d hf => exact hr ds y.d d hf H2 _ w1 Q' hl2 r2.sh fun u hu => k _ u S2 H2 q2 (e1.trans e2) (r2.tail.tail.push (hu S2))
      · exact q2.elim
  · exact q.elim
theorem em_idx (hu : X.A.units + 64 < cLine) (hu2 : X.A.units + 65 < cLine) (ho : EM X W o to mo) (he : EM X W e te me) (hbase : attributeBase o "index" X.env (eval o X.env) = eval o X.env := by rfl)
    (hfew : ((backTo cpos (starEach [e] X.env)).all (fun x => !x.1) && (backToKw cpos (keywordEach [] X.env)).all (fun x => x.1.isSome) && decide ([e].length + ([] : List Keyword).length + (if ([] : List Keyword).isEmpty then 0 else 1) < 30)) = true := by rfl)
    (hline : (apos.endLine == cpos.line) = true := by rfl) (hs : starEach [e] X.env = (false, eval e X.env) :: starEach [] X.env := by rfl) (hplain : (backTo cpos (starEach [] X.env)).any (·.1) = false := by rfl) :
    EM X W (.Call (.Attribute o "index" apos) [e] [] cpos) (tBM X.K "list" (rIndexD X.K) to (tCons te tNil)) (mLm idxF mo me) :=
  ⟨pe_bm PySem.F.plainAttrs_list PySem.F.slot_list_index PySem.F.type_list_index (mt_indexD hu2) ho.p (pa_cons he.p pa_nil hs) hbase hfew hline hs hplain, lst_meth ho he (fun ds y d hf H v w Q hv hw k => by
    unfold idxF at hf
    split at hf
    · next h =>
      obtain ⟨j, hj, rfl⟩ := Option.map_eq_some_iff.mp hf
      obtain ⟨⟨z, h1, h2⟩, h3⟩ := idxD_at hj
      obtain ⟨a, rfl, _⟩ := hv.lstTy
      have s1 := pi_shaped h.1
      have s2 := pi_shaped h.2
      rw [D.py] at s1
      have dl := hv.dp (by rw [D.py]; exact s1.2)
      rw [D.py] at dl
      refine ⟨a, w, y.py, pyA ds, j, z.py, rfl, rfl, dl, hw.dp s2.2, s1.1, s2.1, by rw [pyA_get, h1]; rfl, h2, fun m z' hm hz => ?_, k _ fun S => .int _⟩
      rw [pyA_get] at hz
      obtain ⟨z2, hz2, rfl⟩ := Option.map_eq_some_iff.mp hz
      exact h3 m z2 hm hz2
    · cases hf) hs⟩
theorem em_cnt (hu : X.A.units + 64 < cLine) (hu2 : X.A.units + 65 < cLine) (ho : EM X W o to mo) (he : EM X W e te me) (hbase : attributeBase o "count" X.env (eval o X.env) = eval o X.env := by rfl)
    (hfew : ((backTo cpos (starEach [e] X.env)).all (fun x => !x.1) && (backToKw cpos (keywordEach [] X.env)).all (fun x => x.1.isSome) && decide ([e].length + ([] : List Keyword).length + (if ([] : List Keyword).isEmpty then 0 else 1) < 30)) = true := by rfl)
    (hline : (apos.endLine == cpos.line) = true := by rfl) (hs : starEach [e] X.env = (false, eval e X.env) :: starEach [] X.env := by rfl) (hplain : (backTo cpos (starEach [] X.env)).any (·.1) = false := by rfl) :
    EM X W (.Call (.Attribute o "count" apos) [e] [] cpos) (tBM X.K "list" (rCountD X.K) to (tCons te tNil)) (mLm cntF mo me) :=
  ⟨pe_bm PySem.F.plainAttrs_list PySem.F.slot_list_count PySem.F.type_list_count (mt_countD hu2) ho.p (pa_cons he.p pa_nil hs) hbase hfew hline hs hplain, lst_meth ho he (fun ds y d hf H v w Q hv hw k => by
    unfold cntF at hf
    split at hf
    · next h =>
      cases hf
      obtain ⟨a, rfl, _⟩ := hv.lstTy
      have s1 := pi_shaped h.1
      have s2 := pi_shaped h.2
      rw [D.py] at s1
      have dl := hv.dp (by rw [D.py]; exact s1.2)
      rw [D.py] at dl
      have ec : ((pyA ds).countP fun z => PyData.eqv z y.py) = ds.countP fun z => z.eqv y := by rw [pyA_map, List.countP_map]; rfl
      exact ⟨a, w, y.py, pyA ds, rfl, rfl, dl, hw.dp s2.2, s1.1, s2.1, by rw [ec]; exact k _ fun S => .int _⟩
    · cases hf) hs⟩

/-! ### xs[::-1] -/
def mRevL (e : ME) : ME := fun ρ => (e ρ).bind fun c => match c.d with
  | .lst ds => if c.flat = true ∧ ds.length ≤ sizeLine then .ok (own 1 (.lst ds.reverse)) else .bad
  | _ => .bad
theorem ShA.rev2 {K : PySem.W.Frag} {S : Hp} : ∀ {vs : List V} {ds : List D}, ShA K S vs ds → ShA K S vs.reverse ds.reverse
  | _, _, .nil => .nil
  | _, _, .cons h t => by
    rw [List.reverse_cons, List.reverse_cons]
    exact (ShA.rev2 t).append (.cons h .nil)
theorem em_revL {k : Nat} {p1 p2 p3 pos : Pos} (he : EM X W e te me) : EM X W (.Subscript e (.Slice none none (some (.UnaryOp .USub (.Constant (.int 1) k p1) p2)) p3) pos) (tRevL X.K te) (mRevL me) := by
  refine ⟨pe_revL he.p, ?_⟩
  intro ρ Q XQ w S Fl F H σ tc tv Q' ev r0 k kx
  simp only [we_, mRevL, wR_bind] at w
  refine he.s ρ _ XQ w S Fl F H σ tc tv _ ev r0 (fun c v S1 H1 q1 s1 r1 => ?_) kx
  split at q1
  · next ds hd =>
    obtain ⟨⟨h1, h2⟩, q2⟩ := wR_ite q1
    obtain ⟨S2, a, vs, s2, rfl, g1, g2, g3, r2⟩ := r1.items (ds := ds) (by rw [hd]; rfl) h1
    rw [hd] at g1
    refine ⟨a, vs, rfl, g1, fun p0 hp0 => ?_⟩
    exact k _ _ _ _ q2 (s1.trans s2) (r2.mkL hp0 g2.rev2 (by rw [List.length_reverse, g3]; exact h2))
  · exact q1.elim
theorem x_revL (e : ME) (ρ : Env) : mRevL e ρ = (e ρ).bind fun c => match c.d with
  | .lst ds => if c.flat = true ∧ ds.length ≤ sizeLine then .ok (own 1 (.lst ds.reverse)) else .bad
  | _ => .bad := rfl
end

/-! ### isinstance(e, (A, B)) -/
def mIsX2 (tab tab2 : List (Str × Bool)) (e : ME) : ME := fun ρ => (e ρ).bind fun c => match c.d with
  | .exn cls _ => (match lookX tab cls, lookX tab2 cls with | some b, some b2 => .ok (sh (.bl (b || b2))) | _, _ => .bad)
  | _ => .bad
def rIsX2 (K : PySem.W.Frag) : List V → Hp → VK → Prop := fun xs H Q => ∃ (a C tp : Addr) (d : Option Addr) (c1 c2 : V) (b : Bool), xs = [.ref a, .ref tp] ∧ H tp = some (.tup [c1, c2]) ∧ (∀ u, RelV c1 u → u = cvOf c1) ∧ (∀ u, RelV c2 u → u = cvOf c2) ∧
  H a = some (ExK (.ref C) d a) ∧ (d = none ∨ ∃ dd fs, d = some dd ∧ H dd = some (.xd fs)) ∧ ErrC K C ∧ PySem.W.kitAny K (.ref C) [cvOf c1, cvOf c2] = some b ∧ Q (.bl b) H
theorem call_isX2 {X : Cx} : CallR X (.builtin "isinstance") (rIsX2 X.K) := by
  intro pins s σ H xs us Q I r h
  obtain ⟨a, C, tp, d, c1, c2, b, rfl, hT, h1, h2, e, hd, E, k, q⟩ := h
  cases r with
  | cons r1 r =>
    cases r with
    | cons r2 r =>
      cases r
      cases r1
      cases r2
      obtain ⟨oe, od, J, _⟩ := exk_inst I e hd
      obtain ⟨_, its, rv, o, g1, g2, n, g3⟩ := (show ObjOk X.prog X.w H s.heap tp (.tup [c1, c2]) from I.hok tp _ hT)
      have ei : its = [cvOf c1, cvOf c2] := by
        cases rv with
        | cons a1 rv =>
          cases rv with
          | cons a2 rv =>
            cases rv
            rw [h1 _ a1, h2 _ a2]
      subst ei
      obtain ⟨oc, od', dt, sl⟩ := o
      simp only at g2 g3
      subst g2 g3
      exact PySem.W.kia_tup (PySem.W.kitx_exc (ox := oe) (od := od) E.cl E.ga E.gt E.sb E.kl E.sp E.tk E.ob) I.kIn J g1 k (fun z => nomatch z) fun tk => ⟨.bl b, H, I.tok tk, rfl, q⟩
section
variable {X : Cx} {W : WX} {a : Expr} {ta : TE} {ma : ME} {p p2 p3 pt pos : Pos} {t u : Str} {k : Nat}
theorem em_isX2 (tab tab2 : List (Str × Bool)) (T : IsX X.K X.mg t tab) (U : IsX X.K X.mg u tab2) (hg : Gl X "isinstance") (hm : X.mg "isinstance" = none) (hgt : Gl X t) (hgu : Gl X u) (hdb : (t == ("__debug__" : Str)) = false) (hdu : (u == ("__debug__" : Str)) = false) (ha : EM X W a ta ma)
    (h1 : starEach [.Name t p2, .Name u p3] X.env = (false, eval (.Name t p2) X.env) :: starEach [.Name u p3] X.env := by rfl) (h2 : starEach [.Name u p3] X.env = (false, eval (.Name u p3) X.env) :: starEach [] X.env := by rfl)
    (he : starEach [a, .Tuple [.Name t p2, .Name u p3] k pt] X.env = (false, eval a X.env) :: starEach [.Tuple [.Name t p2, .Name u p3] k pt] X.env := by rfl) (he2 : starEach [.Tuple [.Name t p2, .Name u p3] k pt] X.env = (false, eval (.Tuple [.Name t p2, .Name u p3] k pt) X.env) :: starEach [] X.env := by rfl)
    (hpl : (backTo pos (starEach [.Tuple [.Name t p2, .Name u p3] k pt] X.env)).any (·.1) = false := by rfl) :
    EM X W (.Call (.Name "isinstance" p) [a, .Tuple [.Name t p2, .Name u p3] k pt] [] pos) (tCB (rIsX2 X.K) (tCons ta (tCons (tTup (tCons (tC T.choose) (tCons (tC U.choose) tNil))) tNil))) (mIsX2 tab tab2 ma) := by
  obtain ⟨g1, g2⟩ := T.choose_spec
  obtain ⟨g3, g4⟩ := U.choose_spec
  refine ⟨pe_callB call_isX2 hg hm (by decide +kernel) (pa_cons ha.p (pa_cons (pe_tup (pa_cons (pe_cls g1 hgt hdb) (pa_cons (pe_cls g3 hgu hdu) pa_nil h2) h1)) pa_nil he2) he) (by decide) (by decide) he hpl, ?_⟩
  intro ρ Q XQ w S Fl F H σ tc tv Q' ev r0 k kx
  simp only [we_, mIsX2, wR_bind] at w
  refine ha.s ρ _ XQ w S Fl F H σ tc tv _ ev r0 (fun c v S1 H1 q e1 r1 => ?_) kx
  split at q
  · next cls fs hd =>
    split at q
    · next b b2 hb hb2 =>
      have hv := r1.exn hd
      obtain ⟨C, n, E, kt⟩ := g2 _ (lookX_mem hb)
      obtain ⟨C', n', _, kt'⟩ := g4 _ (lookX_mem hb2)
      rw [n] at n'
      cases n'
      obtain ⟨a', d, vs, rfl, f1, f2, f3⟩ := hv.exnE n
      refine ⟨by show 2 ≤ sizeLine; rw [sizeLine_eq]; omega, fun tp hp => ?_⟩
      obtain ⟨r2, e2⟩ := r1.laid (o := .tup [T.choose, U.choose]) hp
      refine ⟨a', C, tp, d, _, _, b || b2, rfl, upd_same, g1.eq, g3.eq, ?_, ?_, E, ?_, k _ _ _ _ q (e1.trans e2) (r2.tail.push (.bl _))⟩
      · exact r2.same _ _ (e2 _ _ f1)
      · exact f2.imp (·.1) fun ⟨x, y, z⟩ => ⟨x, _, y, r2.same _ _ (e2 _ _ z)⟩
      · rw [PySem.W.kitAny, kt, PySem.W.kitAny, kt', PySem.W.kitAny]
        cases b <;> cases b2 <;> rfl
    · exact q.elim
  · exact q.elim
end

/-! ### not, with effects -/
def ftNot (t : MFT) : MFT := fun ρ => (t ρ).bind fun b ρ1 => .ok (!b) ρ1
theorem ft_not_s {K : PySem.W.Frag} {mg : Str → Option Value} {W : WX} {t : TT} {m : MFT} (h : FTOk K mg W t m) : FTOk K mg W (tNot t) (ftNot m) := by
  intro ρ S F A H σ Le M Q' hl sl hr
  have h1 := h ρ S F A H σ Le M (fun b H' => Q' (!b) H') hl sl hr
  unfold ftNot
  cases hm : m ρ with
  | bad => trivial
  | ex x ρ1 => rw [hm] at h1; exact h1
  | ok c ρ1 => rw [hm] at h1; exact h1
theorem ftm_not {X : Cx} {W : WX} {a : Expr} {sa : TT} {ua : MFT} {pos : Pos} (ha : FTM X W a sa ua) : FTM X W (.UnaryOp .Not a pos) (tNot sa) (ftNot ua) := ⟨pt_not ha.p, ft_not_s ha.s⟩
theorem ftm_val {X : Cx} {W : WX} {e : Expr} {te : TE} {m : MF} (h : FM X W e te m) (he : ∀ whole, isTrue e X.env whole = (do let v ← whole; standAt e.pos; holding [v] (truthy v)) := by intro _; rfl) : FTM X W e (tB te) (ftTst m) := ⟨pt_val h.p he, ft_tst_s h.s⟩
theorem x_ftNot (t : MFT) (ρ : Env) : ftNot t ρ = (t ρ).bind fun b ρ1 => .ok (!b) ρ1 := rfl
theorem x_mLm (f : List D → D → Option D) (o e : ME) (ρ : Env) : mLm f o e ρ = (o ρ).bind fun c => match c.d with
  | .lst ds => (e ρ).bind fun y => (match f ds y.d with | some d => .ok (sh d) | none => .bad)
  | _ => .bad := rfl
theorem x_isX (tab : List (Str × Bool)) (e : ME) (ρ : Env) : mIsX tab e ρ = (e ρ).bind fun c => match c.d with
  | .exn cls _ => (match lookX tab cls with | some b => .ok (sh (.bl b)) | none => .bad)
  | _ => .bad := rfl
theorem x_isX2 (tab tab2 : List (Str × Bool)) (e : ME) (ρ : Env) : mIsX2 tab tab2 e ρ = (e ρ).bind fun c => match c.d with
  | .exn cls _ => (match lookX tab cls, lookX tab2 cls with | some b, some b2 => .ok (sh (.bl (b || b2))) | _, _ => .bad)
  | _ => .bad := rfl
theorem x_fldX (tab : List Str) (f : Str) (e : ME) (ρ : Env) : mFldX tab f e ρ = (e ρ).bind fun c => match c.d with
  | .exn cls fs => if hasX tab cls = true then (match fldX fs f with | some d => .ok (sh d) | none => .bad) else .bad
  | _ => .bad := rfl
theorem y_raise (x : Str) (ρ : Env) : sRaise x ρ = .ex ⟨x, []⟩ ρ := rfl
theorem y_raiseF (x : Str) (fs : List Str) (a : MA) (ρ : Env) : sRaiseF x fs a ρ = ofR (a ρ) ρ fun cs => if fitsN 0 cs = true ∧ cs.length = fs.length ∧ cs.length ≤ 900 then .ex ⟨x, (fs.zip (cs.map Cell.d)).reverse⟩ ρ else .bad := rfl
theorem y_try (tab : List Str) (i : Nat) (b h : MS) (ρ : Env) : sTry tab i b h ρ = trySel tab i h (b ρ) := rfl
theorem trySel_ex (tab : List Str) (i : Nat) (hs : MS) (x : Exn) (ρ : Env) : trySel tab i hs (.ex x ρ) = if hasX tab x.cls = true ∧ i < ρ.length then tryEnd i (hs (ρ.set i (some (sh (.exn x.cls x.fs))))) else .bad := rfl
theorem trySel_nx (tab : List Str) (i : Nat) (hs : MS) (ρ : Env) : trySel tab i hs (.nx ρ) = .nx ρ := rfl
theorem trySel_rt (tab : List Str) (i : Nat) (hs : MS) (c : Cell) (ρ : Env) : trySel tab i hs (.rt c ρ) = .rt c ρ := rfl
theorem trySel_bad (tab : List Str) (i : Nat) (hs : MS) : trySel tab i hs .bad = .bad := rfl
theorem trySel_ite (tab : List Str) (i : Nat) (hs : MS) (p : Prop) [Decidable p] (a b : SR) : trySel tab i hs (if p then a else b) = if p then trySel tab i hs a else trySel tab i hs b := by split <;> rfl
theorem tryEnd_nx (i : Nat) (ρ : Env) : tryEnd i (.nx ρ) = .nx (ρ.set i none) := rfl
theorem tryEnd_rt (i : Nat) (c : Cell) (ρ : Env) : tryEnd i (.rt c ρ) = .rt c ρ := rfl
theorem tryEnd_ct (i : Nat) (ρ : Env) : tryEnd i (.ct ρ) = .ct (ρ.set i none) := rfl
theorem tryEnd_bk (i : Nat) (ρ : Env) : tryEnd i (.bk ρ) = .bk (ρ.set i none) := rfl
theorem tryEnd_ite (i : Nat) (p : Prop) [Decidable p] (a b : SR) : tryEnd i (if p then a else b) = if p then tryEnd i a else tryEnd i b := by split <;> rfl
theorem isN_exn (c : Str) (fs : List (Str × D)) : isN (.exn c fs) = false := rfl
end VL
set_option maxRecDepth 100000
/-! XJ: the values of a new dict walked; sorted(d) of a dict with fewer than 64 keys, all ints. -/
namespace VL
open PySem L2
variable [TB : Tbs]
def tFrz (te : TE) : TE := fun σ H Q => te σ H fun x H1 => ∃ a u, x = .ref a ∧ H1 a = some u ∧ Mut (some u) ∧ ∀ od, Q x (upd H1 a (.frz od u))
theorem pe_frz {X : Cx} {e : Expr} {te : TE} (h : PE X e te) : PE X e (tFrz te) := by
  refine ⟨fun pins s σ H Q I hw => ?_⟩
  refine thn (h.run pins s σ H _ I hw) fun v s1 ⟨x, H1, I1, rx, a, u, ex, hu, mu, q⟩ => ?_
  obtain ⟨od, I2⟩ := I1.lock hu mu
  exact ⟨x, _, I2, rx, q od⟩
theorem ShE.get' {K : PySem.W.Frag} {S : Hp} : ∀ {κ : Type} {vs : List (κ × V)} {es : List (κ × D)}, ShE K S κ vs es → ∀ {i : Nat} {k : κ} {v : V}, vs[i]? = some (k, v) → ∃ d, es[i]? = some (k, d) ∧ Sh K S v d
  | _, _, _, .nil, i, k, v, h => by simp at h
  | _, _, _, .cons h _, 0, k, v, e => by simp at e; obtain ⟨rfl, rfl⟩ := e; exact ⟨_, rfl, h⟩
  | _, _, _, .cons _ t, i + 1, k, v, e => by
    obtain ⟨d, h1, h2⟩ := ShE.get' t (i := i) (k := k) (v := v) (by simpa using e)
    exact ⟨d, by simpa using h1, h2⟩
theorem ShE.keys {K : PySem.W.Frag} {S : Hp} : ∀ {κ : Type} {vs : List (κ × V)} {es : List (κ × D)}, ShE K S κ vs es → vs.map (·.1) = es.map (·.1)
  | _, _, _, .nil => rfl
  | _, _, _, .cons _ t => by rw [List.map_cons, List.map_cons, ShE.keys t]
theorem walk_vals {K : PySem.W.Frag} {S0 : Hp} {a : Addr} {o : Obj} {kvs : List (Key × V)} {es : List (Key × D)} (h : S0 a = some (.frz o (.dK kvs))) (t : ShE K S0 Key kvs es) :
    WalkV K S0 (Itd a o kvs) [] [] (es.map fun p => sh p.2) := by
  intro i S Fl F M H e _ hr
  have hl := t.length
  rw [List.length_map]
  have hH := hr.sh _ _ (e _ _ h)
  refine ⟨fun hi => ⟨hH, by omega⟩, fun hi => ⟨hH, by omega⟩, fun hi x H' hy => ?_⟩
  obtain ⟨rfl, k, hk⟩ := hy
  obtain ⟨d, h1, h2⟩ := ShE.get' (t.ex e) hk
  exact ⟨sh d, S, by simp [h1], Same.refl S, hr, .o (.sh h2)⟩
def wiVals (we : WE) : WI := fun ρ Q X => we ρ (fun c => ∃ n es, c = own (n + 1) (.dK es) ∧ Q [] (es.map fun p => sh p.2)) X
def miVals (e : ME) : MI := fun ρ => (e ρ).bind fun c => match c with
  | ⟨.o, _ + 1, .dK es⟩ => .ok (true, es.map fun p => sh p.2)
  | _ => .bad
section
variable {X : Cx} {W : WX} {tg e : Expr} {te : TE} {we : WE} {m : ME} {apos cpos : Pos}
theorem ci_vals (h : CE X W e te we) (hbase : attributeBase e "values" X.env (eval e X.env) = eval e X.env := by rfl) (hline : (apos.endLine == cpos.line) = true := by rfl) :
    CI X W tg (.Call (.Attribute e "values" apos) [] [] cpos) (iVals (tFrz te)) (wiVals we) := by
  obtain ⟨a1, a2⟩ := h
  refine ⟨pi_values (pe_frz a1) hbase hline, ?_⟩
  intro ρ Q XQ w S Fl F H σ tc tv R' ev r0 k kx
  refine a2 ρ _ XQ w S Fl F H σ tc tv _ ev r0 (fun c v S1 H1 q e1 r1 => ?_) kx
  obtain ⟨n, es, rfl, q⟩ := q
  obtain ⟨L, t, hr⟩ := r1
  cases t with
  | @cons _ _ _ _ La Lb a t0 =>
    cases a with
    | o a =>
      cases a with
      | @dK _ ad kvs _ L1 oe =>
        have hm := hr.all (ad, .dK kvs) (by simp)
        refine ⟨ad, .dK kvs, rfl, hm, True.intro, fun od => ⟨ad, od, kvs, rfl, upd_same, ?_⟩⟩
        have hr2 : HRel S1 ((ad, HO.dK kvs) :: (L1 ++ (Lb ++ (Fl ++ F)))) H1 := by simpa [List.append_assoc] using hr
        have hr3 := hr2.put (o' := HO.frz od (.dK kvs))
        have hr4 : HRel S1 (((ad, HO.frz od (.dK kvs)) :: L1) ++ (Lb ++ (Fl ++ F))) (upd H1 ad (.frz od (.dK kvs))) := hr3
        obtain ⟨f1, f2, f3⟩ := hr4.freeze
        exact k [] [] _ _ _ _ q (e1.trans f2) ⟨_, t0.ex f2, f1⟩ .nil (walk_vals (f3 (ad, _) List.mem_cons_self) (OwnE.sh' f2 oe fun p hp => f3 p (List.mem_cons_of_mem _ hp)))
theorem im_vals (h : EM X W e te m) (hbase : attributeBase e "values" X.env (eval e X.env) = eval e X.env := by rfl) (hline : (apos.endLine == cpos.line) = true := by rfl) :
    IM X W tg (.Call (.Attribute e "values" apos) [] [] cpos) (iVals (tFrz te)) (miVals m) := (ci_vals h hbase hline).mono fun ρ Q XQ h => by
  simp only [wi_, miVals, wR_bind] at h
  refine wR_mono h fun c _ h => ?_
  split at h
  · next n es _ => exact ⟨n, es, rfl, h _ fun _ => rfl⟩
  · exact h.elim
end
theorem x_iVals (e : ME) (ρ : Env) : miVals e ρ = (e ρ).bind fun c => match c with | ⟨.o, _ + 1, .dK es⟩ => .ok (true, es.map fun p => sh p.2) | _ => .bad := rfl

/-! ### sorted(d) -/
def intKs : List (Key × D) → Option (List Int)
  | [] => some []
  | (.inl i, _) :: es => (intKs es).map (i :: ·)
  | _ => none
theorem intKs_of : ∀ {es : List (Key × D)} {ks : List Int}, intKs es = some ks → es.map (·.1) = ks.map Sum.inl
  | [], ks, h => by cases h; rfl
  | (.inl i, d) :: es, ks, h => by
    unfold intKs at h
    cases q : intKs es with
    | none => rw [q] at h; cases h
    | some l => rw [q] at h; cases h; rw [List.map_cons, List.map_cons, intKs_of q]
  | (.inr _, _) :: es, ks, h => by cases h
noncomputable def sorted2M : MC := fun cs => match cs with
  | [⟨b, n, .dK es⟩] => (match intKs es with
    | some ks => if ks.length < 64 then some (own 1 (.lst ((sortI ks).map D.int))) else none
    | none => none)
  | cs => sortedM cs
def rSortedDI : List V → Hp → VK → Prop := fun xs H Q => ∃ (a : Addr) (kvs : List (Key × V)) (ks : List Int), xs = [.ref a] ∧ Rd H a (.dK kvs) ∧ kvs.map (·.1) = ks.map Sum.inl ∧ ks.length < 64 ∧
    ∀ (ys : List Int) (p : Addr), ys.Perm ks → ys.Pairwise (· ≤ ·) → H p = none → Q (.ref p) (upd H p (.lst (ys.map V.int)))
def rSorted2 (K : PySem.W.Frag) : List V → Hp → VK → Prop := fun vs H Q => rSortedD K vs H Q ∨ rSortedDI vs H Q
theorem cr_sorted2 {X : Cx} (hu : X.A.units + 64 < cLine) (hc : X.calm = true) : CallR X (.builtin "sorted") (rSorted2 X.K) := by
  intro pins s σ H vs us Q I r h
  rcases h with h | h
  · exact cr_sortedD hu pins s σ H vs us Q I r h
  · exact L2.call_sortedDI hc pins s σ H vs us Q I r h
theorem ShA.ints2 {K : PySem.W.Frag} {S : Hp} : ∀ xs : List Int, ShA K S (xs.map V.int) (xs.map D.int)
  | [] => .nil
  | x :: xs => .cons (.int x) (ShA.ints2 xs)
def cSorted2 : WF := fun cs Q => cSorted cs Q ∨ ∃ c es ks, cs = [c] ∧ c.d = .dK es ∧ intKs es = some ks ∧ ks.length < 64 ∧ Q (own 1 (.lst ((sortI ks).map D.int)))
theorem ok_sorted2 {K : PySem.W.Frag} : CallOk K (rSorted2 K) cSorted2 := by
  rintro cs Q (h | ⟨c, es, ks, rfl, hd, hk, h64, q⟩) S Fl F H vs tc tv Q' hl r k
  · exact .inl (ok_sorted cs Q h S Fl F H vs tc tv Q' hl r k)
  · obtain ⟨v, rfl⟩ := vs1 hl rfl
    have a := Rel.sh r
    rw [hd] at a
    cases a with
    | @dK ad kvs _ h t =>
      refine .inr ⟨ad, kvs, ks, rfl, h, t.keys.trans (intKs_of hk), h64, fun ys p hp hs hn => ?_⟩
      have e : ys = sortI ks := pair_uniq (hp.trans (sortI_perm ks).symm) hs (sortI_le ks)
      subst e
      refine k _ _ S _ q (Same.refl S) ((Rel.tail r).mkL hn (ShA.ints2 _) ?_)
      have := sortI_len ks
      rw [List.length_map, this]
      have : sizeLine = 16777216 := by decide
      omega
theorem sorted2_c {cs : List Cell} {c : Cell} {Q : Cell → Prop} (h : sorted2M cs = some c) (q : Q c) : cSorted2 cs Q := by
  unfold sorted2M at h
  split at h
  · split at h
    · next es ks hk =>
      split at h
      · next h64 => cases h; exact .inr ⟨_, _, _, rfl, rfl, hk, h64, q⟩
      · cases h
    · cases h
  · refine .inl ?_
    unfold sortedM at h
    split at h
    · split at h
      · next ds hd =>
        split at h
        · next h1 => cases h; exact ⟨_, ds, rfl, hd, h1.1, h1.2.1, h1.2.2.1, h1.2.2.2.1, h1.2.2.2.2, q⟩
        · cases h
      · cases h
    · cases h
theorem cm_sorted2 {K : PySem.W.Frag} : CbM K (rSorted2 K) sorted2M := ⟨_, ok_sorted2, fun cs c h Q q => sorted2_c h q⟩
end VL
set_option maxRecDepth 100000
/-! XK: for k in d: the dict of a slot, shared and locked from the loop on. -/
namespace VL
open PySem L2
variable [TB : Tbs]
theorem ShE.getK {K : PySem.W.Frag} {S : Hp} {κ : Type} {vs : List (κ × V)} {es : List (κ × D)} (h : ShE K S κ vs es) {i : Nat} {k : κ} {v : V} (e : vs[i]? = some (k, v)) : ∃ d, es[i]? = some (k, d) :=
  let ⟨d, h1, _⟩ := h.get' e; ⟨d, h1⟩
def keyC : Key → D
  | .inl i => .int i
  | .inr s => .str s
theorem sh_keyC {K : PySem.W.Frag} {S : Hp} : ∀ k : Key, Sh K S (kV k) (keyC k)
  | .inl i => .int i
  | .inr s => .str s
theorem walk_keys {K : PySem.W.Frag} {S0 : Hp} {a : Addr} {o : Obj} {kvs : List (Key × V)} {es : List (Key × D)} (h : S0 a = some (.frz o (.dK kvs))) (t : ShE K S0 Key kvs es) :
    WalkV K S0 (Itk a o kvs) [] [] (es.map fun p => sh (keyC p.1)) := by
  intro i S Fl F M H e _ hr
  have hl := t.length
  rw [List.length_map]
  have hH := hr.sh _ _ (e _ _ h)
  refine ⟨fun hi => ⟨hH, by omega⟩, fun hi => ⟨hH, by omega⟩, fun hi x H' hy => ?_⟩
  obtain ⟨rfl, k, v, hk, rfl⟩ := hy
  obtain ⟨d, h1⟩ := t.getK hk
  exact ⟨sh (keyC k), S, by simp [h1], Same.refl S, hr, .o (.sh (sh_keyC k))⟩
def tForJ (J : It) (gt : TG) (tb : TS) : TS := tFor (fun σ H R => R J H) gt tb
theorem forJ_sound {K : PySem.W.Frag} {mg : Str → Option Value} {W : WX} {gt : TG} {g : WG} {tb : TS} {body : WS} {dead : List Nat} (hg : GOk K gt g) (hb : StmtOk K mg W tb body) {S0 : Hp} {J : It} {xs : List Cell} (wk : WalkV K S0 J [] [] xs)
    {D : WEnds} {ρ : Env} {S F A H σ De} (e0 : Same S0 S) (hl : σ.length = ρ.length) (r : SRel K S F A H ρ σ) (en : EndsOk K mg W S F A ρ.length D De) (I : List Cell → Env → Prop) (i0 : I [] ρ)
    (turn : ∀ pre x post ρ', xs = pre ++ x :: post → I pre ρ' → ρ'.length = ρ.length → g x (wipeE ρ' dead) (fun ρ2 => body { D with nx := I (pre ++ [x]), ct := I (pre ++ [x]), bk := fun ρ3 => D.nx (wipeE ρ3 dead) } ρ2)) (fin : ∀ ρ', I xs ρ' → ρ'.length = ρ.length → D.nx (wipeE ρ' dead)) :
    tForJ J gt tb De σ H := by
  refine ⟨fun i m σ' H' => m = xs.length - i ∧ i ≤ xs.length ∧ ∃ ρ' S', I (xs.take i) ρ' ∧ σ'.length = ρ.length ∧ ρ'.length = ρ.length ∧ Same S S' ∧ SRel K S' F A H' ρ' σ', ⟨_, rfl, Nat.zero_le _, ρ, S, by simpa using i0, hl, rfl, Same.refl S, r⟩, ?_⟩
  rintro i m σ' H' ⟨rfl, hi', ρ', S', ii, l1, l2, e2, Le', sl', hr'⟩
  have w := wk i S' [] F Le' H' (e0.trans e2) .nil (by simpa using hr')
  by_cases hlt : i < xs.length
  · refine .inr ⟨w.1 hlt, fun σ2 H2 => ∃ ρ2 S2, I (xs.take (i + 1)) ρ2 ∧ σ2.length = ρ.length ∧ ρ2.length = ρ.length ∧ Same S S2 ∧ SRel K S2 F A H2 ρ2 σ2, fun σ2 H2 ⟨ρ2, S2, a, b, c, d, e⟩ => ⟨xs.length - (i + 1), by omega, rfl, hlt, ρ2, S2, a, b, c, d, e⟩, fun x H2 hy => ?_⟩
    obtain ⟨c, S2, hc, e3, hr2, cok⟩ := w.2.2 hlt x H2 hy
    have hxc : xs[i] = c := by
      rw [List.getElem?_eq_getElem hlt] at hc; exact Option.some.inj hc
    have tk : xs.take (i + 1) = xs.take i ++ [c] := by rw [List.take_succ, hc]; rfl
    have spl : xs = xs.take i ++ c :: xs.drop (i + 1) := by
      rw [← hxc]
      simp
    have t0 := turn (xs.take i) c (xs.drop (i + 1)) ρ' spl ii l2
    obtain ⟨Lw, slw, hsw⟩ := sl'.wipe dead
    rw [← wipeE_len (ρ := ρ') dead] at l2
    refine hg c (wipeE ρ' dead) _ t0 S2 F A H2 [] [] Lw σ' x _ (l1.trans l2.symm) (slw.ex e3) cok (by
      have hr4 : HRel S2 (Le' ++ F) H2 := by simpa using hr2
      simpa using hr4.sub (hsw.append (List.Sublist.refl F))) fun ρ3 σ3 Le3 S3 H3 q3 m1 m2 e3' sl3 hr3 => ?_
    replace e3 := e3.trans e3'
    refine hb _ ρ3 q3 S3 F A H3 σ3 _ (m1.trans m2.symm) ⟨Le3, sl3, by simpa using hr3⟩ ⟨?_, ?_, ?_, ?_, ?_⟩
    · intro ρ4 σ4 S4 H4 q4 n1 n2 e4 r4
      exact ⟨ρ4, S4, by rw [tk]; exact q4, n1.trans (m2.trans l2), n2.trans (m2.trans l2), ((e2.trans e3).trans e4), r4⟩
    · intro c v ρ4 σ4 Lc4 Le4 S4 H4 q4 e4 r4
      exact en.rt c v ρ4 σ4 Lc4 Le4 S4 H4 q4 ((e2.trans e3).trans e4) r4
    · intro ρ4 σ4 S4 H4 q4 n1 n2 e4 r4
      exact en.nx (wipeE ρ4 dead) σ4 S4 H4 q4 (n1.trans (m2.trans l2)) ((wipeE_len dead).trans (n2.trans (m2.trans l2))) ((e2.trans e3).trans e4) (r4.wipe dead)
    · intro ρ4 σ4 S4 H4 q4 n1 n2 e4 r4
      exact ⟨ρ4, S4, by rw [tk]; exact q4, n1.trans (m2.trans l2), n2.trans (m2.trans l2), ((e2.trans e3).trans e4), r4⟩
    · intro x cls d ρ4 σ4 S4 H4 q4 n1 n2 e4 ex r4
      exact en.ex x cls d ρ4 σ4 S4 H4 q4 (n1.trans (m2.trans l2)) (n2.trans (m2.trans l2)) ((e2.trans e3).trans e4) ex r4
  · have hi2 : i = xs.length := by omega
    subst hi2
    rw [List.take_length] at ii
    exact .inl ⟨w.2.1 (Nat.le_refl _), en.nx (wipeE ρ' dead) σ' S' H' (fin ρ' ii l2) l1 ((wipeE_len dead).trans l2) e2 (SRel.wipe ⟨Le', sl', hr'⟩ dead)⟩
noncomputable def sForD (dead : List Nat) (i : Nat) (g : MG) (body : MS) : MS := fun ρ => match ρ[i]? with
  | some (some ⟨.o, _ + 1, .dK es⟩) => forL dead g body (es.map fun p => sh (keyC p.1)) (ρ.set i (some (sh (.dK es))))
  | _ => .bad
theorem forD_sound {K : PySem.W.Frag} {mg : Str → Option Value} {W : WX} {gt : TG} {g : MG} {tb : TS} {mb : MS} {dead : List Nat} {i : Nat} (hg : GOk K gt (fun c ρ Q => ∃ ρ', g c ρ = some ρ' ∧ Q ρ')) (hb : StmtOk K mg W tb (ws_ mb)) :
    StmtOk K mg W (tFor (iKeys (tFrz (tVar i))) gt tb) (ws_ (sForD dead i g mb)) := by
  intro D ρ hw S F A H σ De hl r en
  replace hw : wSR (sForD dead i g mb ρ) D := hw
  unfold sForD at hw
  split at hw
  · next n es hi =>
    obtain ⟨Le, sl, hr⟩ := r
    obtain ⟨v, Lf, R, h1, h2, hgg, h3, h4⟩ := sl.take hi
    cases h2 with
    | o h2 =>
      cases h2 with
      | @dK _ a kvs _ L1 oe =>
        have hr2 : HRel S ((a, HO.dK kvs) :: (L1 ++ (R ++ F))) H := hr.perm (by
          have := h3.append_right F
          simpa [List.append_assoc] using this)
        have hm := hr2.all (a, .dK kvs) List.mem_cons_self
        refine ⟨.ref a, h1, a, .dK kvs, rfl, hm, True.intro, fun od => ⟨a, od, rfl, .inl ⟨kvs, upd_same, ?_⟩⟩⟩
        have hr3 : HRel S (((a, HO.frz od (.dK kvs)) :: L1) ++ (R ++ F)) (upd H a (.frz od (.dK kvs))) := hr2.put (o' := HO.frz od (.dK kvs))
        obtain ⟨f1, f2, f3⟩ := hr3.freeze
        generalize HRel.addl S ((a, HO.frz od (HO.dK kvs)) :: L1) = S2 at *
        have she := OwnE.sh' f2 oe fun p hp => f3 p (List.mem_cons_of_mem _ hp)
        have hfz := f3 (a, _) List.mem_cons_self
        obtain ⟨L', s1, p1⟩ := h4 S2 (sh (.dK es)) [] f2 (.o (.sh (.dK (.inr ⟨od, hfz⟩) she))) (fun j z => nomatch z)
        have en' : EndsOk K mg W S2 F A (ρ.set i (some (sh (.dK es)))).length D De := by
          rw [List.length_set]; exact en.up f2
        have rel : SRel K S2 F A (upd H a (.frz od (.dK kvs))) (ρ.set i (some (sh (.dK es)))) σ := ⟨L', s1, f1.perm (by simpa using p1.symm.append_right F)⟩
        have wk := walk_keys hfz she
        generalize (es.map fun p => sh (keyC p.1)) = xs at *
        have hll : σ.length = (ρ.set i (some (sh (.dK es)))).length := by rw [List.length_set]; exact hl
        generalize ρ.set i (some (sh (.dK es))) = ρ1 at *
        refine forJ_sound hg hb (dead := dead) wk (Same.refl _) hll rel en' (fun pre ρ' => ∃ post, xs = pre ++ post ∧ wSR (forL dead g mb post ρ') D) ⟨xs, rfl, hw⟩ ?_ ?_
        · rintro pre x post ρ' he ⟨post', he', hw⟩ _
          have hp : post' = x :: post := List.append_cancel_left (he'.symm.trans he)
          subst hp
          rw [forL] at hw
          split at hw
          · exact hw.elim
          · next ρ2 hgx =>
            refine ⟨ρ2, hgx, ?_⟩
            have on : ∀ ρ3, wSR (forL dead g mb post ρ3) D → ∃ rest, xs = pre ++ [x] ++ rest ∧ wSR (forL dead g mb rest ρ3) D := fun ρ3 q => ⟨post, by rw [he]; simp, q⟩
            simp only [ws_]
            cases hm : mb ρ2 <;> rw [hm] at hw
            all_goals first | exact on _ hw | exact hw
        · rintro ρ' ⟨post, he, hw⟩ _
          have hz : post = [] := by
            have q := congrArg List.length he
            rw [List.length_append] at q
            exact List.eq_nil_of_length_eq_zero (by omega)
          subst hz
          exact hw
  · exact hw.elim
section
variable {X : Cx} {W : WX} {tg : Expr} {body : List Stmt} {gt : TG} {g : MG} {tb : TS} {mb : MS} {pos : Pos} {i : Nat} {x : Str} {p : Pos}
theorem sm_forD (dead : List Nat) (hp : PassesOwn (model X.prog X.w) X.A X.env X.xe) (hc : X.calm = true) (hv : PE X (.Name x p) (tVar i)) (hg : GM X tg gt g) (hb : SsM X W body tb mb) (hs : ∀ y, foldedSetIterable (.Name x p) X.env y = pure y := by intro _; rfl) :
    SM X W (.For tg (.Name x p) body [] pos) (tFor (iKeys (tFrz (tVar i))) gt tb) (sForD dead i g mb) := by
  exact ⟨ps_for hp hc (pi_keys (pe_frz hv)) hg.choose_spec.1.p hb.p hs, forD_sound hg.ok hb.s⟩
end
theorem y_forD (dead : List Nat) (i : Nat) (g : MG) (body : MS) (ρ : Env) : sForD dead i g body ρ = match ρ[i]? with
  | some (some ⟨.o, _ + 1, .dK es⟩) => forL dead g body (es.map fun p => sh (keyC p.1)) (ρ.set i (some (sh (.dK es))))
  | _ => .bad := rfl
end VL
set_option maxRecDepth 100000
/-! XL: xs.pop(), d.pop(k), enumerate(xs), zip(xs, ys). -/
namespace VL
open PySem L2
variable [TB : Tbs]
/-! ### xs.pop() -/
theorem OwnA.unsnoc {K : PySem.W.Frag} {S : Hp} {n : Nat} {d : D} : ∀ {ds : List D} {vs : List V} {L : Hl}, OwnA K S n vs (ds ++ [d]) L → ∃ ws v L1 L2, vs = ws ++ [v] ∧ L = L1 ++ L2 ∧ OwnA K S n ws ds L1 ∧ Own K S n v d L2
  | [], _, _, .cons (v := v) (L1 := L1) (L2 := L2) a t => by
    cases t
    exact ⟨[], v, [], L1, rfl, by simp, .nil, a⟩
  | x :: ds, _, _, .cons (v := v) (L1 := L1) (L2 := L2) a t => by
    obtain ⟨ws, u, M1, M2, h1, h2, h3, h4⟩ := OwnA.unsnoc t
    subst h1; subst h2
    exact ⟨v :: ws, u, L1 ++ M1, M2, rfl, by rw [List.append_assoc], .cons a h3, h4⟩
def popM : MM := fun n e cs => match e, cs with
  | .lst ds, [] => (match ds.getLast? with | some d => some (⟨.o, n, d⟩, .lst ds.dropLast) | none => none)
  | _, _ => none
def mPop : WM := fun m e cs Q => ∃ ds d, e = .lst (ds ++ [d]) ∧ cs = [] ∧ Q ⟨.o, m, d⟩ (.lst ds)
theorem ok_pop {K : PySem.W.Frag} : MutOk K rPop mPop := by
  rintro m e cs Q ⟨ds, d, rfl, rfl, q⟩ S Fl F R H b Lf vs La Q' o t hr k
  cases t
  cases o with
  | @lst n ad ws ds' L hz' h =>
    have hm := hr.all (b, .lst ws) (List.mem_append_left _ List.mem_cons_self)
    obtain ⟨us, v, L1, L2, rfl, rfl, h3, h4⟩ := h.unsnoc
    refine ⟨b, _, v, rfl, rfl, hm, by simp, ?_⟩
    refine k _ v _ S _ ((b, HO.lst us) :: L1) L2 q (Same.refl S) (.lst (by simp at hz'; omega) h3) (.o h4) ?_
    have := hr.put (o' := .lst (us ++ [v]).dropLast)
    simpa [List.append_assoc] using this
theorem mm_pop {K : PySem.W.Frag} : MutM K rPop popM := ⟨_, ok_pop, fun m e cs c e' h Q q => by
  unfold popM at h
  split at h
  · next ds =>
    split at h
    · next d hd =>
      cases h
      refine ⟨ds.dropLast, d, ?_, rfl, q⟩
      rw [List.getLast?_eq_some_iff] at hd
      obtain ⟨ys, rfl⟩ := hd
      simp
    · cases h
  · cases h⟩
/-! ### d.pop(k) -/
def rDPop : V → List V → Hp → VK → Prop := fun x vs H Q => ∃ (a : Addr) (kvs : List (Key × V)) (k : Key) (v : V), x = .ref a ∧ vs = [kV k] ∧ H a = some (.dK kvs) ∧ valV kvs k = some v ∧ Q v (upd H a (.dK (dropK kvs k)))
theorem mt_dpop {X : Cx} : MtR X "dict.pop" rDPop := by
  intro pins s σ H x vs v us Q I rx rv h
  obtain ⟨a, kvs, k, y, rfl, rfl, hH, hy, q⟩ := h
  obtain rfl : v = Value.ref a := rx
  cases rv with
  | cons r rr =>
    cases rr
    exact d_pop I hH r hy (.inl rfl) fun w' s' I' rw' => ⟨y, _, I', rw', q⟩
theorem OwnE.dropK {K : PySem.W.Frag} {S : Hp} {κ : Type} [DecidableEq κ] {n : Nat} {k : κ} : ∀ {kvs : List (κ × V)} {es : List (κ × D)} {L : Hl}, OwnE K S κ n kvs es L → ∃ L' R, OwnE K S κ n (_root_.L2.dropK kvs k) (es.filter fun p => decide (p.1 ≠ k)) L' ∧ L.Perm (L' ++ R)
  | _, _, _, .nil => ⟨[], [], .nil, List.Perm.refl _⟩
  | _, _, _, .cons (k := j) (v := v) (d := d) (L1 := M1) (L2 := M2) a t => by
    obtain ⟨L', R, h1, h2⟩ := OwnE.dropK (k := k) t
    unfold _root_.L2.dropK at h1 ⊢
    by_cases h : j = k
    · refine ⟨L', M1 ++ R, ?_, ?_⟩
      · simpa [h] using h1
      · exact (List.Perm.append_left M1 h2).trans (perm_abc _ _ _)
    · refine ⟨M1 ++ L', R, ?_, ?_⟩
      · have := OwnE.cons (k := j) a h1
        simpa [h] using this
      · rw [List.append_assoc]
        exact List.Perm.append_left M1 h2
theorem OwnE.pick {K : PySem.W.Frag} {S : Hp} {κ : Type} [DecidableEq κ] {n : Nat} {k : κ} {d : D} : ∀ {kvs : List (κ × V)} {es : List (κ × D)} {L : Hl}, OwnE K S κ n kvs es L → dLook es k = some d →
    ∃ v Lv L' R, valV kvs k = some v ∧ Own K S n v d Lv ∧ OwnE K S κ n (_root_.L2.dropK kvs k) (es.filter fun p => decide (p.1 ≠ k)) L' ∧ L.Perm (Lv ++ (L' ++ R))
  | _, _, _, .nil, h => by cases h
  | _, _, _, .cons (k := j) (v := v) (d := e) (kvs := kvs) (es := es) (L1 := M1) (L2 := M2) a t, h => by
    unfold dLook at h
    rw [List.find?_cons] at h
    by_cases hj : j = k
    · subst hj
      simp at h
      subst h
      obtain ⟨L', R, h1, h2⟩ := OwnE.dropK (k := j) t
      refine ⟨v, M1, L', R, valV_pos rfl, a, ?_, List.Perm.append_left M1 h2⟩
      unfold _root_.L2.dropK at h1 ⊢
      simpa using h1
    · rw [decide_eq_false hj] at h
      obtain ⟨w, Lv, L', R, h1, h2, h3, h4⟩ := OwnE.pick (k := k) (d := d) t h
      refine ⟨w, Lv, M1 ++ L', R, (valV_neg hj).trans h1, h2, ?_, ?_⟩
      · unfold _root_.L2.dropK at h3 ⊢
        have := OwnE.cons (k := j) a h3
        simpa [hj] using this
      · rw [List.append_assoc]
        exact (List.Perm.append_left M1 h4).trans (perm_abc _ _ _)
theorem Own.keyV {K : PySem.W.Frag} {S : Hp} {n : Nat} {v : V} {d : D} {k : Key} {L : Hl} (h : Own K S n v d L) (e : d.key = some k) : v = kV k := by
  cases h with
  | sh h => exact h.key e
  | _ => first | (cases e; rfl) | cases e
theorem CellOk.keyV {K : PySem.W.Frag} {S : Hp} {Fl F : Hl} {c : Cell} {v : V} {k : Key} {L : Hl} (h : CellOk K S Fl F c v L) (e : c.d.key = some k) : v = kV k := by
  cases h with
  | o h => exact h.keyV e
  | l _ h => exact h.keyV e
  | p _ h => exact h.keyV e
  | m h => exact h.keyV e
def popDM : MM := fun n e cs => match e, cs with
  | .dK es, [c] => (match c.d.key with
    | some k => (match dLook es k with | some d => some (⟨.o, n, d⟩, .dK (es.filter fun p => decide (p.1 ≠ k))) | none => none)
    | none => none)
  | _, _ => none
def mPopD : WM := fun m e cs Q => ∃ es c k d, e = .dK es ∧ cs = [c] ∧ c.d.key = some k ∧ dLook es k = some d ∧ Q ⟨.o, m, d⟩ (.dK (es.filter fun p => decide (p.1 ≠ k)))
theorem ok_popD {K : PySem.W.Frag} : MutOk K rDPop mPopD := by
  rintro m e cs Q ⟨es, c, k, d, rfl, rfl, hk, hd, q⟩ S Fl F R H b Lf vs La Q' o t hr kk
  cases t with
  | @cons _ _ v vs' M1 M2 a t0 =>
    cases t0
    rw [List.append_nil] at hr
    cases o with
    | @dK n ad kvs es' L h =>
      have hm := hr.all (b, .dK kvs) (List.mem_append_left _ List.mem_cons_self)
      obtain ⟨w, Lv, L', R1, g1, g2, g3, g4⟩ := h.pick hd
      have hv : v = kV k := a.keyV hk
      subst hv
      refine ⟨b, kvs, k, w, rfl, rfl, hm, g1, ?_⟩
      refine kk _ w _ S _ ((b, HO.dK (_root_.L2.dropK kvs k)) :: L') Lv q (Same.refl S) (.dK g3) (.o g2) ?_
      have h1 : HRel S ((b, HO.dK kvs) :: (L ++ (M1 ++ R))) H := by simpa [List.append_assoc] using hr
      have h2 := h1.put (o' := .dK (_root_.L2.dropK kvs k))
      have h3 : HRel S ((b, HO.dK (_root_.L2.dropK kvs k)) :: ((Lv ++ (L' ++ R1)) ++ (M1 ++ R))) (upd H b (.dK (_root_.L2.dropK kvs k))) := h2.perm (List.Perm.cons _ (g4.append_right _))
      have p1 : ((Lv ++ (L' ++ R1)) ++ (M1 ++ R)).Perm ((L' ++ (Lv ++ R)) ++ (R1 ++ M1)) := by
        simp only [List.append_assoc]
        refine (perm_abc _ _ _).trans (List.Perm.append_left L' (List.Perm.append_left Lv ?_))
        rw [← List.append_assoc]
        exact List.perm_append_comm
      have h4 := (h3.perm (List.Perm.cons _ p1))
      have h5 : HRel S (((b, HO.dK (_root_.L2.dropK kvs k)) :: (L' ++ (Lv ++ R))) ++ (R1 ++ M1)) (upd H b (.dK (_root_.L2.dropK kvs k))) := h4
      exact h5.sub (List.sublist_append_left _ _)
theorem mm_popD {K : PySem.W.Frag} : MutM K rDPop popDM := ⟨_, ok_popD, fun m e cs c e' h Q q => by
  unfold popDM at h
  split at h
  · split at h
    · next k hk =>
      split at h
      · next d hd => cases h; exact ⟨_, _, k, d, rfl, rfl, hk, hd, q⟩
      · cases h
    · cases h
  · cases h⟩
/-! ### enumerate, zip -/
def enumD (ds : List D) : List Cell := ds.zipIdx.map fun p => sh (.tup [.int ((p.2 : Nat) : Int), p.1])
def zipD (ds es : List D) : List Cell := (ds.zip es).map fun p => sh (.tup [p.1, p.2])
def Cell.thin (c : Cell) : Bool := decide (c.n ≤ 1)
theorem thin_item {c : Cell} (h : c.n ≤ 1) (d : D) : c.item d = sh d := by
  obtain ⟨b, n, x⟩ := c
  match n, h with
  | 0, _ => rfl
  | 1, _ => rfl
theorem frz_n (c : Cell) : c.frz.n ≤ c.n := by
  obtain ⟨b, n, d⟩ := c
  cases b <;> cases n <;> simp [Cell.frz, sh]
/-- what a thin frozen list holds -/
theorem thin_seq {K : PySem.W.Frag} {S H : Hp} {Fl F M : Hl} {c : Cell} {v : V} {ds : List D} (q : CellOk K S Fl F c v []) (hd : c.d = .lst ds) (hn : c.n ≤ 1) (hr : HRel S (M ++ (Fl ++ F)) H) :
    ∃ a vs, v = .ref a ∧ SqL K H a vs ∧ vs.length = ds.length ∧ ∀ (i : Nat) x d, vs[i]? = some x → ds[i]? = some d → Sh K S x d := by
  obtain ⟨a, vs, L', h1, h2, h3, h4, h5⟩ := q.seq (ds := ds) (H := H) (by rw [hd]; rfl) hr.sh (fun p hp => hr.all p (List.mem_append_right _ hp))
  rw [hd] at h2
  refine ⟨a, vs, h1, h2, h3, fun i x d hx hdi => ?_⟩
  obtain ⟨v', L2, g1, g2, g3⟩ := h4.get (i := i) (c := sh d) (by rw [List.getElem?_map, hdi, Option.map_some, thin_item hn])
  rw [hx] at g1
  cases g1
  exact g2.zero.1
theorem walk_enum {K : PySem.W.Frag} {S0 : Hp} {a : Addr} {c : Cell} {ds : List D} (hd : c.d = .lst ds) (hn : c.n ≤ 1) : WalkV K S0 (Ite K a) [c] [.ref a] (enumD ds) := by
  intro i S Fl F M H _ t hr
  obtain ⟨a', vs, e1, h2, h3, h4⟩ := thin_seq t.one hd hn hr
  cases e1
  have hl : (enumD ds).length = ds.length := by unfold enumD; rw [List.length_map, List.length_zipIdx]
  rw [hl]
  refine ⟨fun hi => ?_, fun hi => ⟨vs, h2, by omega⟩, fun hi x H' hy => ?_⟩
  · have : i < vs.length := by omega
    exact ⟨vs, vs[i], h2, List.getElem?_eq_getElem this⟩
  · obtain ⟨T, y, rfl, hT, rfl, hy⟩ := hy
    have hx := hy vs h2
    have hdi : ds[i]? = some ds[i] := List.getElem?_eq_getElem hi
    have hsh := h4 i y _ hx hdi
    have hST := hr.none_of hT
    have hsm : Same S (upd S T (.tup [.int ((i : Nat) : Int), y])) := fun b u e => by
      rw [upd_ne (by rintro rfl; rw [hST] at e; cases e)]; exact e
    refine ⟨sh (.tup [.int ((i : Nat) : Int), ds[i]]), _, ?_, hsm, hr.laid hT, .o (.sh (.tup upd_same (.cons (.int _) (.cons (hsh.ex hsm) .nil))))⟩
    unfold enumD
    rw [List.getElem?_map, List.getElem?_zipIdx, hdi]
    simp
theorem walk_zip {K : PySem.W.Frag} {S0 : Hp} {a b : Addr} {c c' : Cell} {ds es : List D} (hd : c.d = .lst ds) (hn : c.n ≤ 1) (hd' : c'.d = .lst es) (hn' : c'.n ≤ 1) : WalkV K S0 (Itz K a b) [c, c'] [.ref a, .ref b] (zipD ds es) := by
  intro i S Fl F M H _ t hr
  obtain ⟨v1, w1, q1, k1, t1⟩ := t.cons0 rfl
  obtain ⟨v2, w2, q2, k2, t2⟩ := t1.cons0 rfl
  injection q1 with q1 q1'
  subst q1'
  injection q2 with q2 q2'
  subst q1; subst q2
  obtain ⟨a', vs, e1, h2, h3, h4⟩ := thin_seq k1 hd hn hr
  obtain ⟨b', ws, e2, g2, g3, g4⟩ := thin_seq k2 hd' hn' hr
  cases e1; cases e2
  have hl : (zipD ds es).length = min ds.length es.length := by unfold zipD; rw [List.length_map, List.length_zip]
  rw [hl]
  refine ⟨fun hi => ?_, fun hi => ⟨vs, ws, h2, g2, by omega⟩, fun hi x H' hy => ?_⟩
  · have h5 : i < vs.length := by omega
    have h6 : i < ws.length := by omega
    exact ⟨vs, ws, vs[i], ws[i], h2, g2, List.getElem?_eq_getElem h5, List.getElem?_eq_getElem h6⟩
  · obtain ⟨T, y, z, rfl, hT, rfl, hy, hz⟩ := hy
    have hx := hy vs h2
    have hx' := hz ws g2
    have hi1 : i < ds.length := by omega
    have hi2 : i < es.length := by omega
    have hdi : ds[i]? = some ds[i] := List.getElem?_eq_getElem hi1
    have hei : es[i]? = some es[i] := List.getElem?_eq_getElem hi2
    have hsh := h4 i y _ hx hdi
    have hsh' := g4 i z _ hx' hei
    have hST := hr.none_of hT
    have hsm : Same S (upd S T (.tup [y, z])) := fun b u e => by
      rw [upd_ne (by rintro rfl; rw [hST] at e; cases e)]; exact e
    refine ⟨sh (.tup [ds[i], es[i]]), _, ?_, hsm, hr.laid hT, .o (.sh (.tup upd_same (.cons (hsh.ex hsm) (.cons (hsh'.ex hsm) .nil))))⟩
    unfold zipD
    have hz2 : (ds.zip es)[i]? = some (ds[i], es[i]) := List.getElem?_zip_eq_some.mpr ⟨hdi, hei⟩
    rw [List.getElem?_map, hz2]
    rfl
def wiEnum (ws : WA) : WI := fun ρ Q X => ws ρ (fun cs => ∃ c ds, cs = [c] ∧ c.d = .lst ds ∧ c.n ≤ 1 ∧ Q [c.frz] (enumD ds)) X
def wiZip (ws : WA) : WI := fun ρ Q X => ws ρ (fun cs => ∃ c c' ds es, cs = [c, c'] ∧ c.d = .lst ds ∧ c'.d = .lst es ∧ c.n ≤ 1 ∧ c'.n ≤ 1 ∧ Q [c.frz, c'.frz] (zipD ds es)) X
def miEnumerate (a : MA) : MI := fun ρ => (a ρ).bind fun cs => match cs with
  | [c] => (match c.d with
    | .lst ds => if c.n ≤ 1 then .ok (c.frz.noL, enumD ds) else .bad
    | _ => .bad)
  | _ => .bad
def miZip (a : MA) : MI := fun ρ => (a ρ).bind fun cs => match cs with
  | [c, c'] => (match c.d, c'.d with
    | .lst ds, .lst es => if c.n ≤ 1 ∧ c'.n ≤ 1 then .ok (c.frz.noL && c'.frz.noL, zipD ds es) else .bad
    | _, _ => .bad)
  | _ => .bad
section
variable {X : Cx} {W : WX} {a b : Expr} {ta : TA} {ws : WA} {ma : MA} {p pos tpos : Pos} {elts : List Expr} {kk : Nat}
theorem ci_enum (hg : Gl X "enumerate") (hm : X.mg "enumerate" = none) (ha : CA X W [a] ta ws) (hs : starEach [a] X.env = [(false, eval a X.env)] := by rfl) :
    CI X W (.Tuple elts kk tpos) (.Call (.Name "enumerate" p) [a] [] pos) (iEnum X.K ta) (wiEnum ws) := by
  obtain ⟨a1, a2⟩ := ha
  refine ⟨pi_enum hg hm a1 hs, ?_⟩
  intro ρ Q XQ w S Fl F H σ tc tv R' ev r0 k kx
  refine a2 ρ _ XQ w S Fl F H σ tc tv _ ev r0 (fun cs vs S1 H1 q hl e1 r1 => ?_) kx
  obtain ⟨c, ds, rfl, hd, hn, q⟩ := q
  obtain ⟨v, rfl⟩ : ∃ v, vs = [v] := by
    match vs, hl with
    | [v], _ => exact ⟨v, rfl⟩
  obtain ⟨S2, e2, r2, c2⟩ := Rel.frz r1
  have hn2 := Nat.le_trans (frz_n c) hn
  have hd2 : c.frz.d = .lst ds := by rw [Cell.frz_d]; exact hd
  have hr := r2.base
  obtain ⟨a', us, rfl, h2, _, _⟩ := thin_seq (M := []) c2 hd2 hn2 hr
  exact ⟨a', us, rfl, h2, k _ _ _ _ S2 H1 q (e1.trans e2) r2 (Rel.tmp1 c2) (walk_enum hd2 hn2)⟩
theorem im_enumerate (hg : Gl X "enumerate") (hm : X.mg "enumerate" = none) (ha : AM X W [a] ta ma) (hs : starEach [a] X.env = [(false, eval a X.env)] := by rfl) :
    IM X W (.Tuple elts kk tpos) (.Call (.Name "enumerate" p) [a] [] pos) (iEnum X.K ta) (miEnumerate ma) := (ci_enum hg hm ha hs).mono fun ρ Q XQ h => by
  simp only [wi_, miEnumerate, wR_bind] at h
  refine wR_mono h fun cs hcs h => ?_
  clear hcs
  split at h
  · split at h
    · next ds hd =>
      obtain ⟨h1, h2⟩ := wR_ite h
      exact ⟨_, ds, rfl, hd, h1, h2 _ fun z => by simpa using z⟩
    · exact h.elim
  · exact h.elim
theorem ci_zip (hg : Gl X "zip") (hm : X.mg "zip" = none) (ha : CA X W [a, b] ta ws) (hs : starEach [a, b] X.env = (false, eval a X.env) :: starEach [b] X.env := by rfl) (hpl : (backTo pos (starEach [b] X.env)).any (·.1) = false := by rfl) :
    CI X W (.Tuple elts kk tpos) (.Call (.Name "zip" p) [a, b] [] pos) (iZip X.K ta) (wiZip ws) := by
  obtain ⟨a1, a2⟩ := ha
  refine ⟨pi_zip hg hm a1 hs hpl, ?_⟩
  intro ρ Q XQ w S Fl F H σ tc tv R' ev r0 k kx
  refine a2 ρ _ XQ w S Fl F H σ tc tv _ ev r0 (fun cs vs S1 H1 q hl e1 r1 => ?_) kx
  obtain ⟨c, c', ds, es, rfl, hd, hd', hn, hn', q⟩ := q
  obtain ⟨v, v', rfl⟩ : ∃ v v', vs = [v, v'] := by
    match vs, hl with
    | [v, v'], _ => exact ⟨v, v', rfl⟩
  obtain ⟨S2, e2, r2, c2⟩ := Rel.frz r1
  obtain ⟨S3, e3, r3, c3⟩ := Rel.frz r2
  have c2 := c2.ex e3
  have hn2 := Nat.le_trans (frz_n c) hn
  have hd2 : c.frz.d = .lst ds := by rw [Cell.frz_d]; exact hd
  have hn3 := Nat.le_trans (frz_n c') hn'
  have hd3 : c'.frz.d = .lst es := by rw [Cell.frz_d]; exact hd'
  have hr := r3.base
  obtain ⟨a', us, rfl, h2, _, _⟩ := thin_seq (M := []) c2 hd2 hn2 hr
  obtain ⟨b', ws', rfl, h3, _, _⟩ := thin_seq (M := []) c3 hd3 hn3 hr
  exact ⟨a', b', us, ws', rfl, h2, h3, k _ _ _ _ S3 H1 q (e1.trans (e2.trans e3)) r3 (.cons (L1 := []) (L2 := []) c2 (Rel.tmp1 c3)) (walk_zip hd2 hn2 hd3 hn3)⟩
theorem im_zip (hg : Gl X "zip") (hm : X.mg "zip" = none) (ha : AM X W [a, b] ta ma) (hs : starEach [a, b] X.env = (false, eval a X.env) :: starEach [b] X.env := by rfl) (hpl : (backTo pos (starEach [b] X.env)).any (·.1) = false := by rfl) :
    IM X W (.Tuple elts kk tpos) (.Call (.Name "zip" p) [a, b] [] pos) (iZip X.K ta) (miZip ma) := (ci_zip hg hm ha hs hpl).mono fun ρ Q XQ h => by
  simp only [wi_, miZip, wR_bind] at h
  refine wR_mono h fun cs hcs h => ?_
  clear hcs
  split at h
  · split at h
    · next ds es hd hd' =>
      obtain ⟨⟨h1, h1'⟩, h2⟩ := wR_ite h
      exact ⟨_, _, ds, es, rfl, hd, hd', h1, h1', h2 _ fun z => by simpa using z⟩
    · exact h.elim
  · exact h.elim
end
theorem x_iEnum (a : MA) (ρ : Env) : miEnumerate a ρ = (a ρ).bind fun cs => match cs with
  | [c] => (match c.d with
    | .lst ds => if c.n ≤ 1 then .ok (c.frz.noL, enumD ds) else .bad
    | _ => .bad)
  | _ => .bad := rfl
theorem x_iZip (a : MA) (ρ : Env) : miZip a ρ = (a ρ).bind fun cs => match cs with
  | [c, c'] => (match c.d, c'.d with
    | .lst ds, .lst es => if c.n ≤ 1 ∧ c'.n ≤ 1 then .ok (c.frz.noL && c'.frz.noL, zipD ds es) else .bad
    | _, _ => .bad)
  | _ => .bad := rfl
theorem enumD_map {α : Type} (f : α → D) (xs : List α) : enumD (xs.map f) = xs.zipIdx.map fun p => sh (.tup [.int ((p.2 : Nat) : Int), f p.1]) := by
  unfold enumD
  rw [List.zipIdx_map, List.map_map]
  rfl
theorem zipD_map {α β : Type} (f : α → D) (g : β → D) (xs : List α) (ys : List β) : zipD (xs.map f) (ys.map g) = (xs.zip ys).map fun p => sh (.tup [f p.1, g p.2]) := by
  unfold zipD
  rw [List.zip_map, List.map_map]
  rfl
end VL
set_option maxRecDepth 100000
/-! XM: dicts with tuple keys that hold private things: {} to a depth, paths through dicts and tuples, items of a view, get with a default that is shared. -/
namespace VL
open PySem L2
variable [TB : Tbs]
def mDictTn (n : Nat) : ME := fun _ => .ok (own (n + 1) (.dT []))
theorem em_dictTn {X : Cx} {W : WX} {pos : Pos} (n : Nat) : EM X W (.Dict [] [] pos) tDNewT (mDictTn n) := by
  refine ⟨pe_dnewT, ?_⟩
  intro ρ Q XQ w S Fl F H σ tc tv Q' ev r k kx p hp
  exact k _ _ S _ w (Same.refl S) (r.lay hp (.dT .nil))
theorem x_dTn (n : Nat) (ρ : Env) : mDictTn n ρ = .ok (own (n + 1) (.dT [])) := rfl
def esSet {κ : Type} [DecidableEq κ] : List (κ × D) → κ → D → List (κ × D)
  | [], _, _ => []
  | (j, e) :: es, k, d => if j = k then (j, d) :: es else (j, e) :: esSet es k d
theorem OwnE.getK {K : PySem.W.Frag} {S : Hp} {κ : Type} [DecidableEq κ] {n : Nat} {k : κ} {d : D} : ∀ {kvs : List (κ × V)} {es : List (κ × D)} {L : Hl}, OwnE K S κ n kvs es L → dLook es k = some d → ∃ v L1, valV kvs k = some v ∧ Own K S n v d L1 ∧ L1.Sublist L
  | _, _, _, .nil, h => by cases h
  | _, _, _, .cons (k := j) (L1 := M1) (L2 := M2) a t, h => by
    unfold dLook at h
    rw [List.find?_cons] at h
    by_cases hj : j = k
    · subst hj
      simp at h
      subst h
      exact ⟨_, M1, valV_pos rfl, a, List.sublist_append_left _ _⟩
    · rw [decide_eq_false hj] at h
      obtain ⟨w, L1, h1, h2, h3⟩ := OwnE.getK (k := k) (d := d) t h
      exact ⟨w, L1, (valV_neg hj).trans h1, h2, h3.trans (List.sublist_append_right _ _)⟩
theorem OwnE.takeK {K : PySem.W.Frag} {S : Hp} {κ : Type} [DecidableEq κ] {n : Nat} {k : κ} {d : D} : ∀ {kvs : List (κ × V)} {es : List (κ × D)} {L : Hl}, OwnE K S κ n kvs es L → dLook es k = some d →
    ∃ v Lf R, valV kvs k = some v ∧ Own K S n v d Lf ∧ L.Perm (Lf ++ R) ∧ ∀ S' d' Lf', Same S S' → Own K S' n v d' Lf' → ∃ L', OwnE K S' κ n kvs (esSet es k d') L' ∧ L'.Perm (Lf' ++ R)
  | _, _, _, .nil, h => by cases h
  | _, _, _, .cons (k := j) (v := v0) (d := d0) (kvs := kvs) (es := es) (L1 := M1) (L2 := M2) a t, h => by
    unfold dLook at h
    rw [List.find?_cons] at h
    by_cases hj : j = k
    · subst hj
      simp at h
      subst h
      refine ⟨_, M1, M2, valV_pos rfl, a, List.Perm.refl _, fun S' d' Lf' e q => ⟨Lf' ++ M2, ?_, List.Perm.refl _⟩⟩
      rw [esSet, if_pos rfl]
      exact .cons q (t.ex e)
    · rw [decide_eq_false hj] at h
      obtain ⟨w, Lf, R, h1, h2, h3, h4⟩ := OwnE.takeK (k := k) (d := d) t h
      refine ⟨w, Lf, M1 ++ R, (valV_neg hj).trans h1, h2, (List.Perm.append_left M1 h3).trans (perm_abc _ _ _), fun S' d' Lf' e q => ?_⟩
      obtain ⟨L', g1, g2⟩ := h4 S' d' Lf' e q
      refine ⟨M1 ++ L', ?_, (List.Perm.append_left M1 g2).trans (perm_abc _ _ _)⟩
      rw [esSet, if_neg hj]
      exact .cons (a.ex e) g1
def D.isRef : D → Bool
  | .lst _ => true | .tup _ => true | .dK _ => true | .dT _ => true | _ => false
theorem Own.cref2 {K : PySem.W.Frag} {S : Hp} {n : Nat} {v : V} {d : D} {L : Hl} (h : Own K S n v d L) (q : d.isRef = true) : ∃ b, v = .ref b := by
  cases h with
  | sh h => cases h with
    | lst _ _ => exact ⟨_, rfl⟩
    | tup _ _ => exact ⟨_, rfl⟩
    | dK _ _ => exact ⟨_, rfl⟩
    | dT _ _ => exact ⟨_, rfl⟩
    | _ => cases q
  | lst _ _ => exact ⟨_, rfl⟩
  | tup _ => exact ⟨_, rfl⟩
  | dK _ => exact ⟨_, rfl⟩
  | dT _ => exact ⟨_, rfl⟩
  | _ => cases q
/-- one step of a path: through a list, a tuple, a dict with tuple keys -/
def rcTo (e : D) (ck : Cell) : Option (D × (D → D)) := match e with
  | .lst ds => (match ck.d with
    | .int z => (match ixN ds.length z with | some j => (match ds[j]? with | some d => if d.isRef = true then some (d, fun d' => .lst (ds.set j d')) else none | none => none) | none => none)
    | _ => none)
  | .tup ds => (match ck.d with
    | .int z => (match ixN ds.length z with | some j => (match ds[j]? with | some d => if d.isRef = true then some (d, fun d' => .tup (ds.set j d')) else none | none => none) | none => none)
    | _ => none)
  | .dT es => (match ck.d with
    | .tup ds => (match D.keys ds with
      | some ks => if ck.n = 0 then (match dLook es ks with | some d => if d.isRef = true then some (d, fun d' => .dT (esSet es ks d')) else none | none => none) else none
      | none => none)
    | _ => none)
  | _ => none
def rcIxU (r : MRc) (k : ME) : MRc := fun ρ => (r ρ).bind fun p => match p with
  | (n + 2, e, rb) => (k ρ).bind fun ck => (match rcTo e ck with
    | some (d, f) => .ok (n + 1, d, fun d' => rb (f d'))
    | none => .bad)
  | _ => .bad
section
variable {X : Cx} {W : WX} {a b : Expr} {ta tk : TE} {wr : WR} {mr : MRc} {mk : ME} {pos : Pos}
theorem rm_ixU (hu : X.A.units + 64 < cLine) (hr : RM X W a ta mr) (hk : EM X W b tk mk) (hs : PlainIx b) : RM X W (.Subscript a b pos) (tOp (rIxU X.K) ta tk) (rcIxU mr mk) := by
  obtain ⟨b1, b2⟩ := hk
  obtain ⟨a1, a2⟩ := hr
  refine ⟨pe_ix (ix_U hu) a1 b1 hs, ?_⟩
  intro ρ Q XQ w S F A H σ Le tc tv Q' sl r k kx
  simp only [wr_, rcIxU, wR_bind] at w
  refine a2 ρ (fun m e rb => wR (match ((m, e, rb) : Nat × D × (D → Env)) with
        | (n + 2, e, rb) => (mk ρ).bind fun ck => (match rcTo e ck with
          | some (d, f) => .ok (n + 1, d, fun d' => rb (f d'))
          | none => .bad)
        | _ => .bad) (fun p => Q p.1 p.2.1 p.2.2) XQ) XQ w S F A H σ Le tc tv _ sl r (fun m e rb ad S0 H0 Lf R q e0 r0 h3 h2 hln h4 => ?_) kx
  split at q
  · next n e rb heq =>
    cases heq
    simp only [wR_bind] at q
    refine b2 ρ _ XQ q S0 Le F H0 σ tc tv _ ((sl.ex e0).view (List.Sublist.refl _)) r0 (fun ck vk S1 H1 q1 e1 r1 => ?_) (kx.ex e0)
    have hv := r1.sh
    have hall := r1.base.all
    have rt := r1.tail
    obtain ⟨Lt, tt, hrt⟩ := r1
    split at q1
    · next d f hto =>
      unfold rcTo at hto
      split at hto
      · next ds =>
        split at hto
        · next z ez =>
          split at hto
          · next j ej =>
            split at hto
            · next d0 hj =>
              split at hto
              · next hc =>
                cases hto
                cases h2 with
                | @lst _ _ vs _ L1 hz h2 =>
                  rw [ez] at hv
                  obtain ⟨v', Lf2, R2, g1, g2, g3, g4⟩ := h2.take hj
                  obtain ⟨b', rfl⟩ := g2.cref2 hc
                  have hm : (ad, HO.lst vs) ∈ Le := h3.mem_iff.mpr (List.mem_append_left _ List.mem_cons_self)
                  refine .inl (.inl ⟨ad, vs, z, .ref b', rfl, hv.intE, SqL.of (hall _ (List.mem_append_left _ hm)), ?_, ?_⟩)
                  · unfold atI
                    rw [h2.length, ej]
                    exact g1
                  · refine k _ _ _ b' S1 H1 Lf2 ((ad, HO.lst vs) :: (R2 ++ R)) q1 (e0.trans e1) rt ?_ (g2.ex e1) (fun _ => hln _) fun S'' e' Lf' e q' => ?_
                    · refine h3.trans ?_
                      refine (List.Perm.cons _ (g3.append_right R)).trans ?_
                      rw [List.append_assoc]
                      exact List.perm_middle.symm
                    · obtain ⟨L', x1, x2⟩ := g4 S'' e' Lf' (e1.trans e) q'
                      obtain ⟨Le', y1, y2⟩ := h4 S'' _ _ (e1.trans e) (.lst hz x1)
                      refine ⟨Le', y1, y2.trans ?_⟩
                      refine (List.Perm.cons _ (x2.append_right R)).trans ?_
                      rw [List.append_assoc]
                      exact List.perm_middle.symm
              · cases hto
            · cases hto
          · cases hto
        · cases hto
      · next ds =>
        split at hto
        · next z ez =>
          split at hto
          · next j ej =>
            split at hto
            · next d0 hj =>
              split at hto
              · next hc =>
                cases hto
                cases h2 with
                | @tup _ _ vs _ L1 h2 =>
                  rw [ez] at hv
                  obtain ⟨v', Lf2, R2, g1, g2, g3, g4⟩ := h2.take hj
                  obtain ⟨b', rfl⟩ := g2.cref2 hc
                  have hm : (ad, HO.tup vs) ∈ Le := h3.mem_iff.mpr (List.mem_append_left _ List.mem_cons_self)
                  refine .inl (.inr (.inl ⟨ad, vs, z, .ref b', rfl, hv.intE, SqT.of (hall _ (List.mem_append_left _ hm)), ?_, ?_⟩))
                  · unfold atI
                    rw [h2.length, ej]
                    exact g1
                  · refine k _ _ _ b' S1 H1 Lf2 ((ad, HO.tup vs) :: (R2 ++ R)) q1 (e0.trans e1) rt ?_ (g2.ex e1) (fun _ => hln _) fun S'' e' Lf' e q' => ?_
                    · refine h3.trans ?_
                      refine (List.Perm.cons _ (g3.append_right R)).trans ?_
                      rw [List.append_assoc]
                      exact List.perm_middle.symm
                    · obtain ⟨L', x1, x2⟩ := g4 S'' e' Lf' (e1.trans e) q'
                      obtain ⟨Le', y1, y2⟩ := h4 S'' _ _ (e1.trans e) (.tup x1)
                      refine ⟨Le', y1, y2.trans ?_⟩
                      refine (List.Perm.cons _ (x2.append_right R)).trans ?_
                      rw [List.append_assoc]
                      exact List.perm_middle.symm
              · cases hto
            · cases hto
          · cases hto
        · cases hto
      · next es =>
        split at hto
        · next ds eds =>
          split at hto
          · next ks hks =>
            split at hto
            · next hn =>
              split at hto
              · next d0 hlk =>
                split at hto
                · next hc =>
                  cases hto
                  cases h2 with
                  | @dT _ _ kvs _ L1 h2 =>
                    cases tt with
                    | cons ak t0 =>
                      obtain ⟨bk, us, rfl, g1k, g2k⟩ := ak.shT hn eds
                      rw [g2k.keys hks] at g1k
                      obtain ⟨v', Lf2, R2, g1, g2, g3, g4⟩ := h2.takeK hlk
                      obtain ⟨b', rfl⟩ := g2.cref2 hc
                      have hm : (ad, HO.dT kvs) ∈ Le := h3.mem_iff.mpr (List.mem_append_left _ List.mem_cons_self)
                      refine .inr ⟨ad, .ref b', rfl, .inr ⟨kvs, ks, bk, Rd.of (hall _ (List.mem_append_left _ hm)), rfl, hrt.sh _ _ g1k, g1.symm⟩, ?_⟩
                      refine k _ _ _ b' S1 H1 Lf2 ((ad, HO.dT kvs) :: (R2 ++ R)) q1 (e0.trans e1) rt ?_ (g2.ex e1) (fun _ => hln _) fun S'' e' Lf' e q' => ?_
                      · refine h3.trans ?_
                        refine (List.Perm.cons _ (g3.append_right R)).trans ?_
                        rw [List.append_assoc]
                        exact List.perm_middle.symm
                      · obtain ⟨L', x1, x2⟩ := g4 S'' e' Lf' (e1.trans e) q'
                        obtain ⟨Le', y1, y2⟩ := h4 S'' _ _ (e1.trans e) (.dT x1)
                        refine ⟨Le', y1, y2.trans ?_⟩
                        refine (List.Perm.cons _ (x2.append_right R)).trans ?_
                        rw [List.append_assoc]
                        exact List.perm_middle.symm
                · cases hto
              · cases hto
            · cases hto
          · cases hto
        · cases hto
      · cases hto
    · exact q1.elim
  · exact q.elim
end
/-- x[k] of a view of a private dict: a view of what it holds -/
def ixUV : MO := fun x y => match x with
  | ⟨.l, n + 2, .dT es⟩ => (match y.d with
    | .tup ds => (match D.keys ds with
      | some ks => if y.n = 0 then (match dLook es ks with | some d => some ⟨.l, n + 1, d⟩ | none => none) else none
      | none => none)
    | _ => none)
  | _ => ixU x y
theorem om_ixUV {K : PySem.W.Frag} : OpM K (rIxU K) ixUV := by
  obtain ⟨wi, i1, i2⟩ := om_ixU (K := K)
  refine ⟨fun x y Q => ∃ c, ixUV x y = some c ∧ Q c, ?_, fun c1 c2 c h Q q => ⟨c, h, q⟩⟩
  rintro c1 c2 Q ⟨c, h, q⟩ S Fl F H v1 v2 tc tv Q' r k
  unfold ixUV at h
  split at h
  · next n es =>
    split at h
    · next ds eds =>
      split at h
      · next ks hks =>
        split at h
        · next hn =>
          split at h
          · next d hlk =>
            cases h
            obtain ⟨L, t, hr⟩ := r
            cases t with
            | @cons _ _ _ _ La Lb a t1 =>
              cases t1 with
              | @cons _ _ _ _ Lc Ld b t2 =>
                cases b with
                | @l _ _ _ L0 q0 h0 =>
                  cases h0 with
                  | @dT _ ad kvs _ L1 oe =>
                    obtain ⟨bk, us, rfl, g1k, g2k⟩ := a.shT hn eds
                    rw [g2k.keys hks] at g1k
                    obtain ⟨w, L2, g1, g2, g3⟩ := oe.getK hlk
                    have hm : H ad = some (.dT kvs) := hr.all (ad, .dT kvs) (List.mem_append_right _ (List.mem_append_left _ (q0.subset List.mem_cons_self)))
                    refine .inr ⟨ad, w, rfl, .inr ⟨kvs, ks, bk, .inl hm, rfl, hr.sh _ _ g1k, g1.symm⟩, ?_⟩
                    refine k _ _ S H q (Same.refl S) ⟨_, .cons (L1 := []) (.l ((g3.trans (List.sublist_cons_self _ _)).trans q0) g2) t2, ?_⟩
                    refine hr.sub (List.Sublist.append ?_ (List.Sublist.refl _))
                    exact (List.sublist_append_right La _)
          · cases h
        · cases h
      · cases h
    · cases h
  · exact i1 c1 c2 Q (i2 c1 c2 c h Q q) S Fl F H v1 v2 tc tv Q' r k
/-- d.get(k, x), x shared from now on -/
def mGet2F (o k x : ME) : ME := fun ρ => (o ρ).bind fun c => if isDict c.d = true ∧ c.n ≤ 1 then (k ρ).bind fun ck => (x ρ).bind fun cx => (match cx with | ⟨.o, _, d⟩ => .opt (getM c ck d) | _ => .bad) else .bad
theorem x_get2F (o k x : ME) (ρ : Env) : mGet2F o k x ρ = (o ρ).bind fun c => if isDict c.d = true ∧ c.n ≤ 1 then (k ρ).bind fun ck => (x ρ).bind fun cx => (match cx with | ⟨.o, _, d⟩ => .opt (getM c ck d) | _ => .bad) else .bad := rfl
section
variable {X : Cx} {W : WX} {o e f : Expr} {to te tf : TE} {mo me mf : ME} {apos cpos : Pos}
theorem em_get2F (hu : X.A.units + 64 < cLine) (ho : EM X W o to mo) (he : EM X W e te me) (hf : EM X W f tf mf) (m : L2.M2 X o "get" apos e f cpos) : EM X W (.Call (.Attribute o "get" apos) [e, f] [] cpos) (L2.tDGet2 to te tf) (mGet2F mo me mf) := by
  obtain ⟨o1, o2⟩ := ho
  obtain ⟨e1, e2⟩ := he
  obtain ⟨f1, f2⟩ := hf
  refine ⟨L2.pe_dget2 (by omega) o1 e1 f1 m, ?_⟩
  intro ρ Q XQ w S Fl F H σ tc tv Q' ev r k kx
  simp only [we_, mGet2F, wR_bind] at w
  refine o2 ρ _ XQ w S Fl F H σ tc tv _ ev r (fun c v S1 H1 q1 s1 r1 => ?_) kx
  obtain ⟨⟨hd, hn⟩, q1⟩ := wR_ite q1
  simp only [wR_bind] at q1
  obtain ⟨ad, rfl, hD⟩ := isDict_at (S := S1) hd r1.sh
  refine ⟨ad, rfl, hD, ?_⟩
  refine e2 ρ _ XQ q1 S1 Fl F H1 σ _ _ _ (ev.ex s1) r1 (fun ck vk S2 H2 q2 s2 r2 => ?_) (kx.ex s1)
  refine f2 ρ _ XQ q2 S2 Fl F H2 σ _ _ _ (ev.ex (s1.trans s2)) r2 (fun cx vx S3 H3 q3 s3 r3 => ?_) (kx.ex (s1.trans s2))
  split at q3
  · next n dx =>
    obtain ⟨c', h1, h2⟩ := wR_opt q3
    obtain ⟨S4, s4, r4, cx4⟩ := Rel.frz r3
    have hx : Sh X.K S4 vx dx := by
      have : CellOk X.K S4 Fl F (sh dx) vx [] := cx4
      exact this.zero.1
    have hs2 := r4.sh
    have rt := r4.tail.tail
    obtain ⟨L, t, hr⟩ := r4
    cases t with
    | @cons _ _ _ _ La Lb b t1 =>
      cases t1 with
      | @cons _ _ _ _ Lc Ld a t2 =>
        have hp : ∀ p ∈ Lc ++ (Fl ++ F), H3 p.1 = some p.2 := fun p hp => hr.all p (by
          rw [List.append_assoc]
          rcases List.mem_append.mp hp with hp | hp
          · exact List.mem_append_right _ (List.mem_append_left _ (List.mem_append_left _ hp))
          · exact List.mem_append_right _ (List.mem_append_right _ hp))
        unfold getM at h1
        split at h1
        · next d hat =>
          cases h1
          obtain ⟨ad', ro, e3, g1, g2, _⟩ := look_val a b hn hr.sh hp hs2 hat
          cases e3
          obtain ⟨y, rfl, hy⟩ := g2 d rfl
          exact ⟨some y, g1, k _ _ S4 H3 h2 (((s1.trans s2).trans s3).trans s4) (rt.push hy)⟩
        · next hat =>
          cases h1
          obtain ⟨ad', ro, e3, g1, _, g3⟩ := look_val a b hn hr.sh hp hs2 hat
          cases e3
          rw [g3 rfl] at g1
          exact ⟨none, g1, k _ _ S4 H3 h2 (((s1.trans s2).trans s3).trans s4) (rt.push hx)⟩
        · cases h1
  · exact q3.elim
end
theorem r_ixU (r : MRc) (k : ME) (ρ : Env) : rcIxU r k ρ = (r ρ).bind fun p => match p with
  | (n + 2, e, rb) => (k ρ).bind fun ck => (match rcTo e ck with
    | some (d, f) => .ok (n + 1, d, fun d' => rb (f d'))
    | none => .bad)
  | _ => .bad := rfl
end VL
set_option maxRecDepth 100000
/-! XN: texts: x.count(y), x.split(y), for c in x. -/
namespace VL
open PySem L2
variable [TB : Tbs]
def mTx (f : Str → Str → Option Cell) (o e : ME) : ME := fun ρ => (o ρ).bind fun c => match c.d with
  | .str a => (e ρ).bind fun y => (match y.d with
    | .str b => (match f a b with | some c => .ok c | none => .bad)
    | _ => .bad)
  | _ => .bad
theorem x_mTx (f : Str → Str → Option Cell) (o e : ME) (ρ : Env) : mTx f o e ρ = (o ρ).bind fun c => match c.d with
  | .str a => (e ρ).bind fun y => (match y.d with
    | .str b => (match f a b with | some c => .ok c | none => .bad)
    | _ => .bad)
  | _ => .bad := rfl
def TxOk (K : PySem.W.Frag) (r : V → List V → Hp → VK → Prop) (f : Str → Str → Option Cell) : Prop := ∀ a b c, f a b = some c → ∀ S Fl F H tc tv Q', Rel K S Fl F H tc tv →
  (∀ v S' H', Same S S' → Rel K S' Fl F H' (c :: tc) (v :: tv) → Q' v H') → r (.str a) [.str b] H Q'
section
variable {X : Cx} {W : WX} {o e : Expr} {to te : TE} {mo me : ME}
theorem txt_meth {r : V → List V → Hp → VK → Prop} {f : Str → Str → Option Cell} (ho : EM X W o to mo) (he : EM X W e te me) (hr : TxOk X.K r f) (hs : starEach (e :: []) X.env = (false, eval e X.env) :: starEach [] X.env) :
    ExprOk X.K X.mg W (tBM X.K "str" r to (tCons te tNil)) (we_ (mTx f mo me)) := by
  intro ρ Q XQ w S Fl F H σ tc tv Q' ev r0 k kx
  simp only [we_, mTx, wR_bind] at w
  refine ho.s ρ _ XQ w S Fl F H σ tc tv _ ev r0 (fun c v S1 H1 q e1 r1 => ?_) kx
  have hv := r1.sh
  split at q
  · next a hd =>
    rw [hd] at hv
    have := hv.strE
    subst this
    rw [wR_bind] at q
    refine ⟨by simp [tyV], ?_⟩
    refine (am_cons he am_nil hs).s ρ (fun cs => ∃ y, cs = [y] ∧ wR (match y.d with | .str b => (match f a b with | some c => .ok c | none => .bad) | _ => .bad) Q XQ) XQ ?_ S1 Fl F H1 σ _ _ _ (ev.ex e1) r1 (fun cs vs S2 H2 q2 hl e2 r2 => ?_) (kx.ex e1)
    · show wR ((me ρ).bind fun c => (R.ok []).bind fun cs => .ok (c :: cs)) _ _
      rw [wR_bind]
      exact wR_mono q fun y _ h => ⟨y, rfl, h⟩
    · obtain ⟨y, rfl, q2⟩ := q2
      obtain ⟨w1, rfl⟩ : ∃ w1, vs = [w1] := by
        match vs, hl with
        | [w1], _ => exact ⟨w1, rfl⟩
      have hy := r2.sh
      split at q2
      · next b hb =>
        rw [hb] at hy
        have := hy.strE
        subst this
        split at q2
        · next c hf => exact hr a b c hf S2 Fl F H2 _ _ Q' r2.tail.tail fun v S3 H3 e3 r3 => k c v S3 H3 q2 ((e1.trans e2).trans e3) r3
        · exact q2.elim
      · exact q2.elim
  · exact q.elim
end
def cntX (a b : Str) : Option Cell := some (sh (.int (Txt.count a b)))
def splX (a b : Str) : Option Cell := if (b.length == 0) = false ∧ a.length + 2 ≤ sizeLine ∧ (Txt.split a b).length ≤ sizeLine then some (own 1 (.lst ((Txt.split a b).map D.str))) else none
theorem tx_cnt {K : PySem.W.Frag} : TxOk K (fun x xs H Q => ∃ a b, x = .str a ∧ xs = [.str b] ∧ Q (.int (Txt.count a b)) H) cntX := by
  intro a b c h S Fl F H tc tv Q' r k
  cases h
  exact ⟨a, b, rfl, rfl, k _ S H (Same.refl S) (r.push (.int _))⟩
theorem ShA.strs2 {K : PySem.W.Frag} {S : Hp} : ∀ xs : List Str, ShA K S (xs.map V.str) (xs.map D.str)
  | [] => .nil
  | x :: xs => .cons (.str x) (ShA.strs2 xs)
theorem tx_spl {K : PySem.W.Frag} : TxOk K (fun x xs H Q => ∃ a b, x = .str a ∧ xs = [.str b] ∧ (b.length == 0) = false ∧ a.length + 2 ≤ sizeLine ∧ rNewStrs (Txt.split a b) H Q) splX := by
  intro a b c h S Fl F H tc tv Q' r k
  unfold splX at h
  split at h
  · next hc =>
    cases h
    refine ⟨a, b, rfl, rfl, hc.1, hc.2.1, fun p hp => k _ S _ (Same.refl S) (r.mkL hp (ShA.strs2 _) ?_)⟩
    rw [List.length_map]; exact hc.2.2
  · cases h
section
variable {X : Cx} {W : WX} {tg e : Expr} {te : TE} {m : ME}
/-- the signs of a text -/
def signs (x : Str) : List Cell := x.cps.toList.map fun c => sh (.str ⟨#[c]⟩)
theorem walk_str {K : PySem.W.Frag} {S0 : Hp} {x : Str} : WalkV K S0 (Its x) [] [] (signs x) := by
  intro i S Fl F M H _ t hr
  have hl : (signs x).length = x.cps.size := by simp [signs]
  rw [hl]
  refine ⟨fun hi => hi, fun hi => hi, fun hi v H' hy => ?_⟩
  obtain ⟨rfl, c, hc, rfl⟩ := hy
  refine ⟨sh (.str ⟨#[c]⟩), S, ?_, Same.refl S, hr, .o (.sh (.str _))⟩
  unfold signs
  rw [List.getElem?_map, Array.getElem?_toList, hc]
  rfl
def miStr (e : ME) : MI := fun ρ => (e ρ).bind fun c => match c.d with | .str x => .ok (true, signs x) | _ => .bad
theorem x_iStr (e : ME) (ρ : Env) : miStr e ρ = (e ρ).bind fun c => match c.d with | .str x => .ok (true, signs x) | _ => .bad := rfl
theorem im_str (h : EM X W e te m) : IM X W tg e (iStr te) (miStr m) := by
  obtain ⟨a1, a2⟩ := h
  refine ⟨pi_str a1, ?_⟩
  intro ρ Q XQ w S Fl F H σ tc tv R' ev r0 k kx
  simp only [wi_, miStr, wR_bind] at w
  refine a2 ρ _ XQ w S Fl F H σ tc tv _ ev r0 (fun c v S1 H1 q e1 r1 => ?_) kx
  have hv := r1.sh
  split at q
  · next x hd =>
    rw [hd] at hv
    exact ⟨x, hv.strE, k [] [] _ _ S1 H1 (q _ fun _ => rfl) e1 r1.tail .nil walk_str⟩
  · exact q.elim
end
section
variable {X : Cx} {W : WX} {o e : Expr} {to te : TE} {mo me : ME} {name : Str} {id : String} {r : V → List V → Hp → VK → Prop} {f : Str → Str → Option Cell} {apos cpos : Pos}
theorem em_tx (hm : MtR X id r) (hx : TxOk X.K r f) (slot : Slot "str" name id) (hty : typeOf (.builtin id) = pure (.type "method_descriptor")) (ho : EM X W o to mo) (he : EM X W e te me)
    (hbase : attributeBase o name X.env (eval o X.env) = eval o X.env := by rfl)
    (hfew : ((backTo cpos (starEach [e] X.env)).all (fun x => !x.1) && (backToKw cpos (keywordEach [] X.env)).all (fun x => x.1.isSome) && decide ([e].length + ([] : List Keyword).length + (if ([] : List Keyword).isEmpty then 0 else 1) < 30)) = true := by rfl)
    (hline : (apos.endLine == cpos.line) = true := by rfl) (hs : starEach [e] X.env = (false, eval e X.env) :: starEach [] X.env := by rfl) (hplain : (backTo cpos (starEach [] X.env)).any (·.1) = false := by rfl) :
    EM X W (.Call (.Attribute o name apos) [e] [] cpos) (tBM X.K "str" r to (tCons te tNil)) (mTx f mo me) :=
  ⟨pe_bm PySem.F.plainAttrs_str slot hty hm ho.p (pa_cons he.p pa_nil hs) hbase hfew hline hs hplain, txt_meth ho he hx hs⟩
end
/-! x[i:j] of a text, int(x) of a text -/
def slStr : WSl := fun c lo hi Q => ∃ z, c.d = .str z ∧ z.length ≤ sizeLine ∧ Q (sh (.str (cutS z lo hi)))
theorem ok_sliceS {K : PySem.W.Frag} : SliceOk K rSlS slStr := by
  rintro c lo hi Q ⟨z, hd, hz, q⟩ S Fl F H v tc tv Q' r k
  have a := r.sh
  rw [hd] at a
  exact ⟨z, a.strE, hz, k _ _ S H q (Same.refl S) (r.tail.push (.str _))⟩
def mSlT (e : ME) (l h : MOp) : ME := fun ρ => (e ρ).bind fun c => (l ρ).bind fun lo => (h ρ).bind fun hi => (match c.d with | .str z => if z.length ≤ sizeLine then .ok (sh (.str (cutS z lo hi))) else .bad | _ => .bad)
theorem x_slT (e : ME) (l h : MOp) (ρ : Env) : mSlT e l h ρ = (e ρ).bind fun c => (l ρ).bind fun lo => (h ρ).bind fun hi => (match c.d with | .str z => if z.length ≤ sizeLine then .ok (sh (.str (cutS z lo hi))) else .bad | _ => .bad) := rfl
section
variable {X : Cx} {W : WX} {e : Expr} {lo hi : Option Expr} {te : TE} {me : ME} {tl th : TO} {ml mh : MOp} {p2 pos : Pos}
theorem em_sliceT (he : EM X W e te me) (hl : OM X W lo tl ml) (hh : OM X W hi th mh) : EM X W (.Subscript e (.Slice lo hi none p2) pos) (tSl rSlS te tl th) (mSlT me ml mh) := (ce_slice sl_str ok_sliceS he hl hh).mono fun ρ Q XQ h => by
  simp only [we_, mSlT, wR_bind] at h
  refine wR_mono h fun c _ h => wR_mono h fun lo _ h => wR_mono h fun hi _ h => ?_
  split at h
  · next z hd =>
    obtain ⟨h1, h2⟩ := wR_ite h
    exact ⟨z, hd, h1, h2⟩
  · exact h.elim
end
def intTM : MC := fun cs => match cs with
  | [x] => (match x.d with
    | .str a => (match PySem.intText? a with | some n => if a.length ≤ 640 then some (sh (.int n)) else none | none => none)
    | _ => none)
  | _ => none
def cIntT : WF := fun cs Q => ∃ c a n, cs = [c] ∧ c.d = .str a ∧ PySem.intText? a = some n ∧ a.length ≤ 640 ∧ Q (sh (.int n))
theorem ok_intT {K : PySem.W.Frag} : CallOk K (fun xs H Q => ∃ a n, xs = [.str a] ∧ PySem.intText? a = some n ∧ a.length ≤ 640 ∧ Q (.int n) H) cIntT := by
  rintro cs Q ⟨c, a, n, rfl, hd, h1, h2, q⟩ S Fl F H vs tc tv Q' hl r k
  obtain ⟨v, rfl⟩ := vs1 hl rfl
  have b := Rel.sh r
  rw [hd] at b
  exact ⟨a, n, by rw [b.strE], h1, h2, k _ _ S H q (Same.refl S) ((Rel.tail r).push (.int _))⟩
theorem cm_intT {K : PySem.W.Frag} : CbM K (fun xs H Q => ∃ a n, xs = [.str a] ∧ PySem.intText? a = some n ∧ a.length ≤ 640 ∧ Q (.int n) H) intTM := ⟨_, ok_intT, fun cs c h Q q => by
  unfold intTM at h
  split at h
  · split at h
    · next hd =>
      split at h
      · next n hn =>
        split at h
        · next hl => cases h; exact ⟨_, _, n, rfl, hd, hn, hl, q⟩
        · cases h
      · cases h
    · cases h
  · cases h⟩
end VL
set_option maxRecDepth 100000
/-! XU: xs.pop(i), xs.insert(i, x) at places from the front. -/
namespace VL
open PySem L2
variable [TB : Tbs]
theorem OwnA.eraseAt {K : PySem.W.Frag} {S : Hp} {n : Nat} : ∀ {ds : List D} {vs : List V} {L : Hl} {k : Nat} {d : D}, OwnA K S n vs ds L → ds[k]? = some d → ∃ v L1 L2, vs[k]? = some v ∧ OwnA K S n (vs.eraseIdx k) (ds.eraseIdx k) L1 ∧ Own K S n v d L2 ∧ L.Perm (L1 ++ L2)
  | [], _, _, _, _, _, h => by cases h
  | x :: ds, _, _, 0, d, .cons (v := v) (L1 := M1) (L2 := M2) a t, h => by
    rw [List.getElem?_cons_zero] at h
    injection h with h
    subst h
    exact ⟨v, M2, M1, rfl, t, a, List.perm_append_comm⟩
  | x :: ds, _, _, k + 1, d, .cons (v := v) (L1 := M1) (L2 := M2) a t, h => by
    obtain ⟨u, L1, L2, h1, h2, h3, h4⟩ := OwnA.eraseAt (k := k) t (by simpa using h)
    refine ⟨u, M1 ++ L1, L2, by simpa using h1, ?_, h3, ?_⟩
    · have := OwnA.cons a h2
      simpa using this
    · rw [List.append_assoc]
      exact List.Perm.append_left M1 h4
def popAtM : MM := fun n e cs => match e, cs with
  | .lst ds, [c] => (match c.d with
    | .int i => if 0 ≤ i ∧ i < 9223372036854775808 then (match ds[i.toNat]? with | some d => some (⟨.o, n, d⟩, .lst (ds.eraseIdx i.toNat)) | none => none) else none
    | _ => none)
  | _, _ => none
def mPopAt : WM := fun m e cs Q => ∃ ds c i d, e = .lst ds ∧ cs = [c] ∧ c.d = .int i ∧ 0 ≤ i ∧ i < 9223372036854775808 ∧ ds[i.toNat]? = some d ∧ Q ⟨.o, m, d⟩ (.lst (ds.eraseIdx i.toNat))
theorem ok_popAt {K : PySem.W.Frag} : MutOk K rPopAt mPopAt := by
  rintro m e cs Q ⟨ds, c, i, d, rfl, rfl, hc, h0, h63, hd, q⟩ S Fl F R H b Lf vs La Q' o t hr kk
  cases t with
  | @cons _ _ v vs' M1 M2 a t0 =>
    cases t0
    rw [List.append_nil] at hr
    cases o with
    | @lst n ad ws ds' L hz' h =>
      have hm := hr.all (b, .lst ws) (List.mem_append_left _ List.mem_cons_self)
      obtain ⟨w, L', Lv, g1, g2, g3, g4⟩ := h.eraseAt hd
      have hv : v = .int i := a.keyV (k := .inl i) (by rw [hc]; rfl)
      subst hv
      have hlen := h.length
      have hi : i.toNat < ws.length := (List.getElem?_eq_some_iff.mp g1).1
      refine ⟨b, ws, i, i.toNat, w, rfl, rfl, hm, by omega, h63, ?_, g1, ?_⟩
      · have := seqIndex_of (n := ws.length) h0 (by omega)
        rw [this]
      refine kk _ w _ S _ ((b, HO.lst (ws.eraseIdx i.toNat)) :: L') Lv q (Same.refl S) (.lst (Nat.le_trans (List.length_eraseIdx_le _ _) hz') g2) (.o g3) ?_
      have h1 : HRel S ((b, HO.lst ws) :: (L ++ (M1 ++ R))) H := by simpa [List.append_assoc] using hr
      have h2 := h1.put (o' := .lst (ws.eraseIdx i.toNat))
      have h3 : HRel S ((b, HO.lst (ws.eraseIdx i.toNat)) :: ((L' ++ Lv) ++ (M1 ++ R))) (upd H b (.lst (ws.eraseIdx i.toNat))) := h2.perm (List.Perm.cons _ (g4.append_right _))
      have p1 : ((L' ++ Lv) ++ (M1 ++ R)).Perm ((L' ++ (Lv ++ R)) ++ M1) := by
        simp only [List.append_assoc]
        refine List.Perm.append_left L' (List.Perm.append_left Lv ?_)
        exact List.perm_append_comm
      have h4 : HRel S (((b, HO.lst (ws.eraseIdx i.toNat)) :: (L' ++ (Lv ++ R))) ++ M1) (upd H b (.lst (ws.eraseIdx i.toNat))) := h3.perm (List.Perm.cons _ p1)
      exact h4.sub (List.sublist_append_left _ _)
theorem mm_popAt {K : PySem.W.Frag} : MutM K rPopAt popAtM := ⟨_, ok_popAt, fun m e cs c e' h Q q => by
  unfold popAtM at h
  split at h
  · next ds c0 =>
    split at h
    · next i hi =>
      split at h
      · next hr =>
        split at h
        · next d hd => cases h; exact ⟨ds, c0, i, d, rfl, rfl, hi, hr.1, hr.2, hd, q⟩
        · cases h
      · cases h
    · cases h
  · cases h⟩
/-! ### xs.insert(i, x) -/
theorem OwnA.cut {K : PySem.W.Frag} {S : Hp} {n : Nat} : ∀ (k : Nat) {ds : List D} {vs : List V} {L : Hl}, OwnA K S n vs ds L → ∃ L1 L2, OwnA K S n (vs.take k) (ds.take k) L1 ∧ OwnA K S n (vs.drop k) (ds.drop k) L2 ∧ L = L1 ++ L2
  | 0, _, _, L, h => ⟨[], L, .nil, h, rfl⟩
  | k + 1, _, _, _, .nil => ⟨[], [], .nil, .nil, rfl⟩
  | k + 1, _, _, _, .cons (L1 := M1) (L2 := M2) a t => by
    obtain ⟨L1, L2, h1, h2, rfl⟩ := OwnA.cut k t
    exact ⟨M1 ++ L1, L2, .cons a h1, h2, by rw [List.append_assoc]⟩
def rInsI : V → List V → Hp → VK → Prop := fun x vs H Q => ∃ (l : Addr) (xs : List V) (i : Int) (y : V), x = .ref l ∧ vs = [.int i, y] ∧ H l = some (.lst xs) ∧ xs.length < sizeLine ∧ 0 ≤ i ∧ i < 2 ^ 63 ∧ Q .non (upd H l (.lst (xs.take i.toNat ++ [y] ++ xs.drop i.toNat)))
theorem mt_insertP {X : Cx} : MtR X "list.insert" rInsI := mt_insert
def insertM : MM := fun n e cs => match e, cs with
  | .lst ds, [c, c2] => (match c.d with
    | .int i => if 0 ≤ i ∧ i < 9223372036854775808 ∧ ds.length < sizeLine ∧ c2.fits n = true then some (sh .non, .lst (ds.take i.toNat ++ ([c2.d] ++ ds.drop i.toNat))) else none
    | _ => none)
  | _, _ => none
def mInsert : WM := fun m e cs Q => ∃ ds c c2 i, e = .lst ds ∧ cs = [c, c2] ∧ c.d = .int i ∧ 0 ≤ i ∧ i < 9223372036854775808 ∧ ds.length < sizeLine ∧ c2.fits m = true ∧ Q (sh .non) (.lst (ds.take i.toNat ++ ([c2.d] ++ ds.drop i.toNat)))
theorem ok_insert {K : PySem.W.Frag} : MutOk K rInsI mInsert := by
  rintro m e cs Q ⟨ds, c, c2, i, rfl, rfl, hc, h0, h63, hz, hf, q⟩ S Fl F R H b Lf vs La Q' o t hr kk
  cases t with
  | @cons _ _ v vs' M1 M2 a t0 =>
    cases t0 with
    | @cons _ _ v2 vs'' N1 N2 a2 t1 =>
      cases t1
      rw [List.append_nil] at hr
      have hv : v = .int i := a.keyV (k := .inl i) (by rw [hc]; rfl)
      subst hv
      obtain ⟨_, rfl⟩ := a.scal (by rw [hc]; rfl)
      cases o with
      | @lst n ad ws ds' L hz' h =>
        have hm := hr.all (b, .lst ws) (List.mem_append_left _ List.mem_cons_self)
        obtain ⟨S', L', e1, o1, hr1⟩ := store1 (M := (b, HO.lst ws) :: L) a2 (by simpa using hr) hf
        obtain ⟨A1, A2, g1, g2, rfl⟩ := (h.ex e1).cut i.toNat
        have hwl := h.length
        refine ⟨b, ws, i, v2, rfl, rfl, hm, by rw [h.length]; exact hz, h0, h63, ?_⟩
        have hsz : (ws.take i.toNat ++ [v2] ++ ws.drop i.toNat).length ≤ sizeLine := by
          have := congrArg List.length (List.take_append_drop i.toNat ws)
          simp only [List.length_append, List.length_singleton] at this ⊢
          omega
        have ow : OwnA K S' m (ws.take i.toNat ++ [v2] ++ ws.drop i.toNat) (ds.take i.toNat ++ ([c2.d] ++ ds.drop i.toNat)) (A1 ++ ((L' ++ []) ++ A2)) := by
          rw [List.append_assoc]
          exact g1.append ((OwnA.cons o1 .nil).append g2)
        refine kk _ .non _ S' _ ((b, HO.lst (ws.take i.toNat ++ [v2] ++ ws.drop i.toNat)) :: (A1 ++ ((L' ++ []) ++ A2))) [] q e1 (.lst hsz ow) (.o (.sh .non)) ?_
        have h1 : HRel S' ((b, HO.lst ws) :: (A1 ++ A2 ++ (L' ++ R))) H := by simpa [List.append_assoc] using hr1
        have h2 := h1.put (o' := .lst (ws.take i.toNat ++ [v2] ++ ws.drop i.toNat))
        refine h2.perm ?_
        simp only [List.append_nil, List.nil_append, List.cons_append, List.append_assoc]
        refine List.Perm.cons _ (List.Perm.append_left A1 ?_)
        rw [← List.append_assoc, ← List.append_assoc]
        exact List.perm_append_comm.append_right R
theorem mm_insert {K : PySem.W.Frag} : MutM K rInsI insertM := ⟨_, ok_insert, fun m e cs c e' h Q q => by
  unfold insertM at h
  split at h
  · next ds c0 c2 =>
    split at h
    · next i hi =>
      split at h
      · next hr => cases h; exact ⟨ds, c0, c2, i, rfl, rfl, hi, hr.1, hr.2.1, hr.2.2.1, hr.2.2.2, q⟩
      · cases h
    · cases h
  · cases h⟩
end VL
set_option maxRecDepth 100000
/-! XV: and, or, with effects: tests and values. -/
namespace VL
open PySem L2
variable [TB : Tbs]
section
variable {K : PySem.W.Frag} {mg : Str → Option Value} {W : WX}
def ftAnd (a b : MFT) : MFT := fun ρ => (a ρ).bind fun x ρ1 => if x = true then b ρ1 else .ok false ρ1
def ftOr (a b : MFT) : MFT := fun ρ => (a ρ).bind fun x ρ1 => if x = true then .ok true ρ1 else b ρ1
theorem ft_and_s {ta tb : TT} {a b : MFT} (ha : FTOk K mg W ta a) (hb : FTOk K mg W tb b) : FTOk K mg W (tAnd ta tb) (ftAnd a b) := by
  intro ρ S F A H σ Le M Q' hl sl hr
  have h1 := ha ρ S F A H σ Le M (fun c H1 => if c = true then tb σ H1 Q' else Q' false H1) hl sl hr
  unfold ftAnd
  cases hm : a ρ with
  | bad => trivial
  | ex x ρ1 => rw [hm] at h1; exact h1
  | ok c ρ1 =>
    rw [hm] at h1
    simp only [RF.bind_ok]
    cases c with
    | false =>
      intro k
      exact h1 fun S1 H1 Le1 l1 e1 sl1 hr1 => iteF (k S1 H1 Le1 l1 e1 sl1 hr1)
    | true =>
      simp only [if_true]
      cases hb' : b ρ1 with
      | bad => trivial
      | ok c2 ρ2 =>
        intro k
        refine h1 fun S1 H1 Le1 l1 e1 sl1 hr1 => iteT ?_
        have h2 := hb ρ1 S1 F A H1 σ Le1 M Q' l1 sl1 hr1
        rw [hb'] at h2
        exact h2 fun S2 H2 Le2 l2 e2 sl2 hr2 => k S2 H2 Le2 l2 (e1.trans e2) sl2 hr2
      | ex x ρ2 =>
        intro k
        refine h1 fun S1 H1 Le1 l1 e1 sl1 hr1 => iteT ?_
        have h2 := hb ρ1 S1 F A H1 σ Le1 M Q' l1 sl1 hr1
        rw [hb'] at h2
        exact h2 (k.ex e1)
theorem ft_or_s {ta tb : TT} {a b : MFT} (ha : FTOk K mg W ta a) (hb : FTOk K mg W tb b) : FTOk K mg W (tOr ta tb) (ftOr a b) := by
  intro ρ S F A H σ Le M Q' hl sl hr
  have h1 := ha ρ S F A H σ Le M (fun c H1 => if c = true then Q' true H1 else tb σ H1 Q') hl sl hr
  unfold ftOr
  cases hm : a ρ with
  | bad => trivial
  | ex x ρ1 => rw [hm] at h1; exact h1
  | ok c ρ1 =>
    rw [hm] at h1
    simp only [RF.bind_ok]
    cases c with
    | true =>
      intro k
      exact h1 fun S1 H1 Le1 l1 e1 sl1 hr1 => iteT (k S1 H1 Le1 l1 e1 sl1 hr1)
    | false =>
      simp only [Bool.false_eq_true, if_false]
      cases hb' : b ρ1 with
      | bad => trivial
      | ok c2 ρ2 =>
        intro k
        refine h1 fun S1 H1 Le1 l1 e1 sl1 hr1 => iteF ?_
        have h2 := hb ρ1 S1 F A H1 σ Le1 M Q' l1 sl1 hr1
        rw [hb'] at h2
        exact h2 fun S2 H2 Le2 l2 e2 sl2 hr2 => k S2 H2 Le2 l2 (e1.trans e2) sl2 hr2
      | ex x ρ2 =>
        intro k
        refine h1 fun S1 H1 Le1 l1 e1 sl1 hr1 => iteF ?_
        have h2 := hb ρ1 S1 F A H1 σ Le1 M Q' l1 sl1 hr1
        rw [hb'] at h2
        exact h2 (k.ex e1)
/-! as values of truth -/
def fAndV (a b : MF) : MF := fun ρ => (a ρ).bind fun c ρ1 => (asBlF c ρ1).bind fun x ρ2 => if x = true then b ρ2 else .ok (sh (.bl false)) ρ2
def fOrV (a b : MF) : MF := fun ρ => (a ρ).bind fun c ρ1 => (asBlF c ρ1).bind fun x ρ2 => if x = true then .ok (sh (.bl true)) ρ2 else b ρ2
def fNotV (a : MF) : MF := fun ρ => (a ρ).bind fun c ρ1 => (asBlF c ρ1).bind fun x ρ2 => .ok (sh (.bl (!x))) ρ2
/-- a truth out of what an effect gives -/
theorem fx_bl_s {t : TE} {m : MF} (h : FxOk K mg W t m) (k : Bool → Env → RF Cell) {ρ : Env} {S : Hp} {F : Hl} {A : Nat → V} {H : Hp} {σ : St} {Le M : Hl} {T : V → Hp → Prop} (hl : σ.length = ρ.length) (sl : Slots K S F A ρ σ Le) (hr : HRel S (M ++ (Le ++ F)) H)
    {Q' : V → Hp → Prop}
    (q : ∀ x ρ1, m ρ ≠ .bad → ∀ S1 H1 Le1, σ.length = ρ1.length → Same S S1 → Slots K S1 F A ρ1 σ Le1 → HRel S1 (M ++ (Le1 ++ F)) H1 → match k x ρ1 with
      | .ok c ρ' => (∀ v S' H' Le' Lc, σ.length = ρ'.length → Same S1 S' → Slots K S' F A ρ' σ Le' → CellOk K S' [] F c v Lc → HRel S' (Lc ++ (M ++ (Le' ++ F))) H' → Q' v H') → T (.bl x) H1
      | .ex y ρ' => XF_ K mg W S1 F A σ y ρ' → T (.bl x) H1
      | .bad => True) :
    match (m ρ).bind fun c ρ1 => (asBlF c ρ1).bind k with
      | .ok c ρ' => (∀ v S' H' Le' Lc, σ.length = ρ'.length → Same S S' → Slots K S' F A ρ' σ Le' → CellOk K S' [] F c v Lc → HRel S' (Lc ++ (M ++ (Le' ++ F))) H' → Q' v H') → t σ H T
      | .ex y ρ' => XF_ K mg W S F A σ y ρ' → t σ H T
      | .bad => True := by
  have h1 := h ρ S F A H σ Le M T hl sl hr
  cases hm : m ρ with
  | bad => trivial
  | ex x ρ1 => rw [hm] at h1; exact h1
  | ok c ρ1 =>
    rw [hm] at h1 q
    simp only [RF.bind_ok, asBlF]
    cases hc : c.d with
    | bl b =>
      simp only [RF.bind_ok]
      have fin : ∀ v S1 H1 Le1 Lc, CellOk K S1 [] F c v Lc → HRel S1 (Lc ++ (M ++ (Le1 ++ F))) H1 → v = .bl b := fun v S1 H1 Le1 Lc c1 hr1 => by
        have q := c1.shH (X := []) hr1.sh fun p hp => (hr1.pr p (by
          rcases List.mem_append.mp hp with hp | hp
          · exact List.mem_append_left _ hp
          · exact List.mem_append_right _ (List.mem_append_right _ (List.mem_append_right _ (by simpa using hp))))).1
        rw [hc] at q
        exact q.blE
      cases hk : k b ρ1 with
      | bad => trivial
      | ok c2 ρ2 =>
        intro kk
        refine h1 fun v S1 H1 Le1 Lc l1 e1 sl1 c1 hr1 => ?_
        have q2 := q b ρ1 (by simp) S1 H1 Le1 l1 e1 sl1 (hr1.sub (List.sublist_append_right _ _))
        rw [hk] at q2
        rw [fin v S1 H1 Le1 Lc c1 hr1]
        exact q2 fun v S' H' Le' Lc l2 e2 => kk v S' H' Le' Lc l2 (e1.trans e2)
      | ex y ρ2 =>
        intro kk
        refine h1 fun v S1 H1 Le1 Lc l1 e1 sl1 c1 hr1 => ?_
        have q2 := q b ρ1 (by simp) S1 H1 Le1 l1 e1 sl1 (hr1.sub (List.sublist_append_right _ _))
        rw [hk] at q2
        rw [fin v S1 H1 Le1 Lc c1 hr1]
        exact q2 (kk.ex e1)
    | _ => trivial
theorem fx_andV_s {ta tb : TE} {a b : MF} (ha : FxOk K mg W ta a) (hb : FxOk K mg W tb b) : FxOk K mg W (tAndV ta tb) (fAndV a b) := by
  intro ρ S F A H σ Le M Q' hl sl hr
  refine fx_bl_s ha _ (T := fun x H1 => ∃ c, x = .bl c ∧ if c = true then tb σ H1 Q' else Q' (.bl false) H1) hl sl hr fun x ρ1 _ S1 H1 Le1 l1 e1 sl1 hr1 => ?_
  cases x with
  | true =>
    simp only [if_true]
    have h2 := hb ρ1 S1 F A H1 σ Le1 M Q' l1 sl1 hr1
    cases hb' : b ρ1 with
    | bad => trivial
    | ok c ρ2 => rw [hb'] at h2; intro k; exact ⟨true, rfl, iteT (h2 k)⟩
    | ex y ρ2 => rw [hb'] at h2; intro k; exact ⟨true, rfl, iteT (h2 k)⟩
  | false =>
    simp only [Bool.false_eq_true, if_false]
    intro k
    exact ⟨false, rfl, iteF (k _ S1 H1 Le1 [] l1 (Same.refl _) sl1 (.o (.sh (.bl false))) hr1)⟩
theorem fx_orV_s {ta tb : TE} {a b : MF} (ha : FxOk K mg W ta a) (hb : FxOk K mg W tb b) : FxOk K mg W (tOrV ta tb) (fOrV a b) := by
  intro ρ S F A H σ Le M Q' hl sl hr
  refine fx_bl_s ha _ (T := fun x H1 => ∃ c, x = .bl c ∧ if c = true then Q' (.bl true) H1 else tb σ H1 Q') hl sl hr fun x ρ1 _ S1 H1 Le1 l1 e1 sl1 hr1 => ?_
  cases x with
  | false =>
    simp only [Bool.false_eq_true, if_false]
    have h2 := hb ρ1 S1 F A H1 σ Le1 M Q' l1 sl1 hr1
    cases hb' : b ρ1 with
    | bad => trivial
    | ok c ρ2 => rw [hb'] at h2; intro k; exact ⟨false, rfl, iteF (h2 k)⟩
    | ex y ρ2 => rw [hb'] at h2; intro k; exact ⟨false, rfl, iteF (h2 k)⟩
  | true =>
    simp only [if_true]
    intro k
    exact ⟨true, rfl, iteT (k _ S1 H1 Le1 [] l1 (Same.refl _) sl1 (.o (.sh (.bl true))) hr1)⟩
theorem fx_notV_s {ta : TE} {a : MF} (ha : FxOk K mg W ta a) : FxOk K mg W (tNotV ta) (fNotV a) := by
  intro ρ S F A H σ Le M Q' hl sl hr
  refine fx_bl_s ha _ (T := fun x H1 => ∃ c, x = .bl c ∧ Q' (.bl (!c)) H1) hl sl hr fun x ρ1 _ S1 H1 Le1 l1 e1 sl1 hr1 => ?_
  intro k
  exact ⟨x, rfl, k _ S1 H1 Le1 [] l1 (Same.refl _) sl1 (.o (.sh (.bl (!x)))) hr1⟩
end
structure FTW (X : Cx) (W : WX) (e : Expr) (t : TT) (m : MFT) : Prop where
  p : PW X e t
  s : FTOk X.K X.mg W t m
section
variable {X : Cx} {W : WX} {a b c : Expr} {rest : List Expr} {ta tb : TE} {ma mb : MF} {sa sb : TT} {ua ub : MFT} {pos : Pos}
theorem ftw_and (ha : FTM X W a sa ua) (hb : FTW X W (.BoolOp .And (b :: rest) pos) sb ub) : FTW X W (.BoolOp .And (a :: b :: rest) pos) (tAnd sa sb) (ftAnd ua ub) := ⟨pw_and ha.p hb.p, ft_and_s ha.s hb.s⟩
theorem ftw_or (ha : FTM X W a sa ua) (hb : FTW X W (.BoolOp .Or (b :: rest) pos) sb ub) : FTW X W (.BoolOp .Or (a :: b :: rest) pos) (tOr sa sb) (ftOr ua ub) := ⟨pw_or ha.p hb.p, ft_or_s ha.s hb.s⟩
theorem ftw_and1 (ha : FTM X W a sa ua) : FTW X W (.BoolOp .And [a] pos) sa ua := ⟨pw_and1 ha.p, ha.s⟩
theorem ftw_or1 (ha : FTM X W a sa ua) : FTW X W (.BoolOp .Or [a] pos) sa ua := ⟨pw_or1 ha.p, ha.s⟩
theorem ftw_tm {e : Expr} {t : TT} {m : MFT} (h : FTW X W e t m) : FTM X W e t m := ⟨h.p.pt, h.s⟩
theorem fm_one {op} (ha : FM X W a ta ma) : FM X W (.BoolOp op [a] pos) ta ma := ⟨pe_one ha.p, ha.s⟩
theorem fm_and (ha : FM X W a ta ma) (hb : FM X W (.BoolOp .And (b :: rest) pos) tb mb) : FM X W (.BoolOp .And (a :: b :: rest) pos) (tAndV ta tb) (fAndV ma mb) := ⟨pe_and ha.p hb.p, fx_andV_s ha.s hb.s⟩
theorem fm_or (ha : FM X W a ta ma) (hb : FM X W (.BoolOp .Or (b :: rest) pos) tb mb) : FM X W (.BoolOp .Or (a :: b :: rest) pos) (tOrV ta tb) (fOrV ma mb) := ⟨pe_or ha.p hb.p, fx_orV_s ha.s hb.s⟩
theorem fm_not (ha : FM X W a ta ma) : FM X W (.UnaryOp .Not a pos) (tNotV ta) (fNotV ma) := ⟨pe_not ha.p, fx_notV_s ha.s⟩
end
theorem x_ftAnd (a b : MFT) (ρ : Env) : ftAnd a b ρ = (a ρ).bind fun x ρ1 => if x = true then b ρ1 else .ok false ρ1 := rfl
theorem x_ftOr (a b : MFT) (ρ : Env) : ftOr a b ρ = (a ρ).bind fun x ρ1 => if x = true then .ok true ρ1 else b ρ1 := rfl
theorem x_ftPure (m : MT) (ρ : Env) : ftPure m ρ = match m ρ with
  | .ok b => .ok b ρ
  | .ex x => .ex x ρ
  | .bad => .bad := rfl
theorem x_fAndV (a b : MF) (ρ : Env) : fAndV a b ρ = (a ρ).bind fun c ρ1 => (asBlF c ρ1).bind fun x ρ2 => if x = true then b ρ2 else .ok (sh (.bl false)) ρ2 := rfl
theorem x_fOrV (a b : MF) (ρ : Env) : fOrV a b ρ = (a ρ).bind fun c ρ1 => (asBlF c ρ1).bind fun x ρ2 => if x = true then .ok (sh (.bl true)) ρ2 else b ρ2 := rfl
theorem x_fNotV (a : MF) (ρ : Env) : fNotV a ρ = (a ρ).bind fun c ρ1 => (asBlF c ρ1).bind fun x ρ2 => .ok (sh (.bl (!x))) ρ2 := rfl
end VL
set_option maxRecDepth 100000
/-! YF: texts: x.find(y), x.startswith(y), x.partition(y), y.join(xs), all(xs). -/
namespace VL
open PySem L2
variable [TB : Tbs]
def fndX (a b : Str) : Option Cell := some (sh (.int (Txt.find a b)))
theorem tx_fnd {K : PySem.W.Frag} : TxOk K (fun x xs H Q => ∃ a b, x = .str a ∧ xs = [.str b] ∧ Q (.int (Txt.find a b)) H) fndX := by
  intro a b c h S Fl F H tc tv Q' r k
  cases h
  exact ⟨a, b, rfl, rfl, k _ S H (Same.refl S) (r.push (.int _))⟩
def stwX (a b : Str) : Option Cell := some (sh (.bl (Txt.startswith a b)))
theorem tx_stw {K : PySem.W.Frag} : TxOk K (fun x xs H Q => ∃ a b, x = .str a ∧ xs = [.str b] ∧ Q (.bl (Txt.startswith a b)) H) stwX := by
  intro a b c h S Fl F H tc tv Q' r k
  cases h
  exact ⟨a, b, rfl, rfl, k _ S H (Same.refl S) (r.push (.bl _))⟩
def prtX (a b : Str) : Option Cell := if (b.length == 0) = false ∧ a.length ≤ sizeLine then some (sh (.tup [.str (Txt.partition a b).1, .str (Txt.partition a b).2.1, .str (Txt.partition a b).2.2])) else none
theorem tx_prt {K : PySem.W.Frag} : TxOk K (fun x xs H Q => ∃ a b, x = .str a ∧ xs = [.str b] ∧ (b.length == 0) = false ∧ a.length ≤ sizeLine ∧ ∀ p, H p = none → Q (.ref p) (upd H p (.tup [.str (Txt.partition a b).1, .str (Txt.partition a b).2.1, .str (Txt.partition a b).2.2]))) prtX := by
  intro a b c h S Fl F H tc tv Q' r k
  unfold prtX at h
  split at h
  · next hc =>
    cases h
    refine ⟨a, b, rfl, rfl, hc.1, hc.2, fun p hp => ?_⟩
    obtain ⟨S', e1, r1⟩ := r.mkSh (d := .tup [.str (Txt.partition a b).1, .str (Txt.partition a b).2.1, .str (Txt.partition a b).2.2]) hp (fun S' h1 e => .tup h1 (.cons (.str _) (.cons (.str _) (.cons (.str _) .nil))))
    exact k _ S' _ e1 r1
  · cases h
/-! ### y.join(xs) -/
def strsOf : List D → Option (List Str)
  | [] => some []
  | .str x :: ds => (match strsOf ds with | some r => some (x :: r) | none => none)
  | _ => none
theorem strs_of {K : PySem.W.Frag} {S : Hp} : ∀ {ds : List D} {ys : List Str} {vs : List V}, strsOf ds = some ys → ShA K S vs ds → vs = ys.map V.str
  | [], ys, _, h, .nil => by cases h; rfl
  | d :: ds, ys, _, h, .cons (v := v) h1 h2 => by
    cases d with
    | str x =>
      unfold strsOf at h
      split at h
      · next r e =>
        cases h
        rw [List.map_cons, ← strs_of e h2]
        cases h1
        rfl
      · cases h
    | _ => cases h
theorem strsOf_map (ys : List Str) : strsOf (ys.map D.str) = some ys := by
  induction ys with
  | nil => rfl
  | cons y ys ih => rw [List.map_cons, strsOf, ih]
def joiX (a : Str) (y : Cell) : Option Cell := match y.d with
  | .lst ds => (match strsOf ds with
    | some ys => if y.flat = true ∧ (ys.map (·.length)).sum + ys.length * a.length ≤ 16777216 then some (sh (.str (Txt.join a ys))) else none
    | none => none)
  | _ => none
def mTy (f : Str → Cell → Option Cell) (o e : ME) : ME := fun ρ => (o ρ).bind fun c => match c.d with
  | .str a => (e ρ).bind fun y => (match f a y with | some c => .ok c | none => .bad)
  | _ => .bad
theorem x_mTy (f : Str → Cell → Option Cell) (o e : ME) (ρ : Env) : mTy f o e ρ = (o ρ).bind fun c => match c.d with
  | .str a => (e ρ).bind fun y => (match f a y with | some c => .ok c | none => .bad)
  | _ => .bad := rfl
def TyOk (K : PySem.W.Frag) (r : V → List V → Hp → VK → Prop) (f : Str → Cell → Option Cell) : Prop := ∀ a y c, f a y = some c → ∀ S Fl F H w tc tv Q', Rel K S Fl F H (y :: tc) (w :: tv) →
  (∀ v S' H', Same S S' → Rel K S' Fl F H' (c :: tc) (v :: tv) → Q' v H') → r (.str a) [w] H Q'
theorem ty_joi {K : PySem.W.Frag} : TyOk K (fun x xs H Q => ∃ a p, ∃ ys : List Str, x = .str a ∧ xs = [.ref p] ∧ (SqL K H p (ys.map V.str) ∨ SqT K H p (ys.map V.str)) ∧ (ys.map (·.length)).sum + ys.length * a.length ≤ 16777216 ∧ Q (.str (Txt.join a ys)) H) joiX := by
  intro a y c h S Fl F H w tc tv Q' r k
  unfold joiX at h
  split at h
  · next ds hd =>
    split at h
    · next ys hy =>
      split at h
      · next hc =>
        cases h
        obtain ⟨S2, p, vs, s2, rfl, g1, g2, g3, r2⟩ := r.items (ds := ds) (by rw [hd]; rfl) hc.1
        rw [hd] at g1
        have := strs_of hy g2
        subst this
        exact ⟨a, p, ys, rfl, rfl, .inl g1, hc.2, k _ S2 H s2 (r2.push (.str _))⟩
      · cases h
    · cases h
  · cases h
section
variable {X : Cx} {W : WX} {o e : Expr} {to te : TE} {mo me : ME}
theorem txt_methY {r : V → List V → Hp → VK → Prop} {f : Str → Cell → Option Cell} (ho : EM X W o to mo) (he : EM X W e te me) (hr : TyOk X.K r f) (hs : starEach (e :: []) X.env = (false, eval e X.env) :: starEach [] X.env) :
    ExprOk X.K X.mg W (tBM X.K "str" r to (tCons te tNil)) (we_ (mTy f mo me)) := by
  intro ρ Q XQ w S Fl F H σ tc tv Q' ev r0 k kx
  simp only [we_, mTy, wR_bind] at w
  refine ho.s ρ _ XQ w S Fl F H σ tc tv _ ev r0 (fun c v S1 H1 q e1 r1 => ?_) kx
  have hv := r1.sh
  split at q
  · next a hd =>
    rw [hd] at hv
    have := hv.strE
    subst this
    rw [wR_bind] at q
    refine ⟨by simp [tyV], ?_⟩
    refine (am_cons he am_nil hs).s ρ (fun cs => ∃ y, cs = [y] ∧ wR (match f a y with | some c => .ok c | none => .bad) Q XQ) XQ ?_ S1 Fl F H1 σ _ _ _ (ev.ex e1) r1 (fun cs vs S2 H2 q2 hl e2 r2 => ?_) (kx.ex e1)
    · show wR ((me ρ).bind fun c => (R.ok []).bind fun cs => .ok (c :: cs)) _ _
      rw [wR_bind]
      exact wR_mono q fun y _ h => ⟨y, rfl, h⟩
    · obtain ⟨y, rfl, q2⟩ := q2
      obtain ⟨w1, rfl⟩ : ∃ w1, vs = [w1] := by
        match vs, hl with
        | [w1], _ => exact ⟨w1, rfl⟩
      split at q2
      · next c hf => exact hr a y c hf S2 Fl F H2 w1 _ _ Q' (r2.swap.tail) fun v S3 H3 e3 r3 => k c v S3 H3 q2 ((e1.trans e2).trans e3) r3
      · exact q2.elim
  · exact q.elim
end
section
variable {X : Cx} {W : WX} {o e : Expr} {to te : TE} {mo me : ME} {name : Str} {id : String} {r : V → List V → Hp → VK → Prop} {f : Str → Cell → Option Cell} {apos cpos : Pos}
theorem em_ty (hm : MtR X id r) (hx : TyOk X.K r f) (slot : Slot "str" name id) (hty : typeOf (.builtin id) = pure (.type "method_descriptor")) (ho : EM X W o to mo) (he : EM X W e te me)
    (hbase : attributeBase o name X.env (eval o X.env) = eval o X.env := by rfl)
    (hfew : ((backTo cpos (starEach [e] X.env)).all (fun x => !x.1) && (backToKw cpos (keywordEach [] X.env)).all (fun x => x.1.isSome) && decide ([e].length + ([] : List Keyword).length + (if ([] : List Keyword).isEmpty then 0 else 1) < 30)) = true := by rfl)
    (hline : (apos.endLine == cpos.line) = true := by rfl) (hs : starEach [e] X.env = (false, eval e X.env) :: starEach [] X.env := by rfl) (hplain : (backTo cpos (starEach [] X.env)).any (·.1) = false := by rfl) :
    EM X W (.Call (.Attribute o name apos) [e] [] cpos) (tBM X.K "str" r to (tCons te tNil)) (mTy f mo me) :=
  ⟨pe_bm PySem.F.plainAttrs_str slot hty hm ho.p (pa_cons he.p pa_nil hs) hbase hfew hline hs hplain, txt_methY ho he hx hs⟩
end
/-! ### all(xs) -/
def blsOf : List D → Option (List Bool)
  | [] => some []
  | .bl x :: ds => (match blsOf ds with | some r => some (x :: r) | none => none)
  | _ => none
theorem bls_of {K : PySem.W.Frag} {S : Hp} : ∀ {ds : List D} {ys : List Bool} {vs : List V}, blsOf ds = some ys → ShA K S vs ds → vs = ys.map V.bl
  | [], ys, _, h, .nil => by cases h; rfl
  | d :: ds, ys, _, h, .cons (v := v) h1 h2 => by
    cases d with
    | bl x =>
      unfold blsOf at h
      split at h
      · next r e =>
        cases h
        rw [List.map_cons, ← bls_of e h2]
        cases h1
        rfl
      · cases h
    | _ => cases h
theorem blsOf_map (ys : List Bool) : blsOf (ys.map D.bl) = some ys := by
  induction ys with
  | nil => rfl
  | cons y ys ih => rw [List.map_cons, blsOf, ih]
def allM : MC := fun cs => match cs with
  | [c] => (match c.d with
    | .lst ds => (match blsOf ds with
      | some bs => if c.flat = true then some (sh (.bl (bs.all id))) else none
      | none => none)
    | _ => none)
  | _ => none
def cAll : WF := fun cs Q => ∃ c ds bs, cs = [c] ∧ c.d = .lst ds ∧ blsOf ds = some bs ∧ c.flat = true ∧ Q (sh (.bl (bs.all id)))
theorem ok_all {K : PySem.W.Frag} : CallOk K (rAll K) cAll := by
  rintro cs Q ⟨c, ds, bs, rfl, hd, hb, hf, q⟩ S Fl F H vs tc tv Q' hl r k
  obtain ⟨v, rfl⟩ := vs1 hl rfl
  obtain ⟨S2, p, vs, s2, rfl, g1, g2, g3, r2⟩ := Rel.items (ds := ds) r (by rw [hd]; rfl) hf
  rw [hd] at g1
  have := bls_of hb g2
  subst this
  exact ⟨p, bs, rfl, g1, k _ _ S2 H q s2 (r2.push (.bl _))⟩
theorem cm_all {K : PySem.W.Frag} : CbM K (rAll K) allM := ⟨_, ok_all, fun cs c h Q q => by
  unfold allM at h
  split at h
  · split at h
    · next ds hd =>
      split at h
      · next bs hb =>
        split at h
        · next hf => cases h; exact ⟨_, ds, bs, rfl, hd, hb, hf, q⟩
        · cases h
      · cases h
    · cases h
  · cases h⟩
end VL
set_option maxRecDepth 100000
/-! YJ: objects of own classes: fields read and stored, paths through them. -/
namespace VL
open PySem L2
variable [TB : Tbs]

/-! ### fields as data -/
def fldF : List (Str × Nat × D) → Str → Option (Nat × D)
  | [], _ => none
  | (g, x) :: r, f => if g = f then some x else fldF r f
def setF : List (Str × Nat × D) → Str → Nat × D → List (Str × Nat × D)
  | [], f, y => [(f, y)]
  | (g, x) :: r, f, y => if g = f then (g, y) :: r else (g, x) :: setF r f y
theorem setF_len (f : Str) (y : Nat × D) : ∀ fs : List (Str × Nat × D), (setF fs f y).length ≤ fs.length + 1
  | [] => by simp [setF]
  | (g, x) :: r => by
    have := setF_len f y r
    rw [setF]
    split <;> simp only [List.length_cons] <;> omega
section
variable {K : PySem.W.Frag} {S : Hp} {f : Str}
theorem OwnF.len : ∀ {vs : List (Str × V)} {fs : List (Str × Nat × D)} {L : Hl}, OwnF K S vs fs L → vs.length = fs.length
  | _, _, _, .nil => rfl
  | _, _, _, .cons _ t => congrArg (· + 1) (OwnF.len t)
theorem look_yes {g : Str} {v : V} {r : List (Str × V)} (h : g = f) : ((g, v) :: r).lookup f = some v := by
  subst h
  rw [List.lookup_cons]
  simp
theorem look_no {g : Str} {v : V} {r : List (Str × V)} (h : g ≠ f) : ((g, v) :: r).lookup f = r.lookup f := by
  rw [List.lookup_cons]
  have : (f == g) = false := beq_eq_false_iff_ne.mpr fun z => h z.symm
  rw [this]
theorem OwnF.none' : ∀ {vs : List (Str × V)} {fs : List (Str × Nat × D)} {L : Hl}, OwnF K S vs fs L → fldF fs f = none → vs.lookup f = none
  | _, _, _, .nil, _ => rfl
  | _, _, _, .cons (k := g) h t, e => by
    rw [fldF] at e
    by_cases hg : g = f
    · rw [if_pos hg] at e; cases e
    · rw [if_neg hg] at e
      rw [look_no hg]
      exact OwnF.none' t e
theorem ShE.noneF : ∀ {vs : List (Str × V)} {fs : List (Str × Nat × D)}, ShE K S Str vs (fldsD fs) → fldF fs f = none → vs.lookup f = none
  | [], _, _, _ => rfl
  | (g, v) :: vs, [], h, _ => by cases h
  | (g, v) :: vs, (g', x) :: fs, h, e => by
    cases h with
    | cons h t =>
      rw [fldF] at e
      by_cases hg : g' = f
      · rw [if_pos hg] at e; cases e
      · rw [if_neg hg] at e
        rw [look_no hg]
        exact ShE.noneF (fs := fs) t e
theorem ShE.fldF : ∀ {vs : List (Str × V)} {fs : List (Str × Nat × D)} {n : Nat} {d : D}, ShE K S Str vs (fldsD fs) → VL.fldF fs f = some (n, d) → ∃ v, vs.lookup f = some v ∧ Sh K S v d
  | _, [], _, _, h, e => by cases e
  | [], (g', x) :: fs, _, _, h, e => by cases h
  | (g, v) :: vs, (g', n', d') :: fs, n, d, h, e => by
    cases h with
    | cons h t =>
      rw [VL.fldF] at e
      by_cases hg : g' = f
      · rw [if_pos hg] at e; cases e; exact ⟨v, look_yes hg, h⟩
      · rw [if_neg hg] at e
        obtain ⟨v', h1, h2⟩ := ShE.fldF (fs := fs) t e
        exact ⟨v', by rw [look_no hg]; exact h1, h2⟩
theorem OwnF.takeF {n : Nat} {d : D} : ∀ {vs : List (Str × V)} {fs : List (Str × Nat × D)} {L : Hl}, OwnF K S vs fs L → fldF fs f = some (n, d) → ∃ v Lf R, vs.lookup f = some v ∧ Own K S n v d Lf ∧ L.Perm (Lf ++ R) ∧ Lf.Sublist L ∧
    ∀ S' d' Lf', Same S S' → Own K S' n v d' Lf' → ∃ L', OwnF K S' vs (setF fs f (n, d')) L' ∧ L'.Perm (Lf' ++ R)
  | _, _, _, .nil, e => by cases e
  | _, _, _, .cons (k := g) (v := v0) (n := n0) (d := d0) (L1 := L1) (L2 := L2) h t, e => by
    rw [fldF] at e
    by_cases hg : g = f
    · rw [if_pos hg] at e
      cases e
      refine ⟨_, L1, L2, look_yes hg, h, List.Perm.refl _, List.sublist_append_left _ _, fun S' d' Lf' e q => ⟨Lf' ++ L2, ?_, List.Perm.refl _⟩⟩
      rw [setF, if_pos hg]
      exact .cons q (t.ex e)
    · rw [if_neg hg] at e
      obtain ⟨v, Lf, R, h1, h2, h3, h5, h4⟩ := OwnF.takeF t e
      refine ⟨v, Lf, L1 ++ R, by rw [look_no hg]; exact h1, h2, (List.Perm.append_left L1 h3).trans (perm_abc _ _ _), h5.trans (List.sublist_append_right _ _), fun S' d' Lf' e q => ?_⟩
      obtain ⟨L', g1, g2⟩ := h4 S' d' Lf' e q
      refine ⟨L1 ++ L', ?_, (List.Perm.append_left L1 g2).trans (perm_abc _ _ _)⟩
      rw [setF, if_neg hg]
      exact .cons (h.ex e) g1
theorem OwnF.put {S' : Hp} {n : Nat} {v : V} {d : D} {Lc : Hl} (e : Same S S') (q : Own K S' n v d Lc) : ∀ {vs : List (Str × V)} {fs : List (Str × Nat × D)} {L : Hl}, OwnF K S vs fs L → ∃ L' R, OwnF K S' (putF f v vs) (setF fs f (n, d)) L' ∧ (Lc ++ L).Perm (L' ++ R)
  | _, _, _, .nil => ⟨Lc ++ [], [], .cons q .nil, List.Perm.of_eq (by simp)⟩
  | _, _, _, .cons (k := g) (L1 := L1) (L2 := L2) h t => by
    rw [putF, setF]
    by_cases hg : g = f
    · rw [if_pos hg, if_pos hg]
      refine ⟨Lc ++ L2, L1, .cons q (t.ex e), ?_⟩
      rw [List.append_assoc]
      exact List.Perm.append_left Lc List.perm_append_comm
    · rw [if_neg hg, if_neg hg]
      obtain ⟨L', R, h1, h2⟩ := OwnF.put e q t
      refine ⟨L1 ++ L', R, .cons (h.ex e) h1, ?_⟩
      rw [List.append_assoc]
      exact (perm_abc Lc L1 L2).trans (List.Perm.append_left L1 h2)
end
/-! ### what the classes must be -/
def FldO (K : PySem.W.Frag) (f : Str) (tab : List Str) : Prop := ∀ x ∈ tab, ∃ C, PySem.W.nsIn K mainGlobals x = some (some (.ref C)) ∧ Cls K C ∧ NoAttr K C f
/-! ### reading -/
def Cell.fldC (c : Cell) : Nat → D → Cell
  | 0, d => sh d
  | k + 1, d => match c.n with
    | 0 => sh d
    | _ => ⟨match c.b with | .m _ => .o | b => b, k + 1, d⟩
def mFldO (tab : List Str) (f : Str) (e : ME) : ME := fun ρ => (e ρ).bind fun c => match c.d with
  | .obj cls fs => if hasX tab cls = true then (match fldF fs f with | some (k, d) => .ok (c.fldC k d) | none => .bad) else .bad
  | .pob cls fs => if hasX tab cls = true then (match fldX fs f with | some d => .ok (sh d) | none => .bad) else .bad
  | _ => .bad
theorem own0 {K : PySem.W.Frag} {S : Hp} {v : V} {d : D} {L : Hl} (h : Own K S 0 v d L) : Sh K S v d ∧ L = [] := by
  cases h with
  | sh h => exact ⟨h, rfl⟩
/-- a field of a cell that is an object -/
theorem obj_fld {K : PySem.W.Frag} {S : Hp} {Fl F : Hl} {H : Hp} {c : Cell} {v : V} {L : Hl} {cls : Str} {fs : List (Str × Nat × D)} {f : Str} {k : Nat} {d : D} (hd : c.d = .obj cls fs) (hf : fldF fs f = some (k, d)) (ok : CellOk K S Fl F c v L) (e : Same S H) (hp : ∀ p ∈ L ++ (Fl ++ F), H p.1 = some p.2) :
    ∃ a C dx vs w L', v = .ref a ∧ PySem.W.nsIn K mainGlobals cls = some (some (.ref C)) ∧ H a = some (.ins C dx vs) ∧ vs.lookup f = some w ∧ CellOk K S Fl F (c.fldC k d) w L' ∧ L'.Sublist L := by
  obtain ⟨b, n, d0⟩ := c
  subst hd
  have main : ∀ {n : Nat} {M : Hl}, Own K S n v (.obj cls fs) M → (∀ p ∈ M, H p.1 = some p.2) → ∃ a C dx vs w, v = .ref a ∧ PySem.W.nsIn K mainGlobals cls = some (some (.ref C)) ∧ H a = some (.ins C dx vs) ∧ vs.lookup f = some w ∧
      ((n = 0 ∧ Sh K S w d) ∨ ∃ M', Own K S k w d M' ∧ M'.Sublist M) := by
    intro n M h hM
    cases h with
    | sh h => cases h with
      | @obj a C dx _ vs _ h1 h2 h3 =>
        obtain ⟨w, g1, g2⟩ := h3.fldF hf
        exact ⟨a, C, dx, vs, w, rfl, h1, e _ _ h2, g1, .inl ⟨rfl, g2⟩⟩
    | @obj n a C dx _ vs _ M1 h1 h2 =>
      obtain ⟨w, Lf, R, g1, g2, g3, g5, g4⟩ := h2.takeF hf
      exact ⟨a, C, dx, vs, w, rfl, h1, hM _ List.mem_cons_self, g1, .inr ⟨Lf, g2, g5.trans (List.sublist_cons_self _ _)⟩⟩
  have fin0 : ∀ {w : V} {M' : Hl}, k = 0 → Own K S k w d M' → Sh K S w d := fun {w M'} hk q => by subst hk; exact (own0 q).1
  cases ok with
  | @o n d v L h =>
    obtain ⟨a, C, dx, vs, w, q1, q2, q3, q4, q5⟩ := main h fun p hm => hp p (List.mem_append_left _ hm)
    rcases q5 with ⟨rfl, q5⟩ | ⟨M', q5, q6⟩
    · exact ⟨a, C, dx, vs, w, [], q1, q2, q3, q4, by cases k <;> exact .o (.sh q5), List.nil_sublist _⟩
    · cases k with
      | zero => exact ⟨a, C, dx, vs, w, [], q1, q2, q3, q4, .o (.sh (own0 q5).1), List.nil_sublist _⟩
      | succ k =>
        cases n with
        | zero =>
          refine ⟨a, C, dx, vs, w, [], q1, q2, q3, q4, ?_, List.nil_sublist _⟩
          have hL := (own0 h).2
          subst hL
          have hM := List.sublist_nil.mp q6
          subst hM
          exact .o (.sh (q5.sh' (Same.refl S) fun p hp => nomatch hp))
        | succ n => exact ⟨a, C, dx, vs, w, M', q1, q2, q3, q4, .o q5, q6⟩
  | @m j n d v L h =>
    obtain ⟨a, C, dx, vs, w, q1, q2, q3, q4, q5⟩ := main h fun p hm => hp p (List.mem_append_left _ hm)
    rcases q5 with ⟨rfl, q5⟩ | ⟨M', q5, q6⟩
    · exact ⟨a, C, dx, vs, w, [], q1, q2, q3, q4, by cases k <;> exact .o (.sh q5), List.nil_sublist _⟩
    · cases k with
      | zero => exact ⟨a, C, dx, vs, w, [], q1, q2, q3, q4, .o (.sh (own0 q5).1), List.nil_sublist _⟩
      | succ k =>
        cases n with
        | zero =>
          refine ⟨a, C, dx, vs, w, [], q1, q2, q3, q4, ?_, List.nil_sublist _⟩
          have hL := (own0 h).2
          subst hL
          have hM := List.sublist_nil.mp q6
          subst hM
          exact .o (.sh (q5.sh' (Same.refl S) fun p hp => nomatch hp))
        | succ n => exact ⟨a, C, dx, vs, w, M', q1, q2, q3, q4, .o q5, q6⟩
  | @l n d v L0 q h =>
    obtain ⟨a, C, dx, vs, w, q1, q2, q3, q4, q5⟩ := main h fun p hm => hp p (by rw [List.nil_append]; exact List.mem_append_left _ (q.subset hm))
    rcases q5 with ⟨rfl, q5⟩ | ⟨M', q5, q6⟩
    · exact ⟨a, C, dx, vs, w, [], q1, q2, q3, q4, by cases k <;> exact .o (.sh q5), List.nil_sublist _⟩
    · cases k with
      | zero => exact ⟨a, C, dx, vs, w, [], q1, q2, q3, q4, .o (.sh (own0 q5).1), List.nil_sublist _⟩
      | succ k =>
        cases n with
        | zero =>
          refine ⟨a, C, dx, vs, w, [], q1, q2, q3, q4, ?_, List.nil_sublist _⟩
          have hL := (own0 h).2
          subst hL
          have hM := List.sublist_nil.mp q6
          subst hM
          exact .o (.sh (q5.sh' (Same.refl S) fun p hp => nomatch hp))
        | succ n => exact ⟨a, C, dx, vs, w, [], q1, q2, q3, q4, .l (q6.trans q) q5, List.nil_sublist _⟩
  | @p n d v L0 q h =>
    obtain ⟨a, C, dx, vs, w, q1, q2, q3, q4, q5⟩ := main h fun p hm => hp p (by rw [List.nil_append]; exact List.mem_append_right _ (q.subset hm))
    rcases q5 with ⟨rfl, q5⟩ | ⟨M', q5, q6⟩
    · exact ⟨a, C, dx, vs, w, [], q1, q2, q3, q4, by cases k <;> exact .o (.sh q5), List.nil_sublist _⟩
    · cases k with
      | zero => exact ⟨a, C, dx, vs, w, [], q1, q2, q3, q4, .o (.sh (own0 q5).1), List.nil_sublist _⟩
      | succ k =>
        cases n with
        | zero =>
          refine ⟨a, C, dx, vs, w, [], q1, q2, q3, q4, ?_, List.nil_sublist _⟩
          have hL := (own0 h).2
          subst hL
          have hM := List.sublist_nil.mp q6
          subst hM
          exact .o (.sh (q5.sh' (Same.refl S) fun p hp => nomatch hp))
        | succ n => exact ⟨a, C, dx, vs, w, [], q1, q2, q3, q4, .p (q6.trans q) q5, List.nil_sublist _⟩
theorem pob_fld {K : PySem.W.Frag} {S : Hp} {Fl F : Hl} {H : Hp} {c : Cell} {v : V} {L : Hl} {cls : Str} {fs : List (Str × D)} {f : Str} {d : D} (hd : c.d = .pob cls fs) (hf : fldX fs f = some d) (ok : CellOk K S Fl F c v L) (e : Same S H) (hp : ∀ p ∈ L ++ (Fl ++ F), H p.1 = some p.2) :
    ∃ a C dx vs w, v = .ref a ∧ PySem.W.nsIn K mainGlobals cls = some (some (.ref C)) ∧ H a = some (.ins C dx vs) ∧ vs.lookup f = some w ∧ Sh K S w d := by
  obtain ⟨b, n, d0⟩ := c
  subst hd
  have look : ∀ {ws vs : List (Str × V)} {w : V}, (∀ p ∈ ws, vs.lookup p.1 = some p.2) → ws.lookup f = some w → vs.lookup f = some w := fun {ws vs w} h e => h (f, w) (PySem.mem_of_lookup e)
  have main : ∀ {n : Nat} {M : Hl}, Own K S n v (.pob cls fs) M → (∀ p ∈ M, H p.1 = some p.2) → ∃ a C dx vs w, v = .ref a ∧ PySem.W.nsIn K mainGlobals cls = some (some (.ref C)) ∧ H a = some (.ins C dx vs) ∧ vs.lookup f = some w ∧ Sh K S w d := by
    intro n M h hM
    cases h with
    | sh h => cases h with
      | @pob a C dx _ vs ws _ h1 h2 h4 h3 =>
        obtain ⟨w, g1, g2⟩ := h3.fld hf
        exact ⟨a, C, dx, vs, w, rfl, h1, e _ _ h2, look h4 g1, g2⟩
    | @pob n a C dx _ vs ws _ h1 h4 h3 =>
      obtain ⟨w, g1, g2⟩ := h3.fld hf
      exact ⟨a, C, dx, vs, w, rfl, h1, hM _ List.mem_cons_self, look h4 g1, g2⟩
  cases ok with
  | o h => exact main h fun p hm => hp p (List.mem_append_left _ hm)
  | m h => exact main h fun p hm => hp p (List.mem_append_left _ hm)
  | l q h => exact main h fun p hm => hp p (by rw [List.nil_append]; exact List.mem_append_left _ (q.subset hm))
  | p q h => exact main h fun p hm => hp p (by rw [List.nil_append]; exact List.mem_append_right _ (q.subset hm))
theorem fldO_sound {K : PySem.W.Frag} {mg : Str → Option Value} {W : WX} {te : TE} {m : ME} {f : Str} {tab : List Str} (hF : FldO K f tab) (he : ExprOk K mg W te (we_ m)) : ExprOk K mg W (tFld K te f) (we_ (mFldO tab f m)) := by
  intro ρ Q XQ hw S Fl F H σ tc tv Q' ev r0 k kx
  simp only [we_, mFldO, wR_bind] at hw
  refine he ρ _ XQ hw S Fl F H σ tc tv _ ev r0 (fun c v S1 H1 q e1 r1 => ?_) kx
  have hs := r1.same
  obtain ⟨L, t, hr⟩ := r1
  cases t with
  | @cons _ _ _ _ La Lb a t0 =>
    have hall : ∀ p ∈ La ++ (Fl ++ F), H1 p.1 = some p.2 := fun p hp => hr.all p (by
      rw [List.append_assoc]
      rcases List.mem_append.mp hp with hp | hp
      · exact List.mem_append_left _ hp
      · exact List.mem_append_right _ (List.mem_append_right _ hp))
    split at q
    · next cls fs hd =>
      obtain ⟨ht, q⟩ := wR_ite q
      obtain ⟨C, g1, g2, g3⟩ := hF cls (hasX_mem ht)
      cases hfl : fldF fs f with
      | none => rw [hfl] at q; exact q.elim
      | some p =>
        obtain ⟨kk, d⟩ := p
        rw [hfl] at q
        obtain ⟨ad, C', dx, vs, w, L', q1, q2, q3, q4, q5, q6⟩ := obj_fld hd hfl a hs hall
        rw [g1] at q2
        cases q2
        refine ⟨ad, C, dx, vs, w, q1, q3, g2, g3, q4, k _ w S1 H1 q e1 ⟨L' ++ Lb, .cons q5 t0, hr.sub ?_⟩⟩
        exact (q6.append (List.Sublist.refl _)).append (List.Sublist.refl _)
    · next cls fs hd =>
      obtain ⟨ht, q⟩ := wR_ite q
      obtain ⟨C, g1, g2, g3⟩ := hF cls (hasX_mem ht)
      cases hfl : fldX fs f with
      | none => rw [hfl] at q; exact q.elim
      | some d =>
        rw [hfl] at q
        obtain ⟨ad, C', dx, vs, w, q1, q2, q3, q4, q5⟩ := pob_fld hd hfl a hs hall
        rw [g1] at q2
        cases q2
        refine ⟨ad, C, dx, vs, w, q1, q3, g2, g3, q4, k _ w S1 H1 q e1 ⟨[] ++ Lb, .cons (.o (.sh q5)) t0, hr.sub ?_⟩⟩
        exact (List.sublist_append_right _ _).append (List.Sublist.refl _)
    · exact q.elim
section
variable {X : Cx} {W : WX} {e o : Expr} {te tv : TE} {m : ME} {mf : MF} {f : Str} {pos pos' p : Pos} {tab : List Str}
theorem em_fldO (tab : List Str) (hF : FldO X.K f tab) (he : EM X W e te m) (hb : attributeBase e f X.env (eval e X.env) = eval e X.env := by rfl) : EM X W (.Attribute e f pos) (tFld X.K te f) (mFldO tab f m) :=
  ⟨pe_fld he.p hb, fldO_sound hF he.s⟩
end
/-! ### storing -/
def sFldS (tab : List Str) (i : Nat) (f : Str) (e : MF) : MS := fun ρ => ofRF (e ρ) fun c ρ1 => match c with
  | ⟨.o, k, d⟩ => (match ρ1[i]? with
    | some (some ⟨b, n + 1, .obj cls fs⟩) => if b.mut = true ∧ hasX tab cls = true ∧ fs.length < 900 then .nx (ρ1.set i (some ⟨b, n + 1, .obj cls (setF fs f (k, d))⟩)) else .bad
    | _ => .bad)
  | _ => .bad
theorem sfld_sound {K : PySem.W.Frag} {mg : Str → Option Value} {W : WX} {tv : TE} {mf : MF} {f : Str} {tab : List Str} {i : Nat} (hF : FldO K f tab) (hv : FxOk K mg W tv mf) : StmtOk K mg W (sFld K (tVar i) tv f) (ws_ (sFldS tab i f mf)) := by
  intro D ρ hw S F A H σ De hl r en
  simp only [ws_, sFldS] at hw
  refine fx_at hv hw hl r en fun c ρ1 v S1 H1 Le1 Lc w1 l1 e1 sl1 c1 hr1 => ?_
  split at w1
  · next k d =>
    split at w1
    · next b n cls fs hi =>
      by_cases hc : b.mut = true ∧ hasX tab cls = true ∧ fs.length < 900
      · rw [if_pos hc] at w1
        obtain ⟨hb, ht, hfl⟩ := hc
        obtain ⟨C, g1, g2, g3⟩ := hF cls (hasX_mem ht)
        obtain ⟨v0, Lf, R, q1, q2, q3, q4, q5⟩ := sl1.takeN hi
        have own := q2.own_of hb
        have hlen : ρ1.length = ρ.length := l1.symm.trans hl
        cases own with
        | @obj _ a C' dx _ vs _ L1 h1 h2 =>
          rw [g1] at h1
          cases h1
          have hm : H1 a = some (.ins C dx vs) := hr1.all (a, .ins C dx vs) (List.mem_append_right _ (List.mem_append_left _ (q4.mem_iff.mpr (List.mem_append_left _ List.mem_cons_self))))
          refine ⟨_, q1, a, C, dx, vs, rfl, hm, g2, g3, by rw [h2.len]; omega, ?_⟩
          have oc : VL.Own K S1 k v d Lc := by cases c1 with | o h => exact h
          obtain ⟨L', R', o', p'⟩ := OwnF.put (f := f) (Same.refl S1) oc h2
          have hr2 : HRel S1 ((a, .ins C dx vs) :: (L' ++ (R' ++ (R ++ F)))) H1 := hr1.perm (by
            refine (List.Perm.append_left Lc (q4.append_right F)).trans ?_
            have x1 : (Lc ++ (((a, HO.ins C dx vs) :: L1) ++ R ++ F)).Perm ((a, HO.ins C dx vs) :: ((Lc ++ L1) ++ (R ++ F))) := by
              simpa [List.append_assoc] using (List.perm_middle (a := (a, HO.ins C dx vs)) (l₁ := Lc) (l₂ := L1 ++ (R ++ F)))
            refine x1.trans (List.Perm.cons _ ?_)
            have := p'.append_right (R ++ F)
            simpa [List.append_assoc] using this)
          have hr3 := hr2.put (o' := .ins C dx (putF f v vs))
          obtain ⟨L4, s4, R4, p4, z4⟩ := q5.putN (i := i) (c := ⟨b, n + 1, .obj cls (setF fs f (k, d))⟩) (M := (a, .ins C dx (putF f v vs)) :: L') (CellOk.of_own (.obj g1 o') hb) (fun j z => q3 j z) (by rw [List.length_set]; exact l1) q1
          rw [List.set_set] at s4
          refine en.nx _ σ S1 _ w1 hl (by rw [List.length_set]; exact hlen) e1 ⟨L4, s4, ?_⟩
          obtain ⟨Lz, hz⟩ : ∃ Lz, R.Perm (R4 ++ Lz) := z4.exists_perm_append
          have hr4 : HRel S1 (((a, .ins C dx (putF f v vs)) :: L') ++ (R ++ F)) (upd H1 a (.ins C dx (putF f v vs))) := hr3.sub (by
            refine List.Sublist.cons_cons _ ?_
            exact (List.Sublist.refl L').append (List.sublist_append_right R' _))
          have hr5 := hr4.perm (List.Perm.append_left _ (hz.append_right F))
          have hr6 := hr5.sub ((List.Sublist.refl ((a, HO.ins C dx (putF f v vs)) :: L')).append ((List.sublist_append_left R4 Lz).append (List.Sublist.refl F)))
          rw [← List.append_assoc] at hr6
          exact hr6.perm (p4.symm.append_right F)
      · rw [if_neg hc] at w1; exact w1.elim
    · exact w1.elim
  · exact w1.elim
end VL
set_option maxRecDepth 100000
/-! YK: receivers by any path (slots, fields, items), with effects in any place; methods of own classes; objects made. -/
namespace VL
open PySem L2
variable [TB : Tbs]

def D.isR : D → Bool
  | .lst _ => true | .tup _ => true | .dK _ => true | .dT _ => true | .obj _ _ => true | _ => false
theorem Own.crefR {K : PySem.W.Frag} {S : Hp} {n : Nat} {v : V} {d : D} {L : Hl} (h : Own K S n v d L) (q : d.isR = true) : ∃ b, v = .ref b := by
  cases h with
  | sh h => cases h with
    | lst _ _ => exact ⟨_, rfl⟩
    | tup _ _ => exact ⟨_, rfl⟩
    | dK _ _ => exact ⟨_, rfl⟩
    | dT _ _ => exact ⟨_, rfl⟩
    | obj _ _ _ => exact ⟨_, rfl⟩
    | _ => cases q
  | lst _ _ => exact ⟨_, rfl⟩
  | tup _ => exact ⟨_, rfl⟩
  | dK _ => exact ⟨_, rfl⟩
  | dT _ => exact ⟨_, rfl⟩
  | obj _ _ => exact ⟨_, rfl⟩
  | _ => cases q
/-! ### receivers -/
def RXOk (K : PySem.W.Frag) (mg : Str → Option Value) (W : WX) (t : TE) (m : MRc) : Prop := ∀ ρ S F A H σ Le M Q', σ.length = ρ.length → Slots K S F A ρ σ Le → HRel S (M ++ (Le ++ F)) H → match m ρ with
  | .ok (n, e, rb) => (∀ b S' H' Lf R, Same S S' → HRel S' (M ++ (Le ++ F)) H' → Le.Perm (Lf ++ R) → Own K S' n (.ref b) e Lf → (∀ e', (rb e').length = ρ.length) →
      (∀ S'' e' Lf', Same S' S'' → Own K S'' n (.ref b) e' Lf' → ∃ Le', Slots K S'' F A (rb e') σ Le' ∧ Le'.Perm (Lf' ++ R)) → Q' (.ref b) H') → t σ H Q'
  | .ex x => XF_ K mg W S F A σ x ρ → t σ H Q'
  | .bad => True
structure RX (X : Cx) (W : WX) (e : Expr) (t : TE) (m : MRc) : Prop where
  p : PE X e t
  s : RXOk X.K X.mg W t m
def rxVar (i : Nat) : MRc := fun ρ => match ρ[i]? with
  | some (some ⟨b, n + 1, d⟩) => if b.mut = true ∧ d.isR = true then .ok (n + 1, d, fun d' => ρ.set i (some ⟨b, n + 1, d'⟩)) else .bad
  | _ => .bad
def rxFld (tab : List Str) (f : Str) (r : MRc) : MRc := fun ρ => (r ρ).bind fun p => match p with
  | (_ + 1, .obj cls fs, rb) => if hasX tab cls = true then (match fldF fs f with
    | some (k + 1, d) => if d.isR = true then .ok (k + 1, d, fun d' => rb (.obj cls (setF fs f (k + 1, d')))) else .bad
    | _ => .bad) else .bad
  | _ => .bad
/-- one step: an item of a list or tuple, of a dict by an int or text, by a tuple -/
def rxTo (e : D) (ck : Cell) : Option (D × (D → D)) := match e with
  | .lst ds => (match ck.d with
    | .int z => (match ixN ds.length z with | some j => (match ds[j]? with | some d => if d.isR = true then some (d, fun d' => .lst (ds.set j d')) else none | none => none) | none => none)
    | _ => none)
  | .tup ds => (match ck.d with
    | .int z => (match ixN ds.length z with | some j => (match ds[j]? with | some d => if d.isR = true then some (d, fun d' => .tup (ds.set j d')) else none | none => none) | none => none)
    | _ => none)
  | .dK es => (match ck.d.key with
    | some k => (match dLook es k with | some d => if d.isR = true then some (d, fun d' => .dK (esSet es k d')) else none | none => none)
    | none => none)
  | _ => none
def rxIx (r : MRc) (k : ME) : MRc := fun ρ => (r ρ).bind fun p => match p with
  | (n + 2, e, rb) => (k ρ).bind fun ck => (match rxTo e ck with
    | some (d, f) => .ok (n + 1, d, fun d' => rb (f d'))
    | none => .bad)
  | _ => .bad
section
variable {K : PySem.W.Frag} {mg : Str → Option Value} {W : WX}
theorem rx_var_s {i : Nat} : RXOk K mg W (tVar i) (rxVar i) := by
  intro ρ S F A H σ Le M Q' hl sl hr
  unfold rxVar
  split
  · next n e rb h =>
    split at h
    · next b n0 d hi =>
      split at h
      · next hc =>
        cases h
        intro k
        obtain ⟨v, Lf, R, h1, h2, hg, h3, h4⟩ := sl.take hi
        have how := h2.own_of hc.1
        obtain ⟨ad, rfl⟩ := how.crefR hc.2
        exact ⟨_, h1, k ad S H Lf R (Same.refl S) hr h3 how (fun _ => List.length_set ..) fun S'' e' Lf' e q' => h4 S'' _ Lf' e (CellOk.of_own q' hc.1) hg⟩
      · cases h
    · cases h
  · next x h =>
    split at h
    · split at h <;> cases h
    · cases h
  · trivial
theorem rx_fld_s {tr : TE} {r : MRc} {f : Str} {tab : List Str} (hF : FldO K f tab) (hr0 : RXOk K mg W tr r) : RXOk K mg W (tFld K tr f) (rxFld tab f r) := by
  intro ρ S F A H σ Le M Q' hl sl hr
  have h1 := hr0 ρ S F A H σ Le M (fun x H1 => ∃ a C dx fs v, x = .ref a ∧ H1 a = some (.ins C dx fs) ∧ Cls K C ∧ NoAttr K C f ∧ fs.lookup f = some v ∧ Q' v H1) hl sl hr
  unfold rxFld
  cases hm : r ρ with
  | bad => trivial
  | ex x => rw [hm] at h1; exact h1
  | ok p =>
    obtain ⟨n, e, rb⟩ := p
    rw [hm] at h1
    simp only [R.bind_ok]
    split
    · next n2 e2 rb2 heq =>
      split at heq
      · next n0 cls fs rb0 hq =>
        cases hq
        split at heq
        · next ht =>
          split at heq
          · next kk d hfl =>
            split at heq
            · next hc =>
              cases heq
              intro k
              refine h1 fun b S1 H1 Lf R e1 hr1 p1 o1 hln cl => ?_
              obtain ⟨C, g1, g2, g3⟩ := hF cls (hasX_mem ht)
              cases o1 with
              | @obj _ _ C' dx _ vs _ L1 h2 h3 =>
                rw [g1] at h2
                cases h2
                obtain ⟨v, Lf2, R2, q1, q2, q3, _, q4⟩ := h3.takeF hfl
                obtain ⟨b', rfl⟩ := q2.crefR hc
                have hmem : H1 b = some (.ins C dx vs) := hr1.all (b, .ins C dx vs) (List.mem_append_right _ (List.mem_append_left _ (p1.mem_iff.mpr (List.mem_append_left _ List.mem_cons_self))))
                refine ⟨b, C, dx, vs, _, rfl, hmem, g2, g3, q1, k b' S1 H1 Lf2 ((b, .ins C dx vs) :: (R2 ++ R)) e1 hr1 ?_ q2 (fun _ => hln _) fun S'' e' Lf' e2 q' => ?_⟩
                · refine p1.trans ?_
                  refine (List.Perm.cons _ (q3.append_right R)).trans ?_
                  rw [List.append_assoc]
                  exact List.perm_middle.symm
                · obtain ⟨L', x1, x2⟩ := q4 S'' e' Lf' e2 q'
                  obtain ⟨Le', y1, y2⟩ := cl S'' _ _ e2 (.obj g1 x1)
                  refine ⟨Le', y1, y2.trans ?_⟩
                  refine (List.Perm.cons _ (x2.append_right R)).trans ?_
                  rw [List.append_assoc]
                  exact List.perm_middle.symm
            · cases heq
          · cases heq
        · cases heq
      · cases heq
    · next x heq =>
      split at heq
      · split at heq
        · split at heq
          · split at heq <;> cases heq
          · cases heq
        · cases heq
      · cases heq
    · trivial
theorem pure_at {t : TE} {m : ME} {ρ : Env} {S : Hp} {F : Hl} {A : Nat → V} {H : Hp} {σ : St} {Le M : Hl} {Q' : VK} (h : ExprOk K mg W t (we_ m)) (hl : σ.length = ρ.length) (sl : Slots K S F A ρ σ Le) (hr : HRel S (M ++ (Le ++ F)) H) :
    match m ρ with
    | .ok c => (∀ v S1 H1 Lc, Same S S1 → CellOk K S1 (M ++ Le) F c v Lc → HRel S1 (Lc ++ (M ++ (Le ++ F))) H1 → Q' v H1) → t σ H Q'
    | .ex x => XF_ K mg W S F A σ x ρ → t σ H Q'
    | .bad => True := by
  have hr' : HRel S ([] ++ ((M ++ Le) ++ F)) H := by rw [List.nil_append, List.append_assoc]; exact hr
  have ev : EnvV K S (M ++ Le) F ρ σ := sl.view (List.sublist_append_right M Le)
  cases hm : m ρ with
  | ok c =>
    intro k
    refine h ρ (fun c' => c' = c) (fun _ => False) (by simp only [we_]; rw [hm]; rfl) S (M ++ Le) F H σ [] [] Q' ev ⟨[], .nil, hr'⟩ (fun c' v S1 H1 q e1 r1 => ?_) (fun x cls d S' H' hx => hx.elim)
    subst q
    obtain ⟨L, t1, hr1⟩ := r1
    have t2 := t1.one
    rw [List.append_assoc] at hr1
    exact k v S1 H1 L e1 t2 hr1
  | ex x =>
    intro k
    refine h ρ (fun _ => False) (fun y => y = x) (by simp only [we_]; rw [hm]; rfl) S (M ++ Le) F H σ [] [] Q' ev ⟨[], .nil, hr'⟩ (fun _ _ _ _ q => q.elim) (fun y cls d S1 H1 hy e1 ex hr1 => ?_)
    subst hy
    exact k cls d S1 H1 hl e1 ex ⟨Le, sl.ex e1, hr1.sub (by rw [List.append_assoc]; exact List.sublist_append_right _ _)⟩
  | bad => trivial
theorem OwnE.takeKs {S : Hp} {n : Nat} {k : Key} {d : D} {kvs : List (Key × V)} {es : List (Key × D)} {L : Hl} (h : OwnE K S Key n kvs es L) (e : dLook es k = some d) : ∃ v Lf R, valV kvs k = some v ∧ Own K S n v d Lf ∧ L.Perm (Lf ++ R) ∧
    ∀ S' d' Lf', Same S S' → Own K S' n v d' Lf' → ∃ L', OwnE K S' Key n kvs (esSet es k d') L' ∧ L'.Perm (Lf' ++ R) := h.takeK e
theorem rx_ix_s {tr tk : TE} {r : MRc} {mk : ME} (hr0 : RXOk K mg W tr r) (hk : ExprOk K mg W tk (we_ mk)) : RXOk K mg W (tOp (rIxU K) tr tk) (rxIx r mk) := by
  intro ρ S F A H σ Le M Q' hl sl hr
  have h1 := hr0 ρ S F A H σ Le M (fun x H1 => tk σ H1 fun y H2 => rIxU K x y H2 Q') hl sl hr
  unfold rxIx
  cases hm : r ρ with
  | bad => trivial
  | ex x => rw [hm] at h1; exact h1
  | ok p =>
    obtain ⟨n, e, rb⟩ := p
    rw [hm] at h1
    simp only [R.bind_ok]
    match n with
    | 0 => trivial
    | 1 => trivial
    | n + 2 =>
      simp only
      cases hkm : mk ρ with
      | bad => trivial
      | ex x =>
        intro k
        refine h1 fun b S1 H1 Lf R e1 hr1 p1 o1 hln cl => ?_
        have h2 := pure_at (Q' := fun y H2 => rIxU K (.ref b) y H2 Q') hk hl (sl.ex e1) hr1
        rw [hkm] at h2
        exact h2 (k.ex e1)
      | ok ck =>
        simp only [R.bind_ok]
        cases hto : rxTo e ck with
        | none => trivial
        | some q =>
          obtain ⟨d, f⟩ := q
          simp only
          intro k
          refine h1 fun b S1 H1 Lf R e1 hr1 p1 o1 hln cl => ?_
          have h2 := pure_at (Q' := fun y H2 => rIxU K (.ref b) y H2 Q') hk hl (sl.ex e1) hr1
          rw [hkm] at h2
          refine h2 fun vk S2 H2 Lc e2 ck2 hr2 => ?_
          have hr3 : HRel S2 (M ++ (Le ++ F)) H2 := hr2.sub (List.sublist_append_right _ _)
          have o2 := o1.ex e2
          have hsk : Sh K H2 vk ck.d := ck2.shH (X := []) hr2.sh fun p hp => hr2.all p (by
            rw [List.nil_append, List.append_assoc] at hp
            exact hp)
          have hin : ∀ p ∈ Lf, H2 p.1 = some p.2 := fun p hp => hr3.all p (List.mem_append_right _ (List.mem_append_left _ (p1.mem_iff.mpr (List.mem_append_left _ hp))))
          unfold rxTo at hto
          split at hto
          · next ds =>
            split at hto
            · next z ez =>
              split at hto
              · next j ej =>
                split at hto
                · next d0 hj =>
                  split at hto
                  · next hc =>
                    cases hto
                    cases o2 with
                    | @lst _ _ vs _ L1 hz o2 =>
                      rw [ez] at hsk
                      obtain ⟨v', Lf2, R2, g1, g2, g3, g4⟩ := o2.take hj
                      obtain ⟨b', rfl⟩ := g2.crefR hc
                      refine .inl (.inl ⟨b, vs, z, .ref b', rfl, hsk.intE, SqL.of (hin _ List.mem_cons_self), ?_, ?_⟩)
                      · unfold atI
                        rw [o2.length, ej]
                        exact g1
                      · refine k b' S2 H2 Lf2 ((b, HO.lst vs) :: (R2 ++ R)) (e1.trans e2) hr3 ?_ g2 (fun _ => hln _) fun S'' e' Lf' e q' => ?_
                        · refine p1.trans ?_
                          refine (List.Perm.cons _ (g3.append_right R)).trans ?_
                          rw [List.append_assoc]
                          exact List.perm_middle.symm
                        · obtain ⟨L', x1, x2⟩ := g4 S'' e' Lf' e q'
                          obtain ⟨Le', y1, y2⟩ := cl S'' _ _ (e2.trans e) (.lst hz x1)
                          refine ⟨Le', y1, y2.trans ?_⟩
                          refine (List.Perm.cons _ (x2.append_right R)).trans ?_
                          rw [List.append_assoc]
                          exact List.perm_middle.symm
                  · cases hto
                · cases hto
              · cases hto
            · cases hto
          · next ds =>
            split at hto
            · next z ez =>
              split at hto
              · next j ej =>
                split at hto
                · next d0 hj =>
                  split at hto
                  · next hc =>
                    cases hto
                    cases o2 with
                    | @tup _ _ vs _ L1 o2 =>
                      rw [ez] at hsk
                      obtain ⟨v', Lf2, R2, g1, g2, g3, g4⟩ := o2.take hj
                      obtain ⟨b', rfl⟩ := g2.crefR hc
                      refine .inl (.inr (.inl ⟨b, vs, z, .ref b', rfl, hsk.intE, SqT.of (hin _ List.mem_cons_self), ?_, ?_⟩))
                      · unfold atI
                        rw [o2.length, ej]
                        exact g1
                      · refine k b' S2 H2 Lf2 ((b, HO.tup vs) :: (R2 ++ R)) (e1.trans e2) hr3 ?_ g2 (fun _ => hln _) fun S'' e' Lf' e q' => ?_
                        · refine p1.trans ?_
                          refine (List.Perm.cons _ (g3.append_right R)).trans ?_
                          rw [List.append_assoc]
                          exact List.perm_middle.symm
                        · obtain ⟨L', x1, x2⟩ := g4 S'' e' Lf' e q'
                          obtain ⟨Le', y1, y2⟩ := cl S'' _ _ (e2.trans e) (.tup x1)
                          refine ⟨Le', y1, y2.trans ?_⟩
                          refine (List.Perm.cons _ (x2.append_right R)).trans ?_
                          rw [List.append_assoc]
                          exact List.perm_middle.symm
                  · cases hto
                · cases hto
              · cases hto
            · cases hto
          · next es =>
            split at hto
            · next kk hkk =>
              split at hto
              · next d0 hlk =>
                split at hto
                · next hc =>
                  cases hto
                  cases o2 with
                  | @dK _ _ kvs _ L1 o2 =>
                    have hv := hsk.key hkk
                    obtain ⟨v', Lf2, R2, g1, g2, g3, g4⟩ := o2.takeKs hlk
                    obtain ⟨b', rfl⟩ := g2.crefR hc
                    refine .inr ⟨b, .ref b', rfl, .inl ⟨kvs, kk, .inl (hin _ List.mem_cons_self), hv, g1.symm⟩, ?_⟩
                    refine k b' S2 H2 Lf2 ((b, HO.dK kvs) :: (R2 ++ R)) (e1.trans e2) hr3 ?_ g2 (fun _ => hln _) fun S'' e' Lf' e q' => ?_
                    · refine p1.trans ?_
                      refine (List.Perm.cons _ (g3.append_right R)).trans ?_
                      rw [List.append_assoc]
                      exact List.perm_middle.symm
                    · obtain ⟨L', x1, x2⟩ := g4 S'' e' Lf' e q'
                      obtain ⟨Le', y1, y2⟩ := cl S'' _ _ (e2.trans e) (.dK x1)
                      refine ⟨Le', y1, y2.trans ?_⟩
                      refine (List.Perm.cons _ (x2.append_right R)).trans ?_
                      rw [List.append_assoc]
                      exact List.perm_middle.symm
                · cases hto
              · cases hto
            · cases hto
          · cases hto
end
section
variable {X : Cx} {W : WX} {a b : Expr} {ta tk : TE} {mr : MRc} {mk : ME} {pos : Pos} {x f : Str}
theorem rx_var (i : Nat) (h : PE X (.Name x pos) (tVar i)) : RX X W (.Name x pos) (tVar i) (rxVar i) := ⟨h, rx_var_s⟩
theorem rx_fld (tab : List Str) (hF : FldO X.K f tab) (h : RX X W a ta mr) (hb : attributeBase a f X.env (eval a X.env) = eval a X.env := by rfl) : RX X W (.Attribute a f pos) (tFld X.K ta f) (rxFld tab f mr) := ⟨pe_fld h.p hb, rx_fld_s hF h.s⟩
theorem rx_ix (hu : X.A.units + 64 < cLine) (hr : RX X W a ta mr) (hk : EM X W b tk mk) (hs : PlainIx b) : RX X W (.Subscript a b pos) (tOp (rIxU X.K) ta tk) (rxIx mr mk) := ⟨pe_ix (ix_U hu) hr.p hk.p hs, rx_ix_s hr.s hk.s⟩
end
end VL
set_option maxRecDepth 100000
/-! YL: methods of own classes called, objects made, stores by any path. -/
namespace VL
open PySem L2
variable [TB : Tbs]

/-! ### methods by a table of classes -/
/-- the method m of each class of the table, with its promise over cells -/
structure MethT (P : Program) (w : World) (K : PySem.W.Frag) (mg : Str → Option Value) (base : Heap) (k : Nat) (m : Str) (n : Nat) (tab : List (Str × MFn)) (dvs : List V) (dds : List D) : Prop where
  ex : ∀ p ∈ tab, ∃ (C f : Addr) (fd : FuncData) (ps : List Str) (ds : List Value), PySem.W.nsIn K mainGlobals p.1 = some (some (.ref C)) ∧ Cls K C ∧ Meth K C m f ∧ FnOk P w K mg base (L2.CX P w) k f fd ps (spM K mg n p.2) ∧ Binds K fd ps ds ∧ Vals dvs ds
  dd : ∀ S, ShA K S dvs dds
def tMethT (K : PySem.W.Frag) (mg : Str → Option Value) (m : Str) (n : Nat) (tab : List (Str × MFn)) (dvs : List V) (E : St → XK) (ta : TE) (t : TA) : TE := fun σ H Q => ta σ H fun x H1 => ∃ a C dx fs p, x = .ref a ∧ H1 a = some (.ins C dx fs) ∧ fs.lookup m = none ∧
  p ∈ tab ∧ PySem.W.nsIn K mainGlobals p.1 = some (some (.ref C)) ∧ t σ H1 fun vs H2 => spM K mg n p.2 (x :: (vs ++ dvs)) H2 Q (E σ)
section
variable {X : Cx} {k n : Nat} {m : Str} {tab : List (Str × MFn)} {dvs : List V} {dds : List D} {E : St → XK} {o e : Expr} {es : List Expr} {ta : TE} {t : TA} {apos pos : Pos}
theorem pe_methT {pl : Sem Bool} (he : PE X o ta) (T : MethT X.prog X.w X.K X.mg X.base k m n tab dvs dds) (hr : Room k X.A) (px : ∀ σ, PassesAt (L2.CX X.prog X.w) X σ (E σ)) (ha : PA X (e :: es) t)
    (hst : starEach (e :: es) X.env = (false, eval e X.env) :: starEach es X.env := by rfl) (hpl : (backTo pos (starEach es X.env)).any (·.1) = false := by rfl)
    (ht : eval (.Call (.Attribute o m apos) (e :: es) [] pos) X.env = (do let ov ← eval o X.env; standAt apos.atName; let (f, first) ← holding [ov] (getMethod ov m pl); callWith pos f first (backTo pos (starEach (e :: es) X.env)) (backToKw pos (keywordEach [] X.env))) := by rfl) :
    PE X (.Call (.Attribute o m apos) (e :: es) [] pos) (tMethT X.K X.mg m n tab dvs E ta t) := by
  refine ⟨fun pins s σ H Q I h => PySem.W.methodCall_KW (pl := pl) (thn (he.run pins s σ H _ I h) ?_) ht⟩
  intro u s1 ⟨x, H1, I1, rx, a, C, dx, fs, p, ex, ea, l, hp, hn, q⟩
  subst ex
  cases (show u = Value.ref a from rx)
  obtain ⟨C', f, fd, ps, ds, g1, g2, g3, g4, g5, g6⟩ := T.ex p hp
  rw [hn] at g1
  cases g1
  refine getmeth_ok I1 ea g2 g3 l (PySem.W.callWith_K (first := [.ref a]) (h₀ := X.base) I1.ok.mod.kin g3.kp (thn (ha.run pos pins s1 σ H1 _ I1 q) ?_) hst hpl)
  intro us s2 ⟨vs, H2, I2, r, q2⟩
  exact ⟨I2.kIn, run_fnSD (us := .ref a :: us) (vs := .ref a :: vs) g4 hr g5 g6 (px σ) I2 (.cons rfl r) q2⟩
theorem pe_methT0 {pl : Sem Bool} (he : PE X o ta) (T : MethT X.prog X.w X.K X.mg X.base k m n tab dvs dds) (hr : Room k X.A) (px : ∀ σ, PassesAt (L2.CX X.prog X.w) X σ (E σ))
    (ht : eval (.Call (.Attribute o m apos) [] [] pos) X.env = (do let ov ← eval o X.env; standAt apos.atName; let (f, first) ← holding [ov] (getMethod ov m pl); callWith pos f first (backTo pos (starEach [] X.env)) (backToKw pos (keywordEach [] X.env))) := by rfl) :
    PE X (.Call (.Attribute o m apos) [] [] pos) (tMethT X.K X.mg m n tab dvs E ta tNil) := by
  refine ⟨fun pins s σ H Q I h => PySem.W.methodCall_KW (pl := pl) (thn (he.run pins s σ H _ I h) ?_) ht⟩
  intro u s1 ⟨x, H1, I1, rx, a, C, dx, fs, p, ex, ea, l, hp, hn, q⟩
  subst ex
  cases (show u = Value.ref a from rx)
  obtain ⟨C', f, fd, ps, ds, g1, g2, g3, g4, g5, g6⟩ := T.ex p hp
  rw [hn] at g1
  cases g1
  refine getmeth_ok I1 ea g2 g3 l ?_
  exact PySem.W.callWith_K0 (first := [.ref a]) I1.kIn g3.kp (run_fnSD (us := [.ref a]) (vs := [.ref a]) g4 hr g5 g6 (px σ) I1 (.cons rfl .nil) q)
end
/-! ### over cells -/
def lookM (tab : List (Str × MFn)) (cls : Str) : Option MFn := (tab.find? fun p => decide (p.1 = cls)).map (·.2)
theorem lookM_mem {tab : List (Str × MFn)} {cls : Str} {mf : MFn} (h : lookM tab cls = some mf) : (cls, mf) ∈ tab := by
  unfold lookM at h
  obtain ⟨p, h1, h2⟩ := Option.map_eq_some_iff.mp h
  have h3 := List.find?_some h1
  have h4 := List.mem_of_find?_eq_some h1
  have h5 : p.1 = cls := of_decide_eq_true h3
  rw [← h2, ← h5]
  exact h4
def outR (r : FR) : R Cell := match r with
  | .ok m d _ => .ok (own m d)
  | .ex x _ => .ex x
  | .bad => .bad
def mMeth (m : Str) (n : Nat) (tab : List (Str × MFn)) (dds : List D) (o : ME) (a : MA) : ME := fun ρ => (o ρ).bind fun c => match c.d with
  | .obj cls fs => (match lookM tab cls, fldF fs m with
    | some mf, none => (a ρ).bind fun cs => if cs.length + 1 + dds.length = n then outR (mf ((c :: cs).map Cell.lend ++ dds.map sh)) else .bad
    | _, _ => .bad)
  | _ => .bad
section
variable {K : PySem.W.Frag} {mg : Str → Option Value} {W : WX}
/-- an object's class and fields, seen through a cell -/
theorem obj_at {S : Hp} {Fl F : Hl} {H : Hp} {c : Cell} {v : V} {L : Hl} {cls : Str} {fs : List (Str × Nat × D)} {f : Str} (hd : c.d = .obj cls fs) (hf : fldF fs f = none) (ok : CellOk K S Fl F c v L) (e : Same S H) (hp : ∀ p ∈ L ++ (Fl ++ F), H p.1 = some p.2) :
    ∃ a C dx vs, v = .ref a ∧ PySem.W.nsIn K mainGlobals cls = some (some (.ref C)) ∧ H a = some (.ins C dx vs) ∧ vs.lookup f = none := by
  obtain ⟨b, n, d0⟩ := c
  subst hd
  have main : ∀ {n : Nat} {M : Hl}, Own K S n v (.obj cls fs) M → (∀ p ∈ M, H p.1 = some p.2) → ∃ a C dx vs, v = .ref a ∧ PySem.W.nsIn K mainGlobals cls = some (some (.ref C)) ∧ H a = some (.ins C dx vs) ∧ vs.lookup f = none := by
    intro n M h hM
    cases h with
    | sh h => cases h with
      | @obj a C dx _ vs _ h1 h2 h3 => exact ⟨a, C, dx, vs, rfl, h1, e _ _ h2, h3.noneF hf⟩
    | @obj n a C dx _ vs _ M1 h1 h2 => exact ⟨a, C, dx, vs, rfl, h1, hM _ List.mem_cons_self, h2.none' hf⟩
  cases ok with
  | o h => exact main h fun p hm => hp p (List.mem_append_left _ hm)
  | m h => exact main h fun p hm => hp p (List.mem_append_left _ hm)
  | l q h => exact main h fun p hm => hp p (by rw [List.nil_append]; exact List.mem_append_left _ (q.subset hm))
  | p q h => exact main h fun p hm => hp p (by rw [List.nil_append]; exact List.mem_append_right _ (q.subset hm))
/-- a callee that is lent its arguments -/
theorem lend_run {S : Hp} {Fl F : Hl} {H : Hp} {σ : St} {n : Nat} {mf : MFn} {dvs : List V} {dds : List D} {cs tc : List Cell} {vs tv : List V} {Q : Cell → Prop} {XQ : XQ} {Q' : VK} (hd : ShA K S dvs dds) (hl : cs.length = vs.length) (r : Rel K S Fl F H (cs ++ tc) (vs ++ tv)) (hn : cs.length + dds.length = n)
    (q : wR (outR (mf (cs.map Cell.lend ++ dds.map sh))) Q XQ) (k : ∀ c v S' H', Q c → Same S S' → Rel K S' Fl F H' (c :: tc) (v :: tv) → Q' v H') (kx : XW K mg W S (Fl ++ F) σ XQ) : spM K mg n mf (vs ++ dvs) H Q' (fun cls d H => W cls d σ H) := by
  obtain ⟨L, t, hr⟩ := r
  obtain ⟨La, Lb, rfl, t1, t2⟩ := Tmp.split hl t
  have hdl : dvs.length = dds.length := hd.length
  have hio : iosF 0 (cs.map Cell.lend ++ dds.map sh) = [] := iosF_lend fun c hc j z => by
    rcases List.mem_append.mp hc with hc | hc
    · obtain ⟨c', _, rfl⟩ := List.mem_map.mp hc; exact lend_m j z
    · obtain ⟨c', _, rfl⟩ := List.mem_map.mp hc; cases z
  refine ⟨cs.map Cell.lend ++ dds.map sh, S, (La ++ Lb) ++ (Fl ++ F), fun _ => .non, [] ++ [], by rw [List.length_append, hdl, ← hl]; exact hn, ?_, by simpa using hr, ?_⟩
  · rw [List.map_append, List.map_append]
    exact (t1.lendS ((List.sublist_append_left _ _).append (List.Sublist.refl _))).append hd.slots
  · rw [hio]
    cases hm : mf (cs.map Cell.lend ++ dds.map sh) with
    | ok m d ds =>
      rw [hm] at q
      intro v S' H' Lc Lo e2 o2 oo hr2
      cases oo
      refine k _ v S' H' q e2 ⟨Lc ++ Lb, .cons (.o o2) (t2.ex e2), hr2.sub ?_⟩
      rw [List.append_assoc, List.nil_append, List.append_assoc]
      exact (List.Sublist.refl Lc).append (List.sublist_append_right _ _)
    | ex x ds =>
      rw [hm] at q
      intro cls d S' H' Lo e2 ex oo hr2
      cases oo
      exact kx x cls d S' H' q e2 ex (hr2.sub (by rw [List.nil_append]; exact List.sublist_append_right _ _))
    | bad => rw [hm] at q; exact q.elim
theorem meth_s {m : Str} {n : Nat} {tab : List (Str × MFn)} {dvs : List V} {dds : List D} {to : TE} {ta : TA} {o : ME} {a : MA} (hd : ∀ S, ShA K S dvs dds) (ho : ExprOk K mg W to (we_ o)) (ha : ArgsOk K mg W ta (we_ a)) :
    ExprOk K mg W (tMethT K mg m n tab dvs (fun σ cls d H => W cls d σ H) to ta) (we_ (mMeth m n tab dds o a)) := by
  intro ρ Q XQ hw S Fl F H σ tc tv Q' ev r0 k kx
  simp only [we_, mMeth, wR_bind] at hw
  refine ho ρ _ XQ hw S Fl F H σ tc tv _ ev r0 (fun c v S1 H1 q e1 r1 => ?_) kx
  have hs := r1.same
  split at q
  · next cls fs hcd =>
    split at q
    · next mf hlk hnf =>
      simp only [wR_bind] at q
      have r1' := r1
      obtain ⟨L, t, hr⟩ := r1
      cases t with
      | @cons _ _ _ _ La Lb a0 t0 =>
        have hall : ∀ p ∈ La ++ (Fl ++ F), H1 p.1 = some p.2 := fun p hp => hr.all p (by
          rw [List.append_assoc]
          rcases List.mem_append.mp hp with hp | hp
          · exact List.mem_append_left _ hp
          · exact List.mem_append_right _ (List.mem_append_right _ hp))
        obtain ⟨ad, C, dx, vs, rfl, g1, g2, g3⟩ := obj_at hcd hnf a0 hs hall
        refine ⟨ad, C, dx, vs, (cls, mf), rfl, g2, g3, lookM_mem hlk, g1, ?_⟩
        refine ha ρ _ XQ q S1 Fl F H1 σ _ _ _ (ev.ex e1) r1' (fun cs us S2 H2 q2 hl e2 r2 => ?_) (kx.ex e1)
        obtain ⟨hn, q2⟩ := wR_ite q2
        have r3 := r2.front hl
        refine lend_run (cs := c :: cs) (vs := .ref ad :: us) (hd S2) (congrArg (· + 1) hl) r3 (by rw [List.length_cons]; exact hn) q2 (fun c' v' S3 H3 qc e3 r4 => k c' v' S3 H3 qc ((e1.trans e2).trans e3) r4) (kx.ex (e1.trans e2))
    · exact q.elim
  · exact q.elim
end
/-! ### with the receiver handed in to be changed -/
def fMeth (m : Str) (n : Nat) (tab : List (Str × MFn)) (dds : List D) (r : MRc) (a : MA) : MF := fun ρ => match r ρ with
  | .ok (nn, .obj cls fs, rb) => (match lookM tab cls, fldF fs m with
    | some mf, none => (match a ρ with
      | .ok cs => if cs.all Cell.nl = true ∧ cs.length + 1 + dds.length = n then (match mf (⟨.m 0, nn, .obj cls fs⟩ :: (cs.map Cell.lend ++ dds.map sh)) with
        | .ok k d [d0] => .ok (own k d) (rb d0)
        | .ex x [d0] => .ex x (rb d0)
        | _ => .bad) else .bad
      | .ex x => .ex x ρ
      | .bad => .bad)
    | _, _ => .bad)
  | .ex x => .ex x ρ
  | _ => .bad
section
variable {K : PySem.W.Frag} {mg : Str → Option Value} {W : WX}
theorem pures_at {t : TA} {m : MA} {ρ : Env} {S : Hp} {F : Hl} {A : Nat → V} {H : Hp} {σ : St} {Le M : Hl} {Q' : List V → Hp → Prop} (h : ArgsOk K mg W t (we_ m)) (hl : σ.length = ρ.length) (sl : Slots K S F A ρ σ Le) (hr : HRel S (M ++ (Le ++ F)) H) :
    match m ρ with
    | .ok cs => (∀ vs S1 H1 Lc, Same S S1 → cs.length = vs.length → Tmp K S1 (M ++ Le) F cs vs Lc → HRel S1 (Lc ++ (M ++ (Le ++ F))) H1 → Q' vs H1) → t σ H Q'
    | .ex x => XF_ K mg W S F A σ x ρ → t σ H Q'
    | .bad => True := by
  have hr' : HRel S ([] ++ ((M ++ Le) ++ F)) H := by rw [List.nil_append, List.append_assoc]; exact hr
  have ev : EnvV K S (M ++ Le) F ρ σ := sl.view (List.sublist_append_right M Le)
  cases hm : m ρ with
  | ok c =>
    intro k
    refine h ρ (fun c' => c' = c) (fun _ => False) (by simp only [we_]; rw [hm]; rfl) S (M ++ Le) F H σ [] [] Q' ev ⟨[], .nil, hr'⟩ (fun c' v S1 H1 q hlen e1 r1 => ?_) (fun x cls d S' H' hx => hx.elim)
    subst q
    rw [List.append_nil, List.append_nil] at r1
    obtain ⟨L, t1, hr1⟩ := r1
    rw [List.append_assoc] at hr1
    exact k v S1 H1 L e1 hlen t1 hr1
  | ex x =>
    intro k
    refine h ρ (fun _ => False) (fun y => y = x) (by simp only [we_]; rw [hm]; rfl) S (M ++ Le) F H σ [] [] Q' ev ⟨[], .nil, hr'⟩ (fun _ _ _ _ q => q.elim) (fun y cls d S1 H1 hy e1 ex hr1 => ?_)
    subst hy
    exact k cls d S1 H1 hl e1 ex ⟨Le, sl.ex e1, hr1.sub (by rw [List.append_assoc]; exact List.sublist_append_right _ _)⟩
  | bad => trivial
/-- arguments that stay, and the first one handed in -/
theorem io_run {S : Hp} {F M R Le : Hl} {H : Hp} {σ : St} {A : Nat → V} {n nn : Nat} {mf : MFn} {dvs : List V} {dds : List D} {cs : List Cell} {vs : List V} {b : Addr} {e : D} {Lf Lc : Hl} {rb : D → Env} {Q' : VK} (hd : ShA K S dvs dds) (hl : cs.length = vs.length) (hn : cs.length + 1 + dds.length = n)
    (o : Own K S nn (.ref b) e Lf) (t : Tmp K S [] F cs vs Lc) (hr : HRel S (Lc ++ (M ++ (Le ++ F))) H) (p : Le.Perm (Lf ++ R)) (hrb : ∀ e', σ.length = (rb e').length)
    (cl : ∀ S'' e' Lf', Same S S'' → Own K S'' nn (.ref b) e' Lf' → ∃ Le', Slots K S'' F A (rb e') σ Le' ∧ Le'.Perm (Lf' ++ R)) :
    match mf (⟨.m 0, nn, e⟩ :: (cs.map Cell.lend ++ dds.map sh)) with
    | .ok k d [d0] => (∀ v S' H' Le' Ld, Same S S' → Slots K S' F A (rb d0) σ Le' → Own K S' k v d Ld → HRel S' (Ld ++ (M ++ (Le' ++ F))) H' → Q' v H') → spM K mg n mf (.ref b :: (vs ++ dvs)) H Q' (fun cls d H => W cls d σ H)
    | .ex x [d0] => XF_ K mg W S F A σ x (rb d0) → spM K mg n mf (.ref b :: (vs ++ dvs)) H Q' (fun cls d H => W cls d σ H)
    | _ => True := by
  have hdl : dvs.length = dds.length := hd.length
  have hio : iosF 0 (⟨.m 0, nn, e⟩ :: (cs.map Cell.lend ++ dds.map sh)) = [(0, nn)] := by
    rw [iosF]
    simp only [if_true]
    rw [iosF_lend fun c hc j z => by
      rcases List.mem_append.mp hc with hc | hc
      · obtain ⟨c', _, rfl⟩ := List.mem_map.mp hc; exact lend_m j z
      · obtain ⟨c', _, rfl⟩ := List.mem_map.mp hc; cases z]
  have base : ∀ (r : FR), mf (⟨.m 0, nn, e⟩ :: (cs.map Cell.lend ++ dds.map sh)) = r → FRq K mg S (Lc ++ (M ++ (R ++ F))) (fun _ => .ref b) Q' (fun cls d H => W cls d σ H) [(0, nn)] r → spM K mg n mf (.ref b :: (vs ++ dvs)) H Q' (fun cls d H => W cls d σ H) := by
    intro r hm hq
    refine ⟨⟨.m 0, nn, e⟩ :: (cs.map Cell.lend ++ dds.map sh), S, Lc ++ (M ++ (R ++ F)), fun _ => .ref b, Lf ++ ([] ++ []), by rw [List.length_cons, List.length_append, hdl, ← hl]; omega, ?_, hr.perm ?_, ?_⟩
    · rw [List.map_cons, List.map_cons, List.map_append, List.map_append]
      refine .yes (.m o) (fun j z => rfl) ((t.lendS ?_).append hd.slots)
      rw [List.nil_append]
      refine (List.Sublist.refl Lc).append ?_
      exact (List.sublist_append_right R F).trans (List.sublist_append_right M _)
    · rw [List.nil_append, List.append_nil]
      refine (List.Perm.append_left Lc (List.Perm.append_left M (p.append_right F))).trans ?_
      rw [List.append_assoc]
      exact (List.Perm.append_left Lc (perm_abc M Lf _)).trans (perm_abc _ _ _)
    · rw [hio, hm]
      exact hq
  have back : ∀ {Ld Lo Le2 : Hl} {S' H' : Hp}, Le2.Perm (Lo ++ R) → HRel S' (Ld ++ ((Lo ++ []) ++ (Lc ++ (M ++ (R ++ F))))) H' → HRel S' (Ld ++ (M ++ (Le2 ++ F))) H' := by
    intro Ld Lo Le2 S' H' p2 hr2
    rw [List.append_nil] at hr2
    have h3 : HRel S' (Ld ++ (Lc ++ (M ++ (Le2 ++ F)))) H' := hr2.perm (List.Perm.append_left Ld (by
      refine (perm_abc Lo Lc _).trans (List.Perm.append_left Lc ((perm_abc Lo M _).trans (List.Perm.append_left M ?_)))
      rw [← List.append_assoc]
      exact p2.symm.append_right F))
    exact h3.sub ((List.Sublist.refl Ld).append (List.sublist_append_right Lc _))
  split
  · next k d d0 hm =>
    intro kk
    refine base _ hm ?_
    intro v S' H' Ld Lo e2 o2 oo hr2
    cases oo with
    | @cons _ _ _ _ _ Lo1 Lo2 o1 oo =>
      cases oo
      obtain ⟨Le2, s2, p2⟩ := cl S' d0 Lo1 e2 o1
      exact kk v S' H' Le2 Ld e2 s2 o2 (back p2 hr2)
  · next x d0 hm =>
    intro kk
    refine base _ hm ?_
    intro cls d S' H' Lo e2 ex oo hr2
    cases oo with
    | @cons _ _ _ _ _ Lo1 Lo2 o1 oo =>
      cases oo
      obtain ⟨Le2, s2, p2⟩ := cl S' d0 Lo1 e2 o1
      have hr3 : HRel S' ([] ++ (M ++ (Le2 ++ F))) H' := back (Ld := []) p2 (by rw [List.nil_append]; exact hr2)
      exact kk cls d S' H' (hrb d0) e2 ex ⟨Le2, s2, hr3.sub (by rw [List.nil_append]; exact List.sublist_append_right _ _)⟩
  · trivial
theorem Tmp.noL {S : Hp} {Fl F : Hl} : ∀ {cs : List Cell} {vs : List V} {L : Hl}, Tmp K S Fl F cs vs L → cs.all Cell.nl = true → Tmp K S [] F cs vs L := fun t h => t.lf2 h
theorem fmeth_s {m : Str} {n : Nat} {tab : List (Str × MFn)} {dvs : List V} {dds : List D} {to : TE} {ta : TA} {r : MRc} {a : MA} (hd : ∀ S, ShA K S dvs dds) (hr0 : RXOk K mg W to r) (ha : ArgsOk K mg W ta (we_ a)) :
    FxOk K mg W (tMethT K mg m n tab dvs (fun σ cls d H => W cls d σ H) to ta) (fMeth m n tab dds r a) := by
  intro ρ S F A H σ Le M Q' hl sl hr
  have h1 := hr0 ρ S F A H σ Le M (fun x H1 => ∃ a C dx fs p, x = .ref a ∧ H1 a = some (.ins C dx fs) ∧ fs.lookup m = none ∧ p ∈ tab ∧ PySem.W.nsIn K mainGlobals p.1 = some (some (.ref C)) ∧ ta σ H1 fun vs H2 => spM K mg n p.2 (x :: (vs ++ dvs)) H2 Q' (fun cls d H => W cls d σ H)) hl sl hr
  unfold fMeth
  cases hm : r ρ with
  | bad => trivial
  | ex x => rw [hm] at h1; exact h1
  | ok p =>
    obtain ⟨nn, e, rb⟩ := p
    rw [hm] at h1
    cases e with
    | obj cls fs =>
      simp only
      cases hlk : lookM tab cls with
      | none => trivial
      | some mf =>
        cases hnf : fldF fs m with
        | some _ => trivial
        | none =>
          simp only
          have atR : ∀ {b : Addr} {S1 H1 : Hp} {Lf R : Hl}, HRel S1 (M ++ (Le ++ F)) H1 → Le.Perm (Lf ++ R) → Own K S1 nn (.ref b) (.obj cls fs) Lf → ∃ C dx vs, PySem.W.nsIn K mainGlobals cls = some (some (.ref C)) ∧ H1 b = some (.ins C dx vs) ∧ vs.lookup m = none := by
            intro b S1 H1 Lf R hr1 p1 o1
            obtain ⟨a', C, dx, vs, q1, q2, q3, q4⟩ := obj_at (c := ⟨.o, nn, .obj cls fs⟩) (Fl := []) (F := []) (L := Lf) rfl hnf (.o o1) hr1.sh fun p hp => hr1.all p (by
              rw [List.append_nil, List.append_nil] at hp
              exact List.mem_append_right _ (List.mem_append_left _ (p1.mem_iff.mpr (List.mem_append_left _ hp))))
            cases q1
            exact ⟨C, dx, vs, q2, q3, q4⟩
          cases ham : a ρ with
          | bad => trivial
          | ex x =>
            intro k
            refine h1 fun b S1 H1 Lf R e1 hr1 p1 o1 hln cl => ?_
            obtain ⟨C, dx, vs, g1, g2, g3⟩ := atR hr1 p1 o1
            refine ⟨b, C, dx, vs, (cls, mf), rfl, g2, g3, lookM_mem hlk, g1, ?_⟩
            have h2 := pures_at (Q' := fun vs H2 => spM K mg n mf (.ref b :: (vs ++ dvs)) H2 Q' (fun cls d H => W cls d σ H)) ha hl (sl.ex e1) hr1
            rw [ham] at h2
            exact h2 (k.ex e1)
          | ok cs =>
            simp only
            by_cases hc : cs.all Cell.nl = true ∧ cs.length + 1 + dds.length = n
            · rw [if_pos hc]
              have step : ∀ {b : Addr} {S1 H1 : Hp} {Lf R : Hl}, Same S S1 → HRel S1 (M ++ (Le ++ F)) H1 → Le.Perm (Lf ++ R) → Own K S1 nn (.ref b) (.obj cls fs) Lf →
                  (∀ vs S2 H2 Lc, Same S1 S2 → cs.length = vs.length → Tmp K S2 [] F cs vs Lc → HRel S2 (Lc ++ (M ++ (Le ++ F))) H2 → spM K mg n mf (.ref b :: (vs ++ dvs)) H2 Q' (fun cls d H => W cls d σ H)) →
                  ∃ a C dx fs p, V.ref b = .ref a ∧ H1 a = some (.ins C dx fs) ∧ fs.lookup m = none ∧ p ∈ tab ∧ PySem.W.nsIn K mainGlobals p.1 = some (some (.ref C)) ∧ ta σ H1 fun vs H2 => spM K mg n p.2 (.ref b :: (vs ++ dvs)) H2 Q' (fun cls d H => W cls d σ H) := by
                intro b S1 H1 Lf R e1 hr1 p1 o1 kk
                obtain ⟨C, dx, vs, g1, g2, g3⟩ := atR hr1 p1 o1
                refine ⟨b, C, dx, vs, (cls, mf), rfl, g2, g3, lookM_mem hlk, g1, ?_⟩
                have h2 := pures_at (Q' := fun vs H2 => spM K mg n mf (.ref b :: (vs ++ dvs)) H2 Q' (fun cls d H => W cls d σ H)) ha hl (sl.ex e1) hr1
                rw [ham] at h2
                exact h2 fun vs S2 H2 Lc e2 hlen t2 hr2 => kk vs S2 H2 Lc e2 hlen (t2.lf2 hc.1) hr2
              split
              · next r0 c0 ρ0 heq =>
                split at heq
                · next k d d0 hmf =>
                  cases heq
                  intro kk
                  refine h1 fun b S1 H1 Lf R e1 hr1 p1 o1 hln cl => step e1 hr1 p1 o1 fun vs S2 H2 Lc e2 hlen t2 hr2 => ?_
                  have h3 := io_run (mg := mg) (W := W) (mf := mf) (dds := dds) (Q' := Q') (hd S2) hlen hc.2 (o1.ex e2) t2 hr2 p1 (fun e' => hl.trans (hln e').symm) fun S'' e' Lf' e3 q => cl S'' e' Lf' (e2.trans e3) q
                  rw [hmf] at h3
                  exact h3 fun v S3 H3 Le3 Ld e3 s3 o3 hr3 => kk v S3 H3 Le3 Ld (hl.trans (hln d0).symm) ((e1.trans e2).trans e3) s3 (.o o3) hr3
                · cases heq
                · cases heq
              · next r0 x0 ρ0 heq =>
                split at heq
                · cases heq
                · next x d0 hmf =>
                  cases heq
                  intro kk
                  refine h1 fun b S1 H1 Lf R e1 hr1 p1 o1 hln cl => step e1 hr1 p1 o1 fun vs S2 H2 Lc e2 hlen t2 hr2 => ?_
                  have h3 := io_run (mg := mg) (W := W) (mf := mf) (dds := dds) (Q' := Q') (hd S2) hlen hc.2 (o1.ex e2) t2 hr2 p1 (fun e' => hl.trans (hln e').symm) fun S'' e' Lf' e3 q => cl S'' e' Lf' (e2.trans e3) q
                  rw [hmf] at h3
                  exact h3 (kk.ex (e1.trans e2))
                · cases heq
              · trivial
            · rw [if_neg hc]; trivial
    | _ => trivial
end
end VL
set_option maxRecDepth 100000
/-! YM: the rules for method calls, objects made (written arguments or keywords alone), self.f = e, isinstance of objects. -/
namespace VL
open PySem L2
variable [TB : Tbs]

/-! ### what is never reached -/
section
variable {X : Cx} {W : WX} {e : Expr}
theorem em_bad : EM X W e (fun _ _ _ => False) (fun _ => .bad) := ⟨⟨fun _ _ _ _ _ _ h => h.elim⟩, fun ρ Q XQ hw => hw.elim⟩
end
/-! ### methods -/
section
variable {X : Cx} {W : WX} {k n : Nat} {m : Str} {tab : List (Str × MFn)} {dvs : List V} {dds : List D} {o e : Expr} {es : List Expr} {to : TE} {ta : TA} {mo : ME} {ma : MA} {mr : MRc} {apos pos : Pos}
theorem em_meth {pl : Sem Bool} (px : ∀ σ, PassesAt (L2.CX X.prog X.w) X σ (_root_.L2.WE W σ)) (T : MethT X.prog X.w X.K X.mg X.base k m n tab dvs dds) (hr : Room k X.A) (ho : EM X W o to mo) (ha : AM X W (e :: es) ta ma)
    (hst : starEach (e :: es) X.env = (false, eval e X.env) :: starEach es X.env := by rfl) (hpl : (backTo pos (starEach es X.env)).any (·.1) = false := by rfl)
    (ht : eval (.Call (.Attribute o m apos) (e :: es) [] pos) X.env = (do let ov ← eval o X.env; standAt apos.atName; let (f, first) ← holding [ov] (getMethod ov m pl); callWith pos f first (backTo pos (starEach (e :: es) X.env)) (backToKw pos (keywordEach [] X.env))) := by rfl) :
    EM X W (.Call (.Attribute o m apos) (e :: es) [] pos) (tMethT X.K X.mg m n tab dvs (fun σ cls d H => W cls d σ H) to ta) (mMeth m n tab dds mo ma) :=
  ⟨pe_methT ho.p T hr px ha.p hst hpl ht, meth_s T.dd ho.s ha.s⟩
theorem em_meth0 {pl : Sem Bool} (px : ∀ σ, PassesAt (L2.CX X.prog X.w) X σ (_root_.L2.WE W σ)) (T : MethT X.prog X.w X.K X.mg X.base k m n tab dvs dds) (hr : Room k X.A) (ho : EM X W o to mo)
    (ht : eval (.Call (.Attribute o m apos) [] [] pos) X.env = (do let ov ← eval o X.env; standAt apos.atName; let (f, first) ← holding [ov] (getMethod ov m pl); callWith pos f first (backTo pos (starEach [] X.env)) (backToKw pos (keywordEach [] X.env))) := by rfl) :
    EM X W (.Call (.Attribute o m apos) [] [] pos) (tMethT X.K X.mg m n tab dvs (fun σ cls d H => W cls d σ H) to tNil) (mMeth m n tab dds mo mNil) :=
  ⟨pe_methT0 ho.p T hr px ht, meth_s T.dd ho.s am_nil.s⟩
theorem fm_meth {pl : Sem Bool} (px : ∀ σ, PassesAt (L2.CX X.prog X.w) X σ (_root_.L2.WE W σ)) (T : MethT X.prog X.w X.K X.mg X.base k m n tab dvs dds) (hr : Room k X.A) (ho : RX X W o to mr) (ha : AM X W (e :: es) ta ma)
    (hst : starEach (e :: es) X.env = (false, eval e X.env) :: starEach es X.env := by rfl) (hpl : (backTo pos (starEach es X.env)).any (·.1) = false := by rfl)
    (ht : eval (.Call (.Attribute o m apos) (e :: es) [] pos) X.env = (do let ov ← eval o X.env; standAt apos.atName; let (f, first) ← holding [ov] (getMethod ov m pl); callWith pos f first (backTo pos (starEach (e :: es) X.env)) (backToKw pos (keywordEach [] X.env))) := by rfl) :
    FM X W (.Call (.Attribute o m apos) (e :: es) [] pos) (tMethT X.K X.mg m n tab dvs (fun σ cls d H => W cls d σ H) to ta) (fMeth m n tab dds mr ma) :=
  ⟨pe_methT ho.p T hr px ha.p hst hpl ht, fmeth_s T.dd ho.s ha.s⟩
theorem fm_meth0 {pl : Sem Bool} (px : ∀ σ, PassesAt (L2.CX X.prog X.w) X σ (_root_.L2.WE W σ)) (T : MethT X.prog X.w X.K X.mg X.base k m n tab dvs dds) (hr : Room k X.A) (ho : RX X W o to mr)
    (ht : eval (.Call (.Attribute o m apos) [] [] pos) X.env = (do let ov ← eval o X.env; standAt apos.atName; let (f, first) ← holding [ov] (getMethod ov m pl); callWith pos f first (backTo pos (starEach [] X.env)) (backToKw pos (keywordEach [] X.env))) := by rfl) :
    FM X W (.Call (.Attribute o m apos) [] [] pos) (tMethT X.K X.mg m n tab dvs (fun σ cls d H => W cls d σ H) to tNil) (fMeth m n tab dds mr mNil) :=
  ⟨pe_methT0 ho.p T hr px ht, fmeth_s T.dd ho.s am_nil.s⟩
end
/-! ### self.f = e -/
section
variable {X : Cx} {W : WX} {e : Expr} {y f : Str} {i : Nat} {tv : TE} {mf : MF} {py pos pos' : Pos}
theorem sm_fld (tab : List Str) (hF : FldO X.K f tab) (h : PE X (.Name y py) (tVar i)) (he : FM X W e tv mf) (hs : swapsWith e (some (.Attribute (.Name y py) f pos')) pos.line X.env = pure false := by rfl) :
    SM X W (.Assign [.Attribute (.Name y py) f pos'] e pos) (sFld X.K (tVar i) tv f) (sFldS tab i f mf) := ⟨ps_fld h he.p hs, sfld_sound hF he.s⟩
end
/-! ### objects made -/
/-- the class x is made by its __init__, which is mf over cells -/
structure MkM (P : Program) (w : World) (K : PySem.W.Frag) (mg : Str → Option Value) (base : Heap) (k : Nat) (x : Str) (n : Nat) (mf : MFn) (dvs : List V) (dds : List D) (kw : List Str) : Prop where
  ex : ∃ (C f : Addr) (fd : FuncData) (ps : List Str) (ds : List Value), Mk K C f ∧ mg x = some (.ref C) ∧ PySem.W.nsIn K mainGlobals x = some (some (.ref C)) ∧ FnOk P w K mg base (L2.CX P w) k f fd ps (spM K mg n mf) ∧ Vals dvs ds ∧
    (∀ (s : Shared) (self : Value) (us ws : List Value), K.In s.heap → ws.length = kw.length → (self :: (us ++ (ws ++ ds))).length = ps.length → BindsTo s fd ⟨self :: us, kw.zip ws⟩ (ps.zip (self :: (us ++ (ws ++ ds)))))
  dd : ∀ S, ShA K S dvs dds
def tMk (K : PySem.W.Frag) (mg : Str → Option Value) (x : Str) (n : Nat) (mf : MFn) (dvs : List V) (E : St → XK) (t : TA) : TE := fun σ H Q => t σ H fun vs H1 => ∃ C, PySem.W.nsIn K mainGlobals x = some (some (.ref C)) ∧
  ∀ a dx, H1 a = none → H1 dx = none → dx ≠ a → spM K mg n mf (.ref a :: (vs ++ dvs)) (upd (upd H1 dx (.own a)) a (.ins C dx [])) (fun v H2 => v = .non ∧ Q (.ref a) H2) (E σ)
section
variable {X : Cx} {k n : Nat} {x : Str} {mf : MFn} {dvs : List V} {dds : List D} {E : St → XK} {t tk : TA} {kw : List Str} {p pos : Pos} {e : Expr} {es : List Expr} {kws : List Keyword}
theorem run_mk {pins : List (Addr × Obj)} {σ : St} {H : Hp} {s : Shared} {Q : VK} {us ws ds : List Value} {vs zs : List V} {C f : Addr} {fd : FuncData} {ps : List Str} (M : Mk X.K C f) (F : FnOk X.prog X.w X.K X.mg X.base (L2.CX X.prog X.w) k f fd ps (spM X.K X.mg n mf)) (hr : Room (k + 1) X.A)
    (hd : Vals dvs ds) (hb : ∀ (s : Shared) (self : Value) (us ws : List Value), X.K.In s.heap → ws.length = kw.length → (self :: (us ++ (ws ++ ds))).length = ps.length → BindsTo s fd ⟨self :: us, kw.zip ws⟩ (ps.zip (self :: (us ++ (ws ++ ds)))))
    (px : PassesAt (L2.CX X.prog X.w) X σ (E σ)) (I : Inv X pins σ H s) (r : Vals vs us) (rz : Vals zs ws) (hk : ws.length = kw.length)
    (h : ∀ a dx, H a = none → H dx = none → dx ≠ a → spM X.K X.mg n mf (.ref a :: (vs ++ (zs ++ dvs))) (upd (upd H dx (.own a)) a (.ins C dx [])) (fun v H2 => v = .non ∧ Q (.ref a) H2) (E σ)) :
    wpAny (model X.prog X.w) X.A (call (.ref C) us (kw.zip ws)) (EP X pins σ Q) X.xe s := by
  have hq := h (s.heap.objs.size + 1) s.heap.objs.size (I.hok.fresh (Nat.le_succ _)) (I.hok.fresh (Nat.le_refl _)) (Nat.ne_of_lt (Nat.lt_succ_self _))
  have I2 := Inv.made (C := C) I
  have r2 : Vals (V.ref (s.heap.objs.size + 1) :: (vs ++ (zs ++ dvs))) (Value.ref (s.heap.objs.size + 1) :: (us ++ (ws ++ ds))) := .cons rfl (r.append (rz.append hd))
  have hl : (Value.ref (s.heap.objs.size + 1) :: (us ++ (ws ++ ds))).length = ps.length := by
    have e := r2.length
    rw [F.len _ _ _ _ hq] at e
    exact e.symm
  refine wpAny_call (make_map (f := f) I.kIn M.makes M.init (beq_iff_eq.mp M.fn) (codeAny_mono (F.run _ X.stack _ _ ⟨Value.ref (s.heap.objs.size + 1) :: us, kw.zip ws⟩ (Value.ref (s.heap.objs.size + 1) :: (us ++ (ws ++ ds))) _ _ (E σ) (hr.make C us (kw.zip ws))
    (I2.env0.make C us (kw.zip ws)) (hb _ (Value.ref (s.heap.objs.size + 1)) us ws I2.kIn hk hl) r2 hq) fun r s' hq' => ?_))
  cases r with
  | error e => exact px pins _ _ e s' I2 hq'
  | ok fl =>
    cases fl with
    | ret u =>
      obtain ⟨v, H', I3, rv, ev, q3⟩ := I2.after hq'
      subst ev
      exact ⟨rv, ⟨V.ref (s.heap.objs.size + 1), H', I3, rfl, q3⟩⟩
    | next => exact False.elim hq'
    | brk => exact False.elim hq'
    | cont => exact False.elim hq'
theorem pe_mk (M : MkM X.prog X.w X.K X.mg X.base k x n mf dvs dds []) (hr : Room (k + 1) X.A) (hg : Gl X x) (px : ∀ σ, PassesAt (L2.CX X.prog X.w) X σ (E σ)) (ha : PA X (e :: es) t)
    (hdb : (x == ("__debug__" : Str)) = false := by decide) (he : starEach (e :: es) X.env = (false, eval e X.env) :: starEach es X.env := by rfl) (hpl : (backTo pos (starEach es X.env)).any (·.1) = false := by rfl) :
    PE X (.Call (.Name x p) (e :: es) [] pos) (tMk X.K X.mg x n mf dvs E t) := by
  obtain ⟨C, f, fd, ps, ds, h1, h2, h3, h4, h5, h6⟩ := M.ex
  refine ⟨fun pins s σ H Q I h => ?_⟩
  refine wpAny_Call_Name_kw (ld_glob I hg h2 ?_ hdb)
  refine PySem.W.callWith_K (h₀ := X.base) I.ok.mod.kin h1.kp (thn (ha.run pos pins s σ H _ I h) fun us s1 ⟨vs, H1, I1, r, C', q1, q⟩ => ⟨I1.kIn, ?_⟩) he hpl
  rw [h3] at q1
  cases q1
  exact run_mk (kw := []) (ws := []) (zs := []) h1 h4 hr h5 h6 (px σ) I1 r .nil rfl q
theorem pe_mk0 (M : MkM X.prog X.w X.K X.mg X.base k x n mf dvs dds []) (hr : Room (k + 1) X.A) (hg : Gl X x) (px : ∀ σ, PassesAt (L2.CX X.prog X.w) X σ (E σ))
    (hdb : (x == ("__debug__" : Str)) = false := by decide) :
    PE X (.Call (.Name x p) [] [] pos) (tMk X.K X.mg x n mf dvs E tNil) := by
  obtain ⟨C, f, fd, ps, ds, h1, h2, h3, h4, h5, h6⟩ := M.ex
  refine ⟨fun pins s σ H Q I ⟨C', q1, q⟩ => ?_⟩
  rw [h3] at q1
  cases q1
  refine wpAny_Call_Name_kw (ld_glob I hg h2 ?_ hdb)
  exact PySem.W.callWith_K0 I.kIn h1.kp (run_mk (kw := []) (us := []) (ws := []) (vs := []) (zs := []) h1 h4 hr h5 h6 (px σ) I .nil .nil rfl q)
/-- one keyword alone -/
theorem pe_mkK {nm : Option Str} {kpos : Pos} {te : TE} (M : MkM X.prog X.w X.K X.mg X.base k x n mf dvs dds kw) (hr : Room (k + 1) X.A) (hg : Gl X x) (px : ∀ σ, PassesAt (L2.CX X.prog X.w) X σ (E σ)) (he : PE X e te) (hk1 : kw.length = 1)
    (hall : (backToKw pos (keywordEach [⟨nm, e, kpos⟩] X.env)).all (·.1.isSome) = true := by rfl) (hks : (backToKw pos (keywordEach [⟨nm, e, kpos⟩] X.env)).filterMap (·.1) = kw := by rfl) (hdb : (x == ("__debug__" : Str)) = false := by decide)
    (hpl : ((backTo pos (starEach [] X.env)).any (·.1) || (backToKw pos (keywordEach [⟨nm, e, kpos⟩] X.env)).any (·.1.isNone)) = false := by rfl) :
    PE X (.Call (.Name x p) [] [⟨nm, e, kpos⟩] pos) (tMk X.K X.mg x n mf dvs E (tCons te tNil)) := by
  obtain ⟨C, f, fd, ps, ds, h1, h2, h3, h4, h5, h6⟩ := M.ex
  refine ⟨fun pins s σ H Q I h => ?_⟩
  refine wpAny_Call_Name_kw (ld_glob I hg h2 ?_ hdb)
  refine PySem.W.callWith_KW0 (h₀ := X.base) I.ok.mod.kin h1.kp hall ?_ hpl
  show wpAny _ _ (evalAll ((do let v ← eval e X.env; standAt pos; pure v) :: [])) _ _ s
  refine wpAny_evalAll_cons (wpAny_bind (thn (he.run pins s σ H _ I h) fun u s1 ⟨z, H1, I1, r1, q1⟩ => wpAny_bind (wpAny_standAt (wpAny_pure (wpAny_evalAll_nil ⟨I1.kIn, ?_⟩)))))
  obtain ⟨C', q1, q⟩ := q1
  rw [h3] at q1
  cases q1
  rw [hks]
  exact run_mk (us := []) (vs := []) (zs := [z]) h1 h4 hr h5 h6 (px σ) I1 .nil (.cons r1 .nil) hk1.symm q
end
def mMake (x : Str) (n : Nat) (mf : MFn) (dds : List D) (a : MA) : ME := fun ρ => (a ρ).bind fun cs => if cs.length + 1 + dds.length = n then (match mf (⟨.m 0, 1, .obj x []⟩ :: (cs.map Cell.lend ++ dds.map sh)) with
  | .ok _ .non [d0] => .ok (own 1 d0)
  | .ex y _ => .ex y
  | _ => .bad) else .bad
/-- a cell laid that nothing tells of -/
theorem HRel.skip {S H : Hp} {L : Hl} {b : Addr} {o : HO} (h : HRel S L H) (hb : H b = none) : HRel S L (upd H b o) := by
  refine ⟨fun c u e => ?_, fun q hq => ?_, h.nd, h.tb.ext fun c u e => (by rw [upd_ne (ne_of_none e hb)]; exact e), h.tn.ext fun c u e => (by rw [upd_ne (ne_of_none e hb)]; exact e), h.ns, h.nl⟩
  · rw [upd_ne (ne_of_none (h.sh c u e) hb)]; exact h.sh c u e
  · obtain ⟨h1, h2⟩ := h.pr q hq
    exact ⟨by rw [upd_ne (ne_of_none h1 hb)]; exact h1, h2⟩
section
variable {K : PySem.W.Frag} {mg : Str → Option Value} {W : WX}
theorem make_s {x : Str} {n : Nat} {mf : MFn} {dvs : List V} {dds : List D} {ta : TA} {a : MA} {C : Addr} (hc : PySem.W.nsIn K mainGlobals x = some (some (.ref C))) (hd : ∀ S, ShA K S dvs dds) (ha : ArgsOk K mg W ta (we_ a)) :
    ExprOk K mg W (tMk K mg x n mf dvs (fun σ cls d H => W cls d σ H) ta) (we_ (mMake x n mf dds a)) := by
  intro ρ Q XQ hw S Fl F H σ tc tv Q' ev r0 k kx
  simp only [we_, mMake, wR_bind] at hw
  refine ha ρ _ XQ hw S Fl F H σ tc tv _ ev r0 (fun cs vs S1 H1 q hl e1 r1 => ?_) kx
  obtain ⟨hcn, q⟩ := wR_ite q
  refine ⟨C, hc, fun ad dx n1 n2 ne => ?_⟩
  obtain ⟨L, t, hr⟩ := r1
  obtain ⟨La, Lb, rfl, t1, t2⟩ := Tmp.split hl t
  have hr1 : HRel S1 ((ad, .ins C dx []) :: (La ++ Lb ++ (Fl ++ F))) (upd (upd H1 dx (.own ad)) ad (.ins C dx [])) := (hr.skip n2).lay (by rw [upd_ne fun z => ne z.symm]; exact n1)
  have hsub : (La ++ (Fl ++ F)).Sublist ((La ++ Lb) ++ (Fl ++ F)) := (List.sublist_append_left _ _).append (List.Sublist.refl _)
  have hdl : dvs.length = dds.length := (hd S1).length
  have hio : iosF 0 (⟨.m 0, 1, .obj x []⟩ :: (cs.map Cell.lend ++ dds.map sh)) = [(0, 1)] := by
    rw [iosF]
    simp only [if_true]
    rw [iosF_lend fun c hc j z => by
      rcases List.mem_append.mp hc with hc | hc
      · obtain ⟨c', _, rfl⟩ := List.mem_map.mp hc; exact lend_m j z
      · obtain ⟨c', _, rfl⟩ := List.mem_map.mp hc; cases z]
  refine ⟨⟨.m 0, 1, .obj x []⟩ :: (cs.map Cell.lend ++ dds.map sh), S1, (La ++ Lb) ++ (Fl ++ F), fun _ => .ref ad, [(ad, .ins C dx [])] ++ ([] ++ []), by rw [List.length_cons, List.length_append, hdl, ← hl]; omega, ?_, hr1, ?_⟩
  · rw [List.map_cons, List.map_cons, List.map_append, List.map_append]
    exact .yes (.m (.obj hc .nil)) (fun j z => rfl) ((t1.lendS hsub).append (hd S1).slots)
  · rw [hio]
    cases hm : mf (⟨.m 0, 1, .obj x []⟩ :: (cs.map Cell.lend ++ dds.map sh)) with
    | ok m d ds =>
      rw [hm] at q
      intro v S' H' Lc Lo e2 o2 oo hr2
      cases d with
      | non =>
        cases ds with
        | nil => exact q.elim
        | cons d0 ds =>
          cases ds with
          | cons _ _ => exact q.elim
          | nil =>
            cases oo with
            | @cons _ _ _ _ _ Lo1 Lo2 o1 oo =>
              cases oo
              have hv : v = .non := by
                cases o2 with
                | sh h => cases h; rfl
                | non => rfl
              refine ⟨hv, k _ (.ref ad) S' H' q (e1.trans e2) ⟨Lo1 ++ Lb, .cons (.o o1) (t2.ex e2), hr2.sub ?_⟩⟩
              refine List.Sublist.trans ?_ (List.sublist_append_right Lc _)
              rw [List.append_nil, List.append_assoc, List.append_assoc]
              exact (List.Sublist.refl Lo1).append (List.sublist_append_right La _)
      | _ => exact q.elim
    | ex y ds =>
      rw [hm] at q
      intro cls d S' H' Lo e2 ex oo hr2
      exact kx y cls d S' H' q (e1.trans e2) ex (hr2.sub (by
        refine List.Sublist.trans ?_ (List.sublist_append_right Lo _)
        exact List.sublist_append_right _ _))
    | bad => rw [hm] at q; exact q.elim
end
section
variable {X : Cx} {W : WX} {k n : Nat} {x : Str} {mf : MFn} {dvs : List V} {dds : List D} {kw : List Str} {p pos : Pos} {e : Expr} {es : List Expr} {ta : TA} {ma : MA} {kws : List Keyword} {nm : Option Str} {kpos : Pos} {te : TE} {me : ME}
theorem em_make (px : ∀ σ, PassesAt (L2.CX X.prog X.w) X σ (_root_.L2.WE W σ)) (M : MkM X.prog X.w X.K X.mg X.base k x n mf dvs dds []) (hr : Room (k + 1) X.A) (hg : Gl X x) (ha : AM X W (e :: es) ta ma)
    (hdb : (x == ("__debug__" : Str)) = false := by decide) (he : starEach (e :: es) X.env = (false, eval e X.env) :: starEach es X.env := by rfl) (hpl : (backTo pos (starEach es X.env)).any (·.1) = false := by rfl) :
    EM X W (.Call (.Name x p) (e :: es) [] pos) (tMk X.K X.mg x n mf dvs (fun σ cls d H => W cls d σ H) ta) (mMake x n mf dds ma) := by
  obtain ⟨C, f, fd, ps, ds, h1, h2, h3, h4, h5, h6⟩ := M.ex
  exact ⟨pe_mk M hr hg px ha.p hdb he hpl, make_s h3 M.dd ha.s⟩
theorem em_make0 (px : ∀ σ, PassesAt (L2.CX X.prog X.w) X σ (_root_.L2.WE W σ)) (M : MkM X.prog X.w X.K X.mg X.base k x n mf dvs dds []) (hr : Room (k + 1) X.A) (hg : Gl X x)
    (hdb : (x == ("__debug__" : Str)) = false := by decide) :
    EM X W (.Call (.Name x p) [] [] pos) (tMk X.K X.mg x n mf dvs (fun σ cls d H => W cls d σ H) tNil) (mMake x n mf dds mNil) := by
  obtain ⟨C, f, fd, ps, ds, h1, h2, h3, h4, h5, h6⟩ := M.ex
  exact ⟨pe_mk0 M hr hg px hdb, make_s h3 M.dd am_nil.s⟩
/-- one keyword alone -/
theorem em_makeK (px : ∀ σ, PassesAt (L2.CX X.prog X.w) X σ (_root_.L2.WE W σ)) (M : MkM X.prog X.w X.K X.mg X.base k x n mf dvs dds kw) (hr : Room (k + 1) X.A) (hg : Gl X x) (he : EM X W e te me) (hk1 : kw.length = 1) (hst : starEach (e :: []) X.env = (false, eval e X.env) :: starEach [] X.env := by rfl)
    (hall : (backToKw pos (keywordEach [⟨nm, e, kpos⟩] X.env)).all (·.1.isSome) = true := by rfl) (hks : (backToKw pos (keywordEach [⟨nm, e, kpos⟩] X.env)).filterMap (·.1) = kw := by rfl) (hdb : (x == ("__debug__" : Str)) = false := by decide)
    (hpl : ((backTo pos (starEach [] X.env)).any (·.1) || (backToKw pos (keywordEach [⟨nm, e, kpos⟩] X.env)).any (·.1.isNone)) = false := by rfl) :
    EM X W (.Call (.Name x p) [] [⟨nm, e, kpos⟩] pos) (tMk X.K X.mg x n mf dvs (fun σ cls d H => W cls d σ H) (tCons te tNil)) (mMake x n mf dds (mCons me mNil)) := by
  obtain ⟨C, f, fd, ps, ds, h1, h2, h3, h4, h5, h6⟩ := M.ex
  have a0 : AM X W (e :: []) (tCons te tNil) (mCons me mNil) := am_cons he am_nil hst
  exact ⟨pe_mkK M hr hg px he.p hk1 hall hks hdb hpl, make_s h3 M.dd a0.s⟩
end
/-! ### isinstance of an object -/
structure InsC (K : PySem.W.Frag) (C : Addr) : Prop where
  cl : Cls K C
  ha : PySem.W.findIn K (.ref C) "__class__" = some (some (.builtin "object.__class__"))
  hn : PySem.W.specialIn K (.builtin "object.__class__") "__get__" = some (some (.builtin "getset_descriptor.__get__"))
  htk : PySem.W.takesIn K (.builtin "object.__class__") = some true
  hm : PySem.W.mroIn K C (.type "object") = some true
def IsO (K : PySem.W.Frag) (mg : Str → Option Value) (t : Str) (tab : List (Str × Bool)) : Prop :=
  ∃ T, mg t = some (.ref T) ∧ ∀ p ∈ tab, ∃ C, PySem.W.nsIn K mainGlobals p.1 = some (some (.ref C)) ∧ InsC K C ∧ PySem.W.kitOne K (.ref C) (.ref T) = some p.2
def mIsO (tab : List (Str × Bool)) (e : ME) : ME := fun ρ => (e ρ).bind fun c => match c.d with
  | .obj cls _ => (match lookX tab cls with | some b => .ok (sh (.bl b)) | none => .bad)
  | _ => .bad
section
variable {X : Cx} {W : WX} {a : Expr} {ta : TE} {ma : ME} {p p2 pos : Pos} {t : Str}
theorem em_isO (tab : List (Str × Bool)) (T : IsO X.K X.mg t tab) (hg : Gl X "isinstance") (hm : X.mg "isinstance" = none) (hgt : Gl X t) (hdb : (t == ("__debug__" : Str)) = false) (ha : EM X W a ta ma)
    (he : starEach [a, .Name t p2] X.env = (false, eval a X.env) :: starEach [.Name t p2] X.env := by rfl) (he2 : starEach [.Name t p2] X.env = (false, eval (.Name t p2) X.env) :: starEach [] X.env := by rfl) (hpl : (backTo pos (starEach [.Name t p2] X.env)).any (·.1) = false := by rfl) :
    EM X W (.Call (.Name "isinstance" p) [a, .Name t p2] [] pos) (tCB (rIsi X.K) (tCons ta (tCons (tC (.ref T.choose)) tNil))) (mIsO tab ma) := by
  obtain ⟨h1, h2⟩ := T.choose_spec
  refine ⟨pe_callB call_isi hg hm (by decide +kernel) (pa_cons ha.p (pa_cons (pe_glob hgt h1 rfl hdb) pa_nil he2) he) (by decide) (by decide) he hpl, ?_⟩
  intro ρ Q XQ w S Fl F H σ tc tv Q' ev r0 k kx
  simp only [we_, mIsO, wR_bind] at w
  refine ha.s ρ _ XQ w S Fl F H σ tc tv _ ev r0 (fun c v S1 H1 q e1 r1 => ?_) kx
  have hv := r1.sh
  have r1' := r1
  split at q
  · next cls fs hd =>
    split at q
    · next b hb =>
      rw [hd] at hv
      obtain ⟨C, n, E, kt⟩ := h2 _ (lookX_mem hb)
      cases hv with
      | @obj a' C' dx _ vs _ n' g2 g3 =>
        rw [n] at n'
        cases n'
        exact ⟨.ref a', .ref T.choose, .ref C, .ref T.choose, b, rfl, .own _, .base (.ins g2 E.cl E.ha E.hn E.htk E.hm), kt, k _ _ S1 H1 q e1 (r1.tail.push (.bl _))⟩
    · exact q.elim
  · exact q.elim
end
/-! ### how a maker binds -/
theorem MkM.b0 {K : PySem.W.Frag} {fd : FuncData} {ps : List Str} {ds : List Value} (hb : Binds K fd ps ds) :
    ∀ (s : Shared) (self : Value) (us ws : List Value), K.In s.heap → ws.length = ([] : List Str).length → (self :: (us ++ (ws ++ ds))).length = ps.length → BindsTo s fd ⟨self :: us, ([] : List Str).zip ws⟩ (ps.zip (self :: (us ++ (ws ++ ds)))) := by
  intro s self us ws X hw hl
  cases ws with
  | nil => exact hb s (self :: us) X hl
  | cons _ _ => cases hw
theorem FunD.mkK {K : PySem.W.Frag} {x qual : Str} {params : Arguments} {body : List Stmt} {scope : Scope} {dvs : List V} {f : Addr} {fd : FuncData} {ps kw : List Str} (F : FunD K x qual params body scope dvs [] f fd) (m : Nat) (hm : m + 1 + kw.length = ps.length) (hd : dvs ≠ [])
    (h : ∀ (T : Addr) (kV doc pm : Value) (an : Option Addr) (cdv ct : Value) (self : Value) (us ws its : List Value), us.length = m → ws.length = kw.length → its.length = dvs.length →
      ∃ k, bindArgs (PySem.W.fnOf x qual params body scope (.ref T) kV doc pm an cdv ct) ⟨self :: us, kw.zip ws⟩ = seqItems? (.ref T) >>= k ∧ k (some its.toArray) = pure (ps.zip (self :: (us ++ ws)))) :
    ∀ (s : Shared) (self : Value) (us ws : List Value), K.In s.heap → ws.length = kw.length → (self :: (us ++ (ws ++ []))).length = ps.length → BindsTo s fd ⟨self :: us, kw.zip ws⟩ (ps.zip (self :: (us ++ (ws ++ [])))) := by
  obtain ⟨oc, od, dV, kV, doc, pm, an, cdv, ct, osl, rfl, lk, hcd, hD, hK⟩ := F.ex
  rcases hD with ⟨e, _⟩ | ⟨_, T, o, its, m, rfl, lT, oT, rT⟩
  · exact absurd e hd
  · intro s self us ws X hw hl
    rw [List.append_nil] at hl ⊢
    obtain ⟨k, e1, e2⟩ := h T kV doc pm an cdv ct self us ws its (by rw [List.length_cons, List.length_append] at hl; omega) hw rT.length.symm
    refine BindsTo.of_looks fun M => ?_
    rw [e1]
    exact looks_items X lT oT (.of_pure e2)
end VL
set_option maxRecDepth 100000
/-! YN: evaluation of the words for objects. -/
namespace VL
open PySem L2
variable [TB : Tbs]
section
variable {ρ : Env}
theorem fldF_nil (f : Str) : fldF [] f = none := rfl
theorem fldF_cons (g f : Str) (x : Nat × D) (r : List (Str × Nat × D)) : fldF ((g, x) :: r) f = if g = f then some x else fldF r f := rfl
theorem setF_nil (f : Str) (y : Nat × D) : setF [] f y = [(f, y)] := rfl
theorem setF_cons (g f : Str) (x y : Nat × D) (r : List (Str × Nat × D)) : setF ((g, x) :: r) f y = if g = f then (g, y) :: r else (g, x) :: setF r f y := rfl
theorem hasX_nil (x : Str) : hasX [] x = false := rfl
theorem hasX_cons (c x : Str) (r : List Str) : hasX (c :: r) x = if c = x then true else hasX r x := by
  unfold hasX
  rw [List.any_cons]
  by_cases h : c = x <;> simp [h]
theorem lookX_cons (c x : Str) (b : Bool) (r : List (Str × Bool)) : lookX ((c, b) :: r) x = if c = x then some b else lookX r x := by
  unfold lookX
  rw [List.find?_cons]
  by_cases h : c = x <;> simp [h]
theorem lookM_cons (c x : Str) (mf : MFn) (r : List (Str × MFn)) : lookM ((c, mf) :: r) x = if c = x then some mf else lookM r x := by
  unfold lookM
  rw [List.find?_cons]
  by_cases h : c = x <;> simp [h]
theorem fldC_0 (c : Cell) (d : D) : Cell.fldC c 0 d = ⟨.o, 0, d⟩ := rfl
theorem fldC_l (n k : Nat) (e d : D) : Cell.fldC ⟨.l, n + 1, e⟩ (k + 1) d = ⟨.l, k + 1, d⟩ := rfl
theorem fldC_o (n k : Nat) (e d : D) : Cell.fldC ⟨.o, n + 1, e⟩ (k + 1) d = ⟨.o, k + 1, d⟩ := rfl
theorem fldC_p (n k : Nat) (e d : D) : Cell.fldC ⟨.p, n + 1, e⟩ (k + 1) d = ⟨.p, k + 1, d⟩ := rfl
theorem fldC_z (b : Bm) (k : Nat) (e d : D) : Cell.fldC ⟨b, 0, e⟩ k d = ⟨.o, 0, d⟩ := by cases k <;> rfl
theorem x_fldO (tab : List Str) (f : Str) (e : ME) : mFldO tab f e ρ = (e ρ).bind fun c => match c.d with
  | .obj cls fs => if hasX tab cls = true then (match fldF fs f with | some (k, d) => .ok (c.fldC k d) | none => .bad) else .bad
  | .pob cls fs => if hasX tab cls = true then (match fldX fs f with | some d => .ok (sh d) | none => .bad) else .bad
  | _ => .bad := rfl
theorem x_isO (tab : List (Str × Bool)) (e : ME) : mIsO tab e ρ = (e ρ).bind fun c => match c.d with
  | .obj cls _ => (match lookX tab cls with | some b => .ok (sh (.bl b)) | none => .bad)
  | _ => .bad := rfl
theorem outR_ok (m : Nat) (d : D) (ds : List D) : outR (.ok m d ds) = .ok (own m d) := rfl
theorem outR_ex (x : Exn) (ds : List D) : outR (.ex x ds) = .ex x := rfl
theorem x_meth (m : Str) (n : Nat) (tab : List (Str × MFn)) (dds : List D) (o : ME) (a : MA) : mMeth m n tab dds o a ρ = (o ρ).bind fun c => match c.d with
  | .obj cls fs => (match lookM tab cls, fldF fs m with
    | some mf, none => (a ρ).bind fun cs => if cs.length + 1 + dds.length = n then outR (mf ((c :: cs).map Cell.lend ++ dds.map sh)) else .bad
    | _, _ => .bad)
  | _ => .bad := rfl
def mkR (r : FR) : R Cell := match r with
  | .ok _ .non [d0] => .ok (own 1 d0)
  | .ex y _ => .ex y
  | _ => .bad
theorem mkR_ok (m : Nat) (d0 : D) : mkR (.ok m .non [d0]) = .ok (own 1 d0) := rfl
theorem mkR_ex (x : Exn) (ds : List D) : mkR (.ex x ds) = .ex x := rfl
theorem x_make (x : Str) (n : Nat) (mf : MFn) (dds : List D) (a : MA) : mMake x n mf dds a ρ = (a ρ).bind fun cs => if cs.length + 1 + dds.length = n then mkR (mf (⟨.m 0, 1, .obj x []⟩ :: (cs.map Cell.lend ++ dds.map sh))) else .bad := rfl
def mFo (rb : D → Env) (r : FR) : RF Cell := match r with
  | .ok k d [d0] => .ok (own k d) (rb d0)
  | .ex x [d0] => .ex x (rb d0)
  | _ => .bad
theorem mFo_ok (rb : D → Env) (k : Nat) (d d0 : D) : mFo rb (.ok k d [d0]) = .ok (own k d) (rb d0) := rfl
theorem mFo_ex (rb : D → Env) (x : Exn) (d0 : D) : mFo rb (.ex x [d0]) = .ex x (rb d0) := rfl
theorem x_fMeth (m : Str) (n : Nat) (tab : List (Str × MFn)) (dds : List D) (r : MRc) (a : MA) : fMeth m n tab dds r a ρ = match r ρ with
  | .ok (nn, .obj cls fs, rb) => (match lookM tab cls, fldF fs m with
    | some mf, none => (match a ρ with
      | .ok cs => if cs.all Cell.nl = true ∧ cs.length + 1 + dds.length = n then mFo rb (mf (⟨.m 0, nn, .obj cls fs⟩ :: (cs.map Cell.lend ++ dds.map sh))) else .bad
      | .ex x => .ex x ρ
      | .bad => .bad)
    | _, _ => .bad)
  | .ex x => .ex x ρ
  | _ => .bad := rfl
theorem r_rxVar (i : Nat) : rxVar i ρ = match ρ[i]? with
  | some (some ⟨b, n + 1, d⟩) => if b.mut = true ∧ d.isR = true then .ok (n + 1, d, fun d' => ρ.set i (some ⟨b, n + 1, d'⟩)) else .bad
  | _ => .bad := rfl
theorem r_rxFld (tab : List Str) (f : Str) (r : MRc) : rxFld tab f r ρ = (r ρ).bind fun p => match p with
  | (_ + 1, .obj cls fs, rb) => if hasX tab cls = true then (match fldF fs f with
    | some (k + 1, d) => if d.isR = true then .ok (k + 1, d, fun d' => rb (.obj cls (setF fs f (k + 1, d')))) else .bad
    | _ => .bad) else .bad
  | _ => .bad := rfl
theorem r_rxIx (r : MRc) (k : ME) : rxIx r k ρ = (r ρ).bind fun p => match p with
  | (n + 2, e, rb) => (k ρ).bind fun ck => (match rxTo e ck with
    | some (d, f) => .ok (n + 1, d, fun d' => rb (f d'))
    | none => .bad)
  | _ => .bad := rfl
theorem rxTo_l (ds : List D) (b : Bm) (n : Nat) (z : Int) : rxTo (.lst ds) ⟨b, n, .int z⟩ = match ixN ds.length z with
  | some j => (match ds[j]? with | some d => if d.isR = true then some (d, fun d' => .lst (ds.set j d')) else none | none => none)
  | none => none := rfl
theorem isR_obj (c : Str) (fs : List (Str × Nat × D)) : D.isR (.obj c fs) = true := rfl
theorem isR_lst (ds : List D) : D.isR (.lst ds) = true := rfl
theorem isR_tup (ds : List D) : D.isR (.tup ds) = true := rfl
theorem isR_dK (ds : List (Key × D)) : D.isR (.dK ds) = true := rfl
theorem y_fldS (tab : List Str) (i : Nat) (f : Str) (e : MF) : sFldS tab i f e ρ = ofRF (e ρ) fun c ρ1 => match c with
  | ⟨.o, k, d⟩ => (match ρ1[i]? with
    | some (some ⟨b, n + 1, .obj cls fs⟩) => if b.mut = true ∧ hasX tab cls = true ∧ fs.length < 900 then .nx (ρ1.set i (some ⟨b, n + 1, .obj cls (setF fs f (k, d))⟩)) else .bad
    | _ => .bad)
  | _ => .bad := rfl
theorem item_l2 (n : Nat) (d x : D) : Cell.item ⟨.l, n + 2, d⟩ x = ⟨.l, n + 1, x⟩ := rfl
theorem item_o2 (n : Nat) (d x : D) : Cell.item ⟨.o, n + 2, d⟩ x = ⟨.o, n + 1, x⟩ := rfl
theorem item_p2 (n : Nat) (d x : D) : Cell.item ⟨.p, n + 2, d⟩ x = ⟨.p, n + 1, x⟩ := rfl
theorem fldC_ln0 (k : Nat) (e d : D) : Cell.fldC (ln 0 e) k d = ⟨.o, 0, d⟩ := by cases k <;> rfl
theorem fldC_ln1 (n k : Nat) (e d : D) : Cell.fldC (ln (n + 1) e) (k + 1) d = ln (k + 1) d := rfl
end
end VL
set_option maxRecDepth 100000
/-! YO: xs.clear(). -/
namespace VL
open PySem L2
variable [TB : Tbs]
def clearM : MM := fun _ e cs => match e, cs with
  | .lst _, [] => some (⟨.o, 0, .non⟩, .lst [])
  | _, _ => none
def mClear : WM := fun _ e cs Q => (∃ ds, e = .lst ds) ∧ cs = [] ∧ Q ⟨.o, 0, .non⟩ (.lst [])
theorem ok_clear {K : PySem.W.Frag} : MutOk K rClear mClear := by
  rintro m e cs Q ⟨⟨ds, rfl⟩, rfl, q⟩ S Fl F R H b Lf vs La Q' o t hr k
  cases t
  cases o with
  | @lst n ad ws ds' L hz' h =>
    have hm := hr.all (b, .lst ws) (List.mem_append_left _ List.mem_cons_self)
    refine ⟨b, _, rfl, rfl, hm, ?_⟩
    refine k _ .non _ S _ [(b, HO.lst [])] [] q (Same.refl S) (.lst (Nat.zero_le _) .nil) (.o (.sh .non)) ?_
    have h2 := hr.put (o' := .lst [])
    refine h2.sub ?_
    simp only [List.nil_append, List.cons_append]
    refine List.Sublist.cons_cons _ ?_
    first
      | exact List.sublist_append_right _ _
      | (rw [List.append_nil]; exact List.sublist_append_right _ _)
theorem mm_clear {K : PySem.W.Frag} : MutM K rClear clearM := ⟨_, ok_clear, fun m e cs c e' h Q q => by
  unfold clearM at h
  split at h
  · next ds =>
    cases h
    exact ⟨⟨_, rfl⟩, rfl, q⟩
  · cases h⟩
end VL
set_option maxRecDepth 100000
set_option maxHeartbeats 4000000
namespace Toy
open PySem L2 VL
instance tbsI : VL.Tbs where
  T := []
theorem cx_NoFigure : hasX ["NoFigure", "NoTurn"] "NoFigure" = true ∧ lookX [("NoFigure", false), ("NoTurn", true)] "NoFigure" = some false ∧ lookX [("NoFigure", true), ("NoTurn", false)] "NoFigure" = some true ∧ lookX [("NoFigure", true), ("NoTurn", true)] "NoFigure" = some true := by decide +kernel
theorem cx_NoTurn : hasX ["NoFigure", "NoTurn"] "NoTurn" = true ∧ lookX [("NoFigure", false), ("NoTurn", true)] "NoTurn" = some true ∧ lookX [("NoFigure", true), ("NoTurn", false)] "NoTurn" = some false ∧ lookX [("NoFigure", true), ("NoTurn", true)] "NoTurn" = some true := by decide +kernel
theorem nf_dialled_listing : (("dialled" : Str) = ("listing" : Str)) = False := eq_false (by decide)
theorem nf_listing_dialled : (("listing" : Str) = ("dialled" : Str)) = False := eq_false (by decide)
theorem nm_dialled_group : (("dialled" : Str) = ("group" : Str)) = False := eq_false (by decide)
theorem nm_dialled_numbers : (("dialled" : Str) = ("numbers" : Str)) = False := eq_false (by decide)
theorem nm_dialled_turn : (("dialled" : Str) = ("turn" : Str)) = False := eq_false (by decide)
theorem nm_dialled_word : (("dialled" : Str) = ("word" : Str)) = False := eq_false (by decide)
theorem nm_listing_group : (("listing" : Str) = ("group" : Str)) = False := eq_false (by decide)
theorem nm_listing_numbers : (("listing" : Str) = ("numbers" : Str)) = False := eq_false (by decide)
theorem nm_listing_turn : (("listing" : Str) = ("turn" : Str)) = False := eq_false (by decide)
theorem nm_listing_word : (("listing" : Str) = ("word" : Str)) = False := eq_false (by decide)
noncomputable def s_is_figure : MS := (sRet (mAndV (mUn (isiU "str") (mVar 0)) (mAndV (mOp (eqM false) (mCB lenM (mCons (mVar 0) mNil)) (mC (.int 1))) ((mOp (inM false) (mVar 0) (mC (.str "0123456789")))))))
noncomputable def f_is_figure : MFn := mfOf s_is_figure 1
noncomputable def s_Finder___init__ : MS := (sSeq (sFldS ["Finder"] 0 "listing" (fPure (mCB listM (mCons (mVar 1) mNil)))) (sFldS ["Finder"] 0 "dialled" (fPure (mC (.str "")))))
noncomputable def f_Finder___init__ : MFn := mfOf s_Finder___init__ 2
noncomputable def s_Finder_numbers : MS := (sRet (mLc 0 (miSeq (mFldO ["Finder"] "listing" (mVar 0))) (gmName 1) (mTst (mTx stwX (mOp ixU (mVar 1) (mC (.int 0))) (mFldO ["Finder"] "dialled" (mVar 0)))) (mOp ixU (mVar 1) (mC (.int 0))) [1]))
noncomputable def f_Finder_numbers : MFn := mfOf s_Finder_numbers 2
noncomputable def s_Finder_word : MS := (sSeq (sAsg (mMeth "numbers" 1 [("Finder", f_Finder_numbers)] [] (mVar 0) mNil) (gmName 1)) (sFrz 1 (sSeq (sIf (mTst (mOp (eqM false) (mVar 1) (mLst 0 mNil))) (sRet (mC (.str "nowhere"))) (sNext)) (sSeq (sIf (mTst (mOp (eqM false) (mOp ixU (mVar 1) (mC (.int 0))) (mFldO ["Finder"] "dialled" (mVar 0)))) (sRet (mC (.str "there"))) (sNext)) (sRet (mC (.str "on")))))))
noncomputable def f_Finder_word : MFn := mfOf s_Finder_word 2
noncomputable def s_Finder_turn : MS := (sSeq (sIf (mNot (mTst (mCall 1 f_is_figure [] (mCons (mVar 1) mNil)))) (sRaise "NoFigure") (sNext)) (sSeq (sIf (mTst (mOp (eqM true) (mMeth "word" 1 [("Finder", f_Finder_word)] [] (mVar 0) mNil) (mC (.str "on")))) (sRaise "NoTurn") (sNext)) (sSeq (sFldS ["Finder"] 0 "dialled" (fPure (mOp addM (mFldO ["Finder"] "dialled" (mVar 0)) (mVar 1)))) (sRet (mMeth "word" 1 [("Finder", f_Finder_word)] [] (mVar 0) mNil)))))
noncomputable def f_Finder_turn : MFn := mfOf s_Finder_turn 2
noncomputable def b_Finder_group_1 : MS := (sIf (mTst (mOp (eqM false) (mVar 1) (mFldO ["Finder"] "dialled" (mVar 0)))) (sRet (mVar 2)) (sNext))
noncomputable def s_Finder_group : MS := (sSeq (sFor [1, 2] (miSeq (mFldO ["Finder"] "listing" (mVar 0))) (gmTup 2 (gmCons (gmName 1) (gmCons (gmName 2) gmNil))) b_Finder_group_1) (sRet (mC .non)))
noncomputable def f_Finder_group : MFn := mfOf s_Finder_group 3
noncomputable def s_L_cell_at : MS := (sSeq (sIf (mTst (mOp ltM (mVar 1) (mCB lenM (mCons (mVar 0) mNil)))) (sRet (mOp ixU (mVar 0) (mVar 1))) (sNext)) (sRet (mC (.int 0))))
noncomputable def f_L_cell_at : MFn := mfOf s_L_cell_at 2
noncomputable def s_L_mixed : MS := (sRet (mOp modM (mOp mulM (mOp addM (mOp modM (mVar 0) (mC (.int 2147483647))) (mC (.int 11))) (mOp addM (mC (.int 48271)) (mOp mulM (mOp mulM (mC (.int 2)) (mVar 1)) (mVar 1)))) (mC (.int 2147483629))))
noncomputable def f_L_mixed : MFn := mfOf s_L_mixed 2
noncomputable def b_L_book_1 : MS := (sSeq (sAsg (mSlT (mC (.str "04")) moNone (moSome (mOp modM (mOp addM (mOp divM (mVar 0) (mC (.int 60))) (mOp mulM (mVar 3) (mVar 3))) (mC (.int 3))))) (gmName 4)) (sFrz 4 (sSeq (sAsg (mOp addM (mOp addM (mVar 1) (mSlT (mCB strM (mCons (mOp addM (mC (.int 100)) (mOp modM (mOp addM (mOp mulM (mVar 3) (mC (.int 37))) (mOp divM (mVar 0) (mC (.int 180)))) (mC (.int 100)))) mNil)) (moSome (mC (.int 1))) moNone)) (mVar 4)) (gmName 5)) (sFrz 5 (sDropF (fMut "list" 2 (faPure (mCons (mTup 0 (mCons (mVar 5) (mCons (mSl (mTup 0 (mCons (mVar 3) (mCons (mOp addM (mOp addM (mC (.int 40)) (mOp modM (mOp divM (mVar 0) (mC (.int 7))) (mC (.int 9)))) (mVar 3)) mNil))) moNone (moSome (mOp addM (mC (.int 1)) (mOp modM (mVar 3) (mC (.int 2)))))) mNil))) mNil)) appendM))))))
noncomputable def s_L_book : MS := (sSeq (sAsg (mSlT (mC (.str "91750")) moNone (moSome (mOp modM (mVar 0) (mC (.int 5))))) (gmName 1)) (sFrz 1 (sSeq (sAsg (mLst 0 mNil) (gmName 2)) (sSeq (sFor [3, 4, 5] (miRange1 (mCons (mOp addM (mC (.int 1)) (mOp modM (mOp divM (mVar 0) (mC (.int 5))) (mC (.int 12)))) mNil)) (gmName 3) b_L_book_1) (sRetF (fMv 2))))))
noncomputable def f_L_book : MFn := mfOf s_L_book 6
noncomputable def s_L_where : MS := (sSeq (sAsg (mLc 0 (miSeq (mVar 0)) (gmName 3) (mTst (mOp (eqM false) (mSlT (mOp ixU (mVar 3) (mC (.int 0))) moNone (moSome (mCB lenM (mCons (mVar 1) mNil)))) (mVar 1))) (mOp ixU (mVar 3) (mC (.int 0))) [3]) (gmName 2)) (sFrz 2 (sSeq (sIf (mTst (mOp (eqM false) (mVar 2) (mLst 0 mNil))) (sRet (mC (.str "nowhere"))) (sNext)) (sSeq (sIf (mTst (mOp (inM false) (mVar 1) (mVar 2))) (sRet (mC (.str "there"))) (sNext)) (sRet (mC (.str "on")))))))
noncomputable def f_L_where : MFn := mfOf s_L_where 4
noncomputable def b_L_looks_1 : MS := (sIf (mTst (mOp (eqM false) (mOp ixU (mVar 4) (mC (.int 0))) (mVar 2))) (sAsg (mOp ixU (mVar 4) (mC (.int 1))) (gmName 6)) (sNext))
noncomputable def s_L_looks : MS := (sSeq (sAsg (mLc 0 (miSeq (mVar 1)) (gmName 4) (mTst (mOp (eqM false) (mSlT (mOp ixU (mVar 4) (mC (.int 0))) moNone (moSome (mCB lenM (mCons (mVar 2) mNil)))) (mVar 2))) (mOp ixU (mVar 4) (mC (.int 0))) [4]) (gmName 5)) (sFrz 5 (sSeq (sAsg (mC .non) (gmName 6)) (sSeq (sFor [1, 4, 7, 8] (miSeq (mVar 1)) (gmName 4) b_L_looks_1) (sSeq (sAsg (mC .non) (gmName 7)) (sSeq (sIf (mTst (mVar 3)) (sAsg (mMeth "group" 1 [("Finder", f_Finder_group)] [] (mVar 0) mNil) (gmName 7)) (sNext)) (sSeq (sAsg (mMeth "numbers" 1 [("Finder", f_Finder_numbers)] [] (mVar 0) mNil) (gmName 8)) (sSeq (sIf (mNot (mTst (mVar 3))) (sAsg (mMeth "group" 1 [("Finder", f_Finder_group)] [] (mVar 0) mNil) (gmName 7)) (sNext)) (sSeq (sIf (mOr (mNot (mTst (mUn (isiU "list") (mVar 8)))) ((mTst (mOp (eqM true) (mVar 8) (mVar 5))))) (sRet (mC (.bl false))) (sNext)) (sSeq (sDropF (fMut "list" 8 (faPure (mCons (mVar 2) mNil)) appendM)) (sSeq (sIf (mTst (mOp (isM false) (mVar 6) (mC .non))) (sRet (mOp (isM false) (mVar 7) (mC .non))) (sNext)) (sRet (mAndV (mUn (isiU "tuple") (mVar 7)) ((mOp (eqM false) (mVar 7) (mVar 6))))))))))))))))
noncomputable def f_L_looks : MFn := mfOf s_L_looks 9
noncomputable def s_L_refused : MS := (sSeq (sAsg (mC .non) (gmName 2)) (sSeq (sTry ["NoFigure", "NoTurn"] 3 (sDropF (fMeth "turn" 2 [("Finder", f_Finder_turn)] [] (rxVar 0) (mCons (mVar 1) mNil))) (sAsg (mVar 3) (gmName 2))) (sSeq (sIf (mOr (mTst (mOp (isM false) (mVar 2) (mC .non))) ((mNot (mTst (mIsX [("NoFigure", true), ("NoTurn", true)] (mVar 2)))))) (sRet (mC (.str "none"))) (sNext)) (sSeq (sIf (mAnd (mTst (mIsX [("NoFigure", true), ("NoTurn", false)] (mVar 2))) ((mNot (mTst (mIsX [("NoFigure", false), ("NoTurn", true)] (mVar 2)))))) (sRet (mC (.str "figure"))) (sNext)) (sSeq (sIf (mAnd (mTst (mIsX [("NoFigure", false), ("NoTurn", true)] (mVar 2))) ((mNot (mTst (mIsX [("NoFigure", true), ("NoTurn", false)] (mVar 2)))))) (sRet (mC (.str "turn"))) (sNext)) (sRet (mC (.str "odd"))))))))
noncomputable def f_L_refused : MFn := mfOf s_L_refused 4
noncomputable def s_L_new : MS := (sSeq (sAsg (mCB listM (mCons (mVar 0) mNil)) (gmName 1)) (sSeq (sAsg (mMake "Finder" 2 f_Finder___init__ [] (mCons (mVar 1) mNil)) (gmName 2)) (sSeq (sDropF (fMut "list" 1 faNil clearM)) (sRetF (fMv 2)))))
noncomputable def f_L_new : MFn := mfOf s_L_new 3
noncomputable def b_L_figures_by_1 : MS := (sSeq (sAsg (mOp addM (mVar 1) (mCB strM (mCons (mOp modM (mVar 0) (mC (.int 10))) mNil))) (gmName 1)) (sAsg (mOp divM (mVar 0) (mC (.int 10))) (gmName 0)))
noncomputable def s_L_figures_by : MS := (sSeq (sAsg (mC (.str "")) (gmName 1)) (sSeq (sAsg (mOp addM (mC (.int 1)) (mOp modM (mVar 0) (mC (.int 8)))) (gmName 2)) (sSeq (sAsg (mOp divM (mVar 0) (mC (.int 8))) (gmName 0)) (sSeq (sFor [2, 3] (miRange1 (mCons (mVar 2) mNil)) (gmName 3) b_L_figures_by_1) (sRet (mTup 0 (mCons (mVar 1) (mCons (mVar 0) mNil))))))))
noncomputable def f_L_figures_by : MFn := mfOf s_L_figures_by 4
noncomputable def b_L_book_by_1 : MS := (sSeq (sDropF (fMut "list" 9 (faCons (fMut "list" 4 (faPure (mCons (mOp modM (mVar 3) (mCB lenM (mCons (mVar 4) mNil))) mNil)) popAtM) faNil) appendM)) (sAsg (mOp divM (mVar 3) (mOp addM (mCB lenM (mCons (mVar 4) mNil)) (mC (.int 1)))) (gmName 3)))
noncomputable def b_L_book_by_2 : MS := (sSeq (sAsg (mCall 1 f_L_figures_by [] (mCons (mVar 3) mNil)) (gmTup 2 (gmCons (gmName 8) (gmCons (gmName 3) gmNil)))) (sSeq (sAsg (mLst 0 mNil) (gmName 9)) (sSeq (sAsg (mOp addM (mC (.int 1)) (mOp modM (mVar 3) (mVar 1))) (gmName 10)) (sSeq (sAsg (mOp divM (mVar 3) (mVar 1)) (gmName 3)) (sSeq (sFor [0, 2, 6, 7, 10, 11, 12] (miRange1 (mCons (mCB min2M (mCons (mVar 10) (mCons (mCB lenM (mCons (mVar 4) mNil)) mNil))) mNil)) (gmName 11) b_L_book_by_1) (sFrz 9 (sSeq (sAsg (mLc 0 (miSeq (mVar 5)) (gmTup 2 (gmCons (gmName 13) (gmCons (gmName 14) gmNil))) (mOr (mTst (mOp (eqM false) (mSlT (mVar 13) moNone (moSome (mCB lenM (mCons (mVar 8) mNil)))) (mVar 8))) ((mTst (mOp (eqM false) (mSlT (mVar 8) moNone (moSome (mCB lenM (mCons (mVar 13) mNil)))) (mVar 13))))) (mVar 13) [13, 14]) (gmName 12)) (sFrz 12 (sIf (mAnd (mTst (mOp (eqM true) (mVar 9) (mLst 0 mNil))) ((mTst (mOp (eqM false) (mVar 12) (mLst 0 mNil))))) (sDropF (fMut "list" 5 (faPure (mCons (mTup 0 (mCons (mVar 8) (mCons (mCB tupleM (mCons (mVar 9) mNil)) mNil))) mNil)) appendM)) (sNext))))))))))
noncomputable def s_L_book_by : MS := (sSeq (sAsg (mCB absM (mCons (mVar 2) mNil)) (gmName 3)) (sSeq (sAsg (mListR1 (mVar 0)) (gmName 4)) (sSeq (sAsg (mLst 0 mNil) (gmName 5)) (sSeq (sAsg (mOp addM (mC (.int 1)) (mOp modM (mVar 3) (mC (.int 9)))) (gmName 6)) (sSeq (sAsg (mOp divM (mVar 3) (mC (.int 9))) (gmName 3)) (sSeq (sFor [0, 2, 6, 7, 8, 9, 10, 11, 12] (miRange1 (mCons (mVar 6) mNil)) (gmName 7) b_L_book_by_2) (sRetF (fMv 5))))))))
noncomputable def f_L_book_by : MFn := mfOf s_L_book_by 15
noncomputable def b_law_1 : MS := (sSeq (sAsg (mCall 2 f_L_mixed [] (mCons (mOp ixU (mVar 0) (mVar 7)) (mCons (mVar 7) mNil))) (gmName 8)) (sSeq (sIf (mNot (mTst (mCall 4 f_L_looks [] (mCons (mVar 4) (mCons (mVar 3) (mCons (mVar 5) (mCons (mOp (eqM false) (mOp modM (mOp divM (mVar 8) (mC (.int 7))) (mC (.int 2))) (mC (.int 1))) mNil))))))) (sRet (mC (.bl false))) (sNext)) (sSeq (sIf (mTst (mOp (eqM false) (mOp modM (mVar 8) (mC (.int 12))) (mC (.int 0)))) (sSeq (sAsg (mOp ixU (mLst 0 (mCons (mC (.str "")) (mCons (mC (.str "12")) (mCons (mC (.str "a")) (mCons (mC (.int 7)) (mCons (mC .non) (mCons (mC (.bl true)) (mCons (mLst 0 (mCons (mC (.str "1")) mNil)) (mCons (mC (.str " ")) (mCons (mC (.str "-")) mNil)))))))))) (mOp modM (mOp divM (mVar 8) (mC (.int 12))) (mC (.int 9)))) (gmName 9)) (sIfF (ftTst (fOp (eqM true) (fCall 2 f_L_refused [] (frIo 4 (frC (fPure (mVar 9)) frNil))) (fPure (mC (.str "figure"))))) (sRet (mC (.bl false))) (sNext))) (sNext)) (sSeq (sAsg (mCB strM (mCons (mOp modM (mOp divM (mVar 8) (mC (.int 108))) (mC (.int 10))) mNil)) (gmName 10)) (sSeq (sIf (mAnd (mTst (mOp gtM (mOp modM (mVar 8) (mC (.int 4))) (mC (.int 0)))) (mAnd (mTst (mOp ltM (mCB lenM (mCons (mVar 5) mNil)) (mCB lenM (mCons (mVar 6) mNil)))) ((mTst (mOp (eqM false) (mSlT (mVar 6) moNone (moSome (mCB lenM (mCons (mVar 5) mNil)))) (mVar 5)))))) (sAsg (mOp ixU (mVar 6) (mCB lenM (mCons (mVar 5) mNil))) (gmName 10)) (sNext)) (sIf (mTst (mOp (eqM false) (mCall 2 f_L_where [] (mCons (mVar 3) (mCons (mVar 5) mNil))) (mC (.str "on")))) (sSeq (sAsg (mOp addM (mVar 5) (mVar 10)) (gmName 5)) (sIfF (ftTst (fOp (eqM true) (fMeth "turn" 2 [("Finder", f_Finder_turn)] [] (rxVar 4) (mCons (mVar 10) mNil)) (fPure (mCall 2 f_L_where [] (mCons (mVar 3) (mCons (mVar 5) mNil)))))) (sRet (mC (.bl false))) (sNext))) (sSeq (sIfF (ftOr (ftTst (fOp (eqM true) (fCall 2 f_L_refused [] (frIo 4 (frC (fPure (mVar 10)) frNil))) (fPure (mC (.str "turn"))))) (ftPure (mNot (mTst (mCall 4 f_L_looks [] (mCons (mVar 4) (mCons (mVar 3) (mCons (mVar 5) (mCons (mC (.bl true)) mNil))))))))) (sRet (mC (.bl false))) (sNext)) (sSeq (sAsg (mCall 1 f_L_new [] (mCons (mVar 3) mNil)) (gmName 4)) (sSeq (sAsg (mC (.str "")) (gmName 5)) (sAsg (mOp ixU (mOp ixU (mVar 3) (mOp modM (mOp divM (mVar 8) (mC (.int 1080))) (mCB lenM (mCons (mVar 3) mNil)))) (mC (.int 0))) (gmName 6)))))))))))
noncomputable def s_law : MS := (sSeq (sAsg (mOp (eqM false) (mOp modM (mCall 2 f_L_cell_at [] (mCons (mVar 0) (mCons (mC (.int 0)) mNil))) (mC (.int 2))) (mC (.int 0))) (gmName 1)) (sSeq (sAsg (mCall 2 f_L_mixed [] (mCons (mCall 2 f_L_cell_at [] (mCons (mVar 0) (mCons (mC (.int 0)) mNil))) (mCons (mC (.int 0)) mNil))) (gmName 2)) (sSeq (sAsg (mCall 1 f_L_book [] (mCons (mVar 2) mNil)) (gmName 3)) (sFrz 3 (sSeq (sIf (mTst (mVar 1)) (sSeq (sAsg (mCall 3 f_L_book_by [] (mCons (mC (.int 30)) (mCons (mC (.int 3)) (mCons (mOp divM (mCall 2 f_L_cell_at [] (mCons (mVar 0) (mCons (mC (.int 0)) mNil))) (mC (.int 2))) mNil)))) (gmName 3)) (sFrz 3 (sNext))) (sNext)) (sSeq (sAsg (mCall 1 f_L_new [] (mCons (mVar 3) mNil)) (gmName 4)) (sSeq (sAsg (mC (.str "")) (gmName 5)) (sSeq (sAsg (mOp ixU (mOp ixU (mVar 3) (mOp modM (mOp divM (mVar 2) (mC (.int 11))) (mCB lenM (mCons (mVar 3) mNil)))) (mC (.int 0))) (gmName 6)) (sSeq (sFor [1, 2, 7, 8, 9, 10] (miRange2 (mCons (mC (.int 1)) (mCons (mCB min2M (mCons (mCB lenM (mCons (mVar 0) mNil)) (mCons (mC (.int 84)) mNil))) mNil))) (gmName 7) b_law_1) (sFrz 4 (sRet (mCall 4 f_L_looks [] (mCons (mVar 4) (mCons (mVar 3) (mCons (mVar 5) (mCons (mC (.bl true)) mNil))))))))))))))))
noncomputable def f_law : MFn := mfOf s_law 11
local macro_rules | `(tactic| simp_arith! only [$xs,*]) => `(tactic| simp (disch := first | omega | assumption) only [view_mk, vb_o0, vb_o1', vb_o2', vb_o1, vb_l, vb_p, vb_m1', vb_m2', vb_m1, lend_mk, lend_ln, view_ln, frz_ln, ln_d, ln_n, noL_ln, nl_ln, item_ln, item_ln2, item_mk, frz_o, frz_l1, frz_l, flat_o, flat_ln, flat_le, noL_o, noL_l, nl_o, ret_o, ret_l, ret_ln0, left_o, left_ln, left_l1, left_l2, left_l, fits_o0, fits_ln0, fits_oo, fits_int, fits_bl, fits_str, fits_non, fits_lint, fits_lstr, fitsN_nil, fitsN_cons, tupC_0, var_0, var_s, gName_0, gName_s, omap_some, frz_at, mv_at, ownAt_0, ownAt_01, ownAt_02, ownAt_s, mut_o, mut_m, cont_lst, cont_dK, cont_dT, wipe_nil, wipe_cons, x_C, x_nil, x_cons, x_op, x_un, x_CB, x_tst, x_and, x_or, x_not, x_if, x_andV, x_orV, x_notV, x_lst, x_tup, x_yes, x_lc, x_sl, x_oNone, x_oSome, callR_ok, callR_ex, x_call, x_iSeq, x_iR1, x_iR2, x_pure, x_faPure, x_faNil, x_faCons, x_fOp, x_fMut, x_frNil, x_frC, x_frT, x_frIo, y_next, y_seq, y_break, y_cont, y_retN, y_ret, y_drop, y_if, y_asg, y_for, y_asgF, y_dropF, y_retF, z_gNil, z_gCons, z_gTup, ofR_ok, ofR_ex, ofR_bad, ofO_some, ofO_none, ofRF_ok, ofRF_ex, ofRF_bad, then_nx, then_rt, then_bk, then_ct, then_ex, then_bad, then_ite, bind_ite, ofR_ite, ofRF_ite, asBl_bl, asBl_ln, R.bind_ok, R.bind_ex, R.bind_bad, R.opt_some, R.opt_none, RF.bind_ok, RF.bind_ex, RF.bind_bad, forL_nil, lc_nil, lc_cons, lcO_some, lcT_ok, lcE_ok, items_mk, items_ln, cut_map, snoc_int, app_map, List.map_map, Function.comp_apply, loop_nx, loop_ct, loop_bk, loop_rt, loop_ex, loop_bad, loop_ite, mfOf_at, fin_rt, fin_nx, fin_ex, fin_ite, ios_nil, ios_ln, ios_o, ios_m, out_nil, out_cons, len_ok, len_ok', ixN_at, ixN_neg, at_some, List.getElem?_map, omap_none, mul_l, mul_r, div_1, div_2, i62_ok, ifT, ifF, pl_0, pl_int, pl_bl, pl_str, eqv_int, eqv_str, xor_f, xor_t, addM, mulM, intM, intCM, cmpM, intU, eqM, inSeqM, ixM, lenM, divmodM, int1M, int2M, listM, tupleM, sumM, slM, isiU, appendM, isDT, tyIs, D.ty, D.items, D.len, D.intA, intA_map, sh, own, Int.reduceLT, Int.reduceLE, Int.reduceAdd, Int.reduceMul, Int.reduceSub, Int.reduceNeg, Int.reduceEq, Int.reduceNe, Int.reduceMod, Int.reduceDiv, Int.reducePow, Int.reduceToNat, Nat.reduceLeDiff, Nat.reduceMul, Nat.reducePow, Nat.reduceBEq, Nat.reduceAdd, Nat.reduceSub, Nat.reduceLT, Nat.reduceEqDiff, String.reduceEq, String.reduceBEq, String.reduceNe, List.getElem?_cons_zero, List.getElem?_cons_succ, List.set_cons_zero, List.set_cons_succ, List.map_cons, List.map_nil, List.length_cons, List.length_nil, List.length_map, List.cons_append, List.nil_append, List.append_nil, List.replicate_succ, List.replicate_zero, Option.some.injEq, Option.bind_some, if_true, if_false, Bool.false_eq_true, Bool.true_eq_false, decide_eq_true_eq, decide_eq_false_iff_not, and_true, true_and, and_false, false_and, and_self, or_true, true_or, or_false, false_or, not_true_eq_false, not_false_eq_true, Bool.and_true, Bool.true_and, Bool.and_false, Bool.false_and, Bool.or_true, Bool.true_or, Bool.or_false, Bool.false_or, Bool.not_true, Bool.not_false, Bool.not_eq_true', Bool.and_eq_true, Bool.or_eq_true, ne_eq, reduceCtorEq, eq_self_iff_true, implies_true, beq_self_eq_true, Nat.zero_add, Int.cast_ofNat_Int, ite_self, ownC_01, ownC_02, ownC_0, ownC_s, x_dK, x_dT, x_chain, z_gSetU, y_augL, y_path, r_var, r_ix, take_nil, take_c, take_t, take_io, put_nil, put_c, put_t, put_io, callF_ok, callF_ex, x_fCall, rbind_ite, isM, isN, inM, setU, augAt, rcAt, ixU, maxM, minM, isi2U, D.at, D.key, D.keys, scal_int, scal_bl, scal_str, scal_non, Option.isSome_some, Option.isSome_none, cpow_ok, eqv_lints, eqv_tints, mem_ints, pl_lints, pl_tints, sorted_i, sorted_iln, sorted_t, sorted_tln, sortI_len, range_len, Int.toNat_natCast, dB_t, dB_f, dB_iff, dB_not, intA_f, eqv_lf1, eqv_lf2, eqv_lf, pl_lf, mem_lf, dB_t, max4M, Nat.reduceBEq, eqv_bl, eqv_non, eqv_lst_nil, List.getElem_cons_zero, List.getElem_cons_succ, List.getD_cons_zero, List.getD_cons_succ, List.getElem?_nil, dc_t, dc_f, div_3, Int.zero_add, keys_kd, kD_at, mem_kd, mem_k2, mem_k3, snoc_k2, snoc_k3, pl_kd, pl_kt, pl_t2, pl_t3, pl_t4, pl59_tints, pl59_lints, tkE_len, look_tk, any_tk, put_tk, opt_ite, item_cl, item_cm, app_kc, List.length_append, pl60_nil, pl60_tnil, pl59_nil, eqv_nn, eqv_cn, eqv_tnn, sorted_c, sorted_cln, snoc_call, eqv_calls, mem_calls, pl_calls, ixN_m1, toNat_m1, get_snoc, app_ne, last_snoc, List.all_cons, List.all_nil, pl_cf, mem_cf, eqv_cf, eqv_cf1, eqv_cf2, x_listR1, x_get1, x_get2, getM, isDict, x_lenSet, x_sortSet, intSM, strM, y_ifF, x_fCB, x_fLst, x_fTup, x_ftTst, x_asBlF, x_ftYes, x_fLc, lcF_nil, lcFo_some, lcFt_ok, lcFe_ok, asBlF, y_ifF, x_fCB, x_fLst, x_fTup, x_ftTst, x_asBlF, x_ftYes, x_fLc, lcF_nil, lcFo_some, lcFt_ok, lcFe_ok, asBlF, x_ftNot, x_mLm, x_isX, x_isX2, x_fldX, x_revL, y_raise, y_raiseF, y_try, trySel_ex, trySel_nx, trySel_rt, trySel_bad, trySel_ite, tryEnd_nx, tryEnd_rt, tryEnd_ct, tryEnd_bk, tryEnd_ite, isN_exn, cx_NoFigure, cx_NoTurn, x_mTx, x_iStr, cntX, x_slT, popAtM, insertM, x_mTx, x_iStr, cntX, x_slT, x_mTy, allM, fndX, stwX, clearM, fldF_nil, fldF_cons, setF_nil, setF_cons, hasX_nil, hasX_cons, lookX_cons, lookM_cons, fldC_0, fldC_l, fldC_o, fldC_p, fldC_z, x_fldO, x_isO, outR_ok, outR_ex, x_meth, mkR_ok, mkR_ex, x_make, mFo_ok, mFo_ex, x_fMeth, r_rxVar, r_rxFld, r_rxIx, rxTo_l, isR_obj, isR_lst, isR_tup, isR_dK, y_fldS, item_l2, item_o2, item_p2, fldC_ln0, fldC_ln1, nf_dialled_listing, nf_listing_dialled, nm_dialled_group, nm_dialled_numbers, nm_dialled_turn, nm_dialled_word, nm_listing_group, nm_listing_numbers, nm_listing_turn, nm_listing_word, x_ftAnd, x_ftOr, x_ftPure, x_fAndV, x_fOrV, x_fNotV, x_iEnum, x_iZip, popM, popDM, enumD_map, zipD_map, $xs,*])
local macro_rules | `(tactic| simp_arith only [$xs,*]) => `(tactic| simp (disch := first | omega | assumption) only [view_mk, vb_o0, vb_o1', vb_o2', vb_o1, vb_l, vb_p, vb_m1', vb_m2', vb_m1, lend_mk, lend_ln, view_ln, frz_ln, ln_d, ln_n, noL_ln, nl_ln, item_ln, item_ln2, item_mk, frz_o, frz_l1, frz_l, flat_o, flat_ln, flat_le, noL_o, noL_l, nl_o, ret_o, ret_l, ret_ln0, left_o, left_ln, left_l1, left_l2, left_l, fits_o0, fits_ln0, fits_oo, fits_int, fits_bl, fits_str, fits_non, fits_lint, fits_lstr, fitsN_nil, fitsN_cons, tupC_0, var_0, var_s, gName_0, gName_s, omap_some, frz_at, mv_at, ownAt_0, ownAt_01, ownAt_02, ownAt_s, mut_o, mut_m, cont_lst, cont_dK, cont_dT, wipe_nil, wipe_cons, x_C, x_nil, x_cons, x_op, x_un, x_CB, x_tst, x_and, x_or, x_not, x_if, x_andV, x_orV, x_notV, x_lst, x_tup, x_yes, x_lc, x_sl, x_oNone, x_oSome, callR_ok, callR_ex, x_call, x_iSeq, x_iR1, x_iR2, x_pure, x_faPure, x_faNil, x_faCons, x_fOp, x_fMut, x_frNil, x_frC, x_frT, x_frIo, y_next, y_seq, y_break, y_cont, y_retN, y_ret, y_drop, y_if, y_asg, y_for, y_asgF, y_dropF, y_retF, z_gNil, z_gCons, z_gTup, ofR_ok, ofR_ex, ofR_bad, ofO_some, ofO_none, ofRF_ok, ofRF_ex, ofRF_bad, then_nx, then_rt, then_bk, then_ct, then_ex, then_bad, then_ite, bind_ite, ofR_ite, ofRF_ite, asBl_bl, asBl_ln, R.bind_ok, R.bind_ex, R.bind_bad, R.opt_some, R.opt_none, RF.bind_ok, RF.bind_ex, RF.bind_bad, forL_nil, lc_nil, lc_cons, lcO_some, lcT_ok, lcE_ok, items_mk, items_ln, cut_map, snoc_int, app_map, List.map_map, Function.comp_apply, loop_nx, loop_ct, loop_bk, loop_rt, loop_ex, loop_bad, loop_ite, mfOf_at, fin_rt, fin_nx, fin_ex, fin_ite, ios_nil, ios_ln, ios_o, ios_m, out_nil, out_cons, len_ok, len_ok', ixN_at, ixN_neg, at_some, List.getElem?_map, omap_none, mul_l, mul_r, div_1, div_2, i62_ok, ifT, ifF, pl_0, pl_int, pl_bl, pl_str, eqv_int, eqv_str, xor_f, xor_t, addM, mulM, intM, intCM, cmpM, intU, eqM, inSeqM, ixM, lenM, divmodM, int1M, int2M, listM, tupleM, sumM, slM, isiU, appendM, isDT, tyIs, D.ty, D.items, D.len, D.intA, intA_map, sh, own, Int.reduceLT, Int.reduceLE, Int.reduceAdd, Int.reduceMul, Int.reduceSub, Int.reduceNeg, Int.reduceEq, Int.reduceNe, Int.reduceMod, Int.reduceDiv, Int.reducePow, Int.reduceToNat, Nat.reduceLeDiff, Nat.reduceMul, Nat.reducePow, Nat.reduceBEq, Nat.reduceAdd, Nat.reduceSub, Nat.reduceLT, Nat.reduceEqDiff, String.reduceEq, String.reduceBEq, String.reduceNe, List.getElem?_cons_zero, List.getElem?_cons_succ, List.set_cons_zero, List.set_cons_succ, List.map_cons, List.map_nil, List.length_cons, List.length_nil, List.length_map, List.cons_append, List.nil_append, List.append_nil, List.replicate_succ, List.replicate_zero, Option.some.injEq, Option.bind_some, if_true, if_false, Bool.false_eq_true, Bool.true_eq_false, decide_eq_true_eq, decide_eq_false_iff_not, and_true, true_and, and_false, false_and, and_self, or_true, true_or, or_false, false_or, not_true_eq_false, not_false_eq_true, Bool.and_true, Bool.true_and, Bool.and_false, Bool.false_and, Bool.or_true, Bool.true_or, Bool.or_false, Bool.false_or, Bool.not_true, Bool.not_false, Bool.not_eq_true', Bool.and_eq_true, Bool.or_eq_true, ne_eq, reduceCtorEq, eq_self_iff_true, implies_true, beq_self_eq_true, Nat.zero_add, Int.cast_ofNat_Int, ite_self, ownC_01, ownC_02, ownC_0, ownC_s, x_dK, x_dT, x_chain, z_gSetU, y_augL, y_path, r_var, r_ix, take_nil, take_c, take_t, take_io, put_nil, put_c, put_t, put_io, callF_ok, callF_ex, x_fCall, rbind_ite, isM, isN, inM, setU, augAt, rcAt, ixU, maxM, minM, isi2U, D.at, D.key, D.keys, scal_int, scal_bl, scal_str, scal_non, Option.isSome_some, Option.isSome_none, cpow_ok, eqv_lints, eqv_tints, mem_ints, pl_lints, pl_tints, sorted_i, sorted_iln, sorted_t, sorted_tln, sortI_len, range_len, Int.toNat_natCast, dB_t, dB_f, dB_iff, dB_not, intA_f, eqv_lf1, eqv_lf2, eqv_lf, pl_lf, mem_lf, dB_t, max4M, Nat.reduceBEq, eqv_bl, eqv_non, eqv_lst_nil, List.getElem_cons_zero, List.getElem_cons_succ, List.getD_cons_zero, List.getD_cons_succ, List.getElem?_nil, dc_t, dc_f, div_3, Int.zero_add, keys_kd, kD_at, mem_kd, mem_k2, mem_k3, snoc_k2, snoc_k3, pl_kd, pl_kt, pl_t2, pl_t3, pl_t4, pl59_tints, pl59_lints, tkE_len, look_tk, any_tk, put_tk, opt_ite, item_cl, item_cm, app_kc, List.length_append, pl60_nil, pl60_tnil, pl59_nil, eqv_nn, eqv_cn, eqv_tnn, sorted_c, sorted_cln, snoc_call, eqv_calls, mem_calls, pl_calls, ixN_m1, toNat_m1, get_snoc, app_ne, last_snoc, List.all_cons, List.all_nil, pl_cf, mem_cf, eqv_cf, eqv_cf1, eqv_cf2, x_listR1, x_get1, x_get2, getM, isDict, x_lenSet, x_sortSet, intSM, strM, y_ifF, x_fCB, x_fLst, x_fTup, x_ftTst, x_asBlF, x_ftYes, x_fLc, lcF_nil, lcFo_some, lcFt_ok, lcFe_ok, asBlF, y_ifF, x_fCB, x_fLst, x_fTup, x_ftTst, x_asBlF, x_ftYes, x_fLc, lcF_nil, lcFo_some, lcFt_ok, lcFe_ok, asBlF, x_ftNot, x_mLm, x_isX, x_isX2, x_fldX, x_revL, y_raise, y_raiseF, y_try, trySel_ex, trySel_nx, trySel_rt, trySel_bad, trySel_ite, tryEnd_nx, tryEnd_rt, tryEnd_ct, tryEnd_bk, tryEnd_ite, isN_exn, cx_NoFigure, cx_NoTurn, x_mTx, x_iStr, cntX, x_slT, popAtM, insertM, x_mTx, x_iStr, cntX, x_slT, x_mTy, allM, fndX, stwX, clearM, fldF_nil, fldF_cons, setF_nil, setF_cons, hasX_nil, hasX_cons, lookX_cons, lookM_cons, fldC_0, fldC_l, fldC_o, fldC_p, fldC_z, x_fldO, x_isO, outR_ok, outR_ex, x_meth, mkR_ok, mkR_ex, x_make, mFo_ok, mFo_ex, x_fMeth, r_rxVar, r_rxFld, r_rxIx, rxTo_l, isR_obj, isR_lst, isR_tup, isR_dK, y_fldS, item_l2, item_o2, item_p2, fldC_ln0, fldC_ln1, nf_dialled_listing, nf_listing_dialled, nm_dialled_group, nm_dialled_numbers, nm_dialled_turn, nm_dialled_word, nm_listing_group, nm_listing_numbers, nm_listing_turn, nm_listing_word, x_ftAnd, x_ftOr, x_ftPure, x_fAndV, x_fOrV, x_fNotV, x_iEnum, x_iZip, popM, popDM, enumD_map, zipD_map, le_T, le_F, lt_T, lt_F, eq_T, eq_F, $xs,*])
local macro_rules | `(tactic| simp_all_arith only [$xs,*]) => `(tactic| simp (disch := first | omega | assumption) only [view_mk, vb_o0, vb_o1', vb_o2', vb_o1, vb_l, vb_p, vb_m1', vb_m2', vb_m1, lend_mk, lend_ln, view_ln, frz_ln, ln_d, ln_n, noL_ln, nl_ln, item_ln, item_ln2, item_mk, frz_o, frz_l1, frz_l, flat_o, flat_ln, flat_le, noL_o, noL_l, nl_o, ret_o, ret_l, ret_ln0, left_o, left_ln, left_l1, left_l2, left_l, fits_o0, fits_ln0, fits_oo, fits_int, fits_bl, fits_str, fits_non, fits_lint, fits_lstr, fitsN_nil, fitsN_cons, tupC_0, var_0, var_s, gName_0, gName_s, omap_some, frz_at, mv_at, ownAt_0, ownAt_01, ownAt_02, ownAt_s, mut_o, mut_m, cont_lst, cont_dK, cont_dT, wipe_nil, wipe_cons, x_C, x_nil, x_cons, x_op, x_un, x_CB, x_tst, x_and, x_or, x_not, x_if, x_andV, x_orV, x_notV, x_lst, x_tup, x_yes, x_lc, x_sl, x_oNone, x_oSome, callR_ok, callR_ex, x_call, x_iSeq, x_iR1, x_iR2, x_pure, x_faPure, x_faNil, x_faCons, x_fOp, x_fMut, x_frNil, x_frC, x_frT, x_frIo, y_next, y_seq, y_break, y_cont, y_retN, y_ret, y_drop, y_if, y_asg, y_for, y_asgF, y_dropF, y_retF, z_gNil, z_gCons, z_gTup, ofR_ok, ofR_ex, ofR_bad, ofO_some, ofO_none, ofRF_ok, ofRF_ex, ofRF_bad, then_nx, then_rt, then_bk, then_ct, then_ex, then_bad, then_ite, bind_ite, ofR_ite, ofRF_ite, asBl_bl, asBl_ln, R.bind_ok, R.bind_ex, R.bind_bad, R.opt_some, R.opt_none, RF.bind_ok, RF.bind_ex, RF.bind_bad, forL_nil, lc_nil, lc_cons, lcO_some, lcT_ok, lcE_ok, items_mk, items_ln, cut_map, snoc_int, app_map, List.map_map, Function.comp_apply, loop_nx, loop_ct, loop_bk, loop_rt, loop_ex, loop_bad, loop_ite, mfOf_at, fin_rt, fin_nx, fin_ex, fin_ite, ios_nil, ios_ln, ios_o, ios_m, out_nil, out_cons, len_ok, len_ok', ixN_at, ixN_neg, at_some, List.getElem?_map, omap_none, mul_l, mul_r, div_1, div_2, i62_ok, ifT, ifF, pl_0, pl_int, pl_bl, pl_str, eqv_int, eqv_str, xor_f, xor_t, addM, mulM, intM, intCM, cmpM, intU, eqM, inSeqM, ixM, lenM, divmodM, int1M, int2M, listM, tupleM, sumM, slM, isiU, appendM, isDT, tyIs, D.ty, D.items, D.len, D.intA, intA_map, sh, own, Int.reduceLT, Int.reduceLE, Int.reduceAdd, Int.reduceMul, Int.reduceSub, Int.reduceNeg, Int.reduceEq, Int.reduceNe, Int.reduceMod, Int.reduceDiv, Int.reducePow, Int.reduceToNat, Nat.reduceLeDiff, Nat.reduceMul, Nat.reducePow, Nat.reduceBEq, Nat.reduceAdd, Nat.reduceSub, Nat.reduceLT, Nat.reduceEqDiff, String.reduceEq, String.reduceBEq, String.reduceNe, List.getElem?_cons_zero, List.getElem?_cons_succ, List.set_cons_zero, List.set_cons_succ, List.map_cons, List.map_nil, List.length_cons, List.length_nil, List.length_map, List.cons_append, List.nil_append, List.append_nil, List.replicate_succ, List.replicate_zero, Option.some.injEq, Option.bind_some, if_true, if_false, Bool.false_eq_true, Bool.true_eq_false, decide_eq_true_eq, decide_eq_false_iff_not, and_true, true_and, and_false, false_and, and_self, or_true, true_or, or_false, false_or, not_true_eq_false, not_false_eq_true, Bool.and_true, Bool.true_and, Bool.and_false, Bool.false_and, Bool.or_true, Bool.true_or, Bool.or_false, Bool.false_or, Bool.not_true, Bool.not_false, Bool.not_eq_true', Bool.and_eq_true, Bool.or_eq_true, ne_eq, reduceCtorEq, eq_self_iff_true, implies_true, beq_self_eq_true, Nat.zero_add, Int.cast_ofNat_Int, ite_self, ownC_01, ownC_02, ownC_0, ownC_s, x_dK, x_dT, x_chain, z_gSetU, y_augL, y_path, r_var, r_ix, take_nil, take_c, take_t, take_io, put_nil, put_c, put_t, put_io, callF_ok, callF_ex, x_fCall, rbind_ite, isM, isN, inM, setU, augAt, rcAt, ixU, maxM, minM, isi2U, D.at, D.key, D.keys, scal_int, scal_bl, scal_str, scal_non, Option.isSome_some, Option.isSome_none, cpow_ok, eqv_lints, eqv_tints, mem_ints, pl_lints, pl_tints, sorted_i, sorted_iln, sorted_t, sorted_tln, sortI_len, range_len, Int.toNat_natCast, dB_t, dB_f, dB_iff, dB_not, intA_f, eqv_lf1, eqv_lf2, eqv_lf, pl_lf, mem_lf, dB_t, max4M, Nat.reduceBEq, eqv_bl, eqv_non, eqv_lst_nil, List.getElem_cons_zero, List.getElem_cons_succ, List.getD_cons_zero, List.getD_cons_succ, List.getElem?_nil, dc_t, dc_f, div_3, Int.zero_add, keys_kd, kD_at, mem_kd, mem_k2, mem_k3, snoc_k2, snoc_k3, pl_kd, pl_kt, pl_t2, pl_t3, pl_t4, pl59_tints, pl59_lints, tkE_len, look_tk, any_tk, put_tk, opt_ite, item_cl, item_cm, app_kc, List.length_append, pl60_nil, pl60_tnil, pl59_nil, eqv_nn, eqv_cn, eqv_tnn, sorted_c, sorted_cln, snoc_call, eqv_calls, mem_calls, pl_calls, ixN_m1, get_snoc, app_ne, last_snoc, List.all_cons, List.all_nil, $xs,*])
--@ cut
def cellAt (ns : List Int) (j : Int) : Int := ns.getD j.toNat 0
theorem sp_cell_at (n m : Nat) (ns : List Int) (j : Int) (hn : n ≤ 1) (hl : ns.length ≤ 63) (hj : 0 ≤ j) : f_L_cell_at [ln n (.lst (ns.map D.int)), ln m (.int j)] = .ok 0 (.int (cellAt ns j)) [] := by
  unfold f_L_cell_at s_L_cell_at
  simp_all_arith only [x_nil]
  unfold cellAt
  by_cases h : j < ns.length
  · simp_all_arith only [h]
    rw [List.getD_eq_getElem?_getD, List.getElem?_eq_getElem (by omega)]
    rfl
  · simp_all_arith only [h]
    rw [List.getD_eq_getElem?_getD, List.getElem?_eq_none (by omega)]
    rfl
local macro_rules | `(tactic| simp_arith! only [$xs,*]) => `(tactic| simp (disch := first | omega | assumption) only [view_mk, vb_o0, vb_o1', vb_o2', vb_o1, vb_l, vb_p, vb_m1', vb_m2', vb_m1, lend_mk, lend_ln, view_ln, frz_ln, ln_d, ln_n, noL_ln, nl_ln, item_ln, item_ln2, item_mk, frz_o, frz_l1, frz_l, flat_o, flat_ln, flat_le, noL_o, noL_l, nl_o, ret_o, ret_l, ret_ln0, left_o, left_ln, left_l1, left_l2, left_l, fits_o0, fits_ln0, fits_oo, fits_int, fits_bl, fits_str, fits_non, fits_lint, fits_lstr, fitsN_nil, fitsN_cons, tupC_0, var_0, var_s, gName_0, gName_s, omap_some, frz_at, mv_at, ownAt_0, ownAt_01, ownAt_02, ownAt_s, mut_o, mut_m, cont_lst, cont_dK, cont_dT, wipe_nil, wipe_cons, x_C, x_nil, x_cons, x_op, x_un, x_CB, x_tst, x_and, x_or, x_not, x_if, x_andV, x_orV, x_notV, x_lst, x_tup, x_yes, x_lc, x_sl, x_oNone, x_oSome, callR_ok, callR_ex, x_call, x_iSeq, x_iR1, x_iR2, x_pure, x_faPure, x_faNil, x_faCons, x_fOp, x_fMut, x_frNil, x_frC, x_frT, x_frIo, y_next, y_seq, y_break, y_cont, y_retN, y_ret, y_drop, y_if, y_asg, y_for, y_asgF, y_dropF, y_retF, z_gNil, z_gCons, z_gTup, ofR_ok, ofR_ex, ofR_bad, ofO_some, ofO_none, ofRF_ok, ofRF_ex, ofRF_bad, then_nx, then_rt, then_bk, then_ct, then_ex, then_bad, then_ite, bind_ite, ofR_ite, ofRF_ite, asBl_bl, asBl_ln, R.bind_ok, R.bind_ex, R.bind_bad, R.opt_some, R.opt_none, RF.bind_ok, RF.bind_ex, RF.bind_bad, forL_nil, lc_nil, lc_cons, lcO_some, lcT_ok, lcE_ok, items_mk, items_ln, cut_map, snoc_int, app_map, List.map_map, Function.comp_apply, loop_nx, loop_ct, loop_bk, loop_rt, loop_ex, loop_bad, loop_ite, mfOf_at, fin_rt, fin_nx, fin_ex, fin_ite, ios_nil, ios_ln, ios_o, ios_m, out_nil, out_cons, len_ok, len_ok', ixN_at, ixN_neg, at_some, List.getElem?_map, omap_none, mul_l, mul_r, div_1, div_2, i62_ok, ifT, ifF, pl_0, pl_int, pl_bl, pl_str, eqv_int, eqv_str, xor_f, xor_t, addM, mulM, intM, intCM, cmpM, intU, eqM, inSeqM, ixM, lenM, divmodM, int1M, int2M, listM, tupleM, sumM, slM, isiU, appendM, isDT, tyIs, D.ty, D.items, D.len, D.intA, intA_map, sh, own, Int.reduceLT, Int.reduceLE, Int.reduceAdd, Int.reduceMul, Int.reduceSub, Int.reduceNeg, Int.reduceEq, Int.reduceNe, Int.reduceMod, Int.reduceDiv, Int.reducePow, Int.reduceToNat, Nat.reduceLeDiff, Nat.reduceMul, Nat.reducePow, Nat.reduceBEq, Nat.reduceAdd, Nat.reduceSub, Nat.reduceLT, Nat.reduceEqDiff, String.reduceEq, String.reduceBEq, String.reduceNe, List.getElem?_cons_zero, List.getElem?_cons_succ, List.set_cons_zero, List.set_cons_succ, List.map_cons, List.map_nil, List.length_cons, List.length_nil, List.length_map, List.cons_append, List.nil_append, List.append_nil, List.replicate_succ, List.replicate_zero, Option.some.injEq, Option.bind_some, if_true, if_false, Bool.false_eq_true, Bool.true_eq_false, decide_eq_true_eq, decide_eq_false_iff_not, and_true, true_and, and_false, false_and, and_self, or_true, true_or, or_false, false_or, not_true_eq_false, not_false_eq_true, Bool.and_true, Bool.true_and, Bool.and_false, Bool.false_and, Bool.or_true, Bool.true_or, Bool.or_false, Bool.false_or, Bool.not_true, Bool.not_false, Bool.not_eq_true', Bool.and_eq_true, Bool.or_eq_true, ne_eq, reduceCtorEq, eq_self_iff_true, implies_true, beq_self_eq_true, Nat.zero_add, Int.cast_ofNat_Int, ite_self, ownC_01, ownC_02, ownC_0, ownC_s, x_dK, x_dT, x_chain, z_gSetU, y_augL, y_path, r_var, r_ix, take_nil, take_c, take_t, take_io, put_nil, put_c, put_t, put_io, callF_ok, callF_ex, x_fCall, rbind_ite, isM, isN, inM, setU, augAt, rcAt, ixU, maxM, minM, isi2U, D.at, D.key, D.keys, scal_int, scal_bl, scal_str, scal_non, Option.isSome_some, Option.isSome_none, cpow_ok, eqv_lints, eqv_tints, mem_ints, pl_lints, pl_tints, sorted_i, sorted_iln, sorted_t, sorted_tln, sortI_len, range_len, Int.toNat_natCast, dB_t, dB_f, dB_iff, dB_not, intA_f, eqv_lf1, eqv_lf2, eqv_lf, pl_lf, mem_lf, dB_t, max4M, Nat.reduceBEq, eqv_bl, eqv_non, eqv_lst_nil, List.getElem_cons_zero, List.getElem_cons_succ, List.getD_cons_zero, List.getD_cons_succ, List.getElem?_nil, dc_t, dc_f, div_3, Int.zero_add, keys_kd, kD_at, mem_kd, mem_k2, mem_k3, snoc_k2, snoc_k3, pl_kd, pl_kt, pl_t2, pl_t3, pl_t4, pl59_tints, pl59_lints, tkE_len, look_tk, any_tk, put_tk, opt_ite, item_cl, item_cm, app_kc, List.length_append, pl60_nil, pl60_tnil, pl59_nil, eqv_nn, eqv_cn, eqv_tnn, sorted_c, sorted_cln, snoc_call, eqv_calls, mem_calls, pl_calls, ixN_m1, toNat_m1, get_snoc, app_ne, last_snoc, List.all_cons, List.all_nil, pl_cf, mem_cf, eqv_cf, eqv_cf1, eqv_cf2, x_listR1, x_get1, x_get2, getM, isDict, x_lenSet, x_sortSet, intSM, strM, y_ifF, x_fCB, x_fLst, x_fTup, x_ftTst, x_asBlF, x_ftYes, x_fLc, lcF_nil, lcFo_some, lcFt_ok, lcFe_ok, asBlF, y_ifF, x_fCB, x_fLst, x_fTup, x_ftTst, x_asBlF, x_ftYes, x_fLc, lcF_nil, lcFo_some, lcFt_ok, lcFe_ok, asBlF, x_ftNot, x_mLm, x_isX, x_isX2, x_fldX, x_revL, y_raise, y_raiseF, y_try, trySel_ex, trySel_nx, trySel_rt, trySel_bad, trySel_ite, tryEnd_nx, tryEnd_rt, tryEnd_ct, tryEnd_bk, tryEnd_ite, isN_exn, cx_NoFigure, cx_NoTurn, x_mTx, x_iStr, cntX, x_slT, popAtM, insertM, x_mTx, x_iStr, cntX, x_slT, x_mTy, allM, fndX, stwX, clearM, fldF_nil, fldF_cons, setF_nil, setF_cons, hasX_nil, hasX_cons, lookX_cons, lookM_cons, fldC_0, fldC_l, fldC_o, fldC_p, fldC_z, x_fldO, x_isO, outR_ok, outR_ex, x_meth, mkR_ok, mkR_ex, x_make, mFo_ok, mFo_ex, x_fMeth, r_rxVar, r_rxFld, r_rxIx, rxTo_l, isR_obj, isR_lst, isR_tup, isR_dK, y_fldS, item_l2, item_o2, item_p2, fldC_ln0, fldC_ln1, nf_dialled_listing, nf_listing_dialled, nm_dialled_group, nm_dialled_numbers, nm_dialled_turn, nm_dialled_word, nm_listing_group, nm_listing_numbers, nm_listing_turn, nm_listing_word, x_ftAnd, x_ftOr, x_ftPure, x_fAndV, x_fOrV, x_fNotV, x_iEnum, x_iZip, popM, popDM, enumD_map, zipD_map, sp_cell_at, $xs,*])
local macro_rules | `(tactic| simp_arith only [$xs,*]) => `(tactic| simp (disch := first | omega | assumption) only [view_mk, vb_o0, vb_o1', vb_o2', vb_o1, vb_l, vb_p, vb_m1', vb_m2', vb_m1, lend_mk, lend_ln, view_ln, frz_ln, ln_d, ln_n, noL_ln, nl_ln, item_ln, item_ln2, item_mk, frz_o, frz_l1, frz_l, flat_o, flat_ln, flat_le, noL_o, noL_l, nl_o, ret_o, ret_l, ret_ln0, left_o, left_ln, left_l1, left_l2, left_l, fits_o0, fits_ln0, fits_oo, fits_int, fits_bl, fits_str, fits_non, fits_lint, fits_lstr, fitsN_nil, fitsN_cons, tupC_0, var_0, var_s, gName_0, gName_s, omap_some, frz_at, mv_at, ownAt_0, ownAt_01, ownAt_02, ownAt_s, mut_o, mut_m, cont_lst, cont_dK, cont_dT, wipe_nil, wipe_cons, x_C, x_nil, x_cons, x_op, x_un, x_CB, x_tst, x_and, x_or, x_not, x_if, x_andV, x_orV, x_notV, x_lst, x_tup, x_yes, x_lc, x_sl, x_oNone, x_oSome, callR_ok, callR_ex, x_call, x_iSeq, x_iR1, x_iR2, x_pure, x_faPure, x_faNil, x_faCons, x_fOp, x_fMut, x_frNil, x_frC, x_frT, x_frIo, y_next, y_seq, y_break, y_cont, y_retN, y_ret, y_drop, y_if, y_asg, y_for, y_asgF, y_dropF, y_retF, z_gNil, z_gCons, z_gTup, ofR_ok, ofR_ex, ofR_bad, ofO_some, ofO_none, ofRF_ok, ofRF_ex, ofRF_bad, then_nx, then_rt, then_bk, then_ct, then_ex, then_bad, then_ite, bind_ite, ofR_ite, ofRF_ite, asBl_bl, asBl_ln, R.bind_ok, R.bind_ex, R.bind_bad, R.opt_some, R.opt_none, RF.bind_ok, RF.bind_ex, RF.bind_bad, forL_nil, lc_nil, lc_cons, lcO_some, lcT_ok, lcE_ok, items_mk, items_ln, cut_map, snoc_int, app_map, List.map_map, Function.comp_apply, loop_nx, loop_ct, loop_bk, loop_rt, loop_ex, loop_bad, loop_ite, mfOf_at, fin_rt, fin_nx, fin_ex, fin_ite, ios_nil, ios_ln, ios_o, ios_m, out_nil, out_cons, len_ok, len_ok', ixN_at, ixN_neg, at_some, List.getElem?_map, omap_none, mul_l, mul_r, div_1, div_2, i62_ok, ifT, ifF, pl_0, pl_int, pl_bl, pl_str, eqv_int, eqv_str, xor_f, xor_t, addM, mulM, intM, intCM, cmpM, intU, eqM, inSeqM, ixM, lenM, divmodM, int1M, int2M, listM, tupleM, sumM, slM, isiU, appendM, isDT, tyIs, D.ty, D.items, D.len, D.intA, intA_map, sh, own, Int.reduceLT, Int.reduceLE, Int.reduceAdd, Int.reduceMul, Int.reduceSub, Int.reduceNeg, Int.reduceEq, Int.reduceNe, Int.reduceMod, Int.reduceDiv, Int.reducePow, Int.reduceToNat, Nat.reduceLeDiff, Nat.reduceMul, Nat.reducePow, Nat.reduceBEq, Nat.reduceAdd, Nat.reduceSub, Nat.reduceLT, Nat.reduceEqDiff, String.reduceEq, String.reduceBEq, String.reduceNe, List.getElem?_cons_zero, List.getElem?_cons_succ, List.set_cons_zero, List.set_cons_succ, List.map_cons, List.map_nil, List.length_cons, List.length_nil, List.length_map, List.cons_append, List.nil_append, List.append_nil, List.replicate_succ, List.replicate_zero, Option.some.injEq, Option.bind_some, if_true, if_false, Bool.false_eq_true, Bool.true_eq_false, decide_eq_true_eq, decide_eq_false_iff_not, and_true, true_and, and_false, false_and, and_self, or_true, true_or, or_false, false_or, not_true_eq_false, not_false_eq_true, Bool.and_true, Bool.true_and, Bool.and_false, Bool.false_and, Bool.or_true, Bool.true_or, Bool.or_false, Bool.false_or, Bool.not_true, Bool.not_false, Bool.not_eq_true', Bool.and_eq_true, Bool.or_eq_true, ne_eq, reduceCtorEq, eq_self_iff_true, implies_true, beq_self_eq_true, Nat.zero_add, Int.cast_ofNat_Int, ite_self, ownC_01, ownC_02, ownC_0, ownC_s, x_dK, x_dT, x_chain, z_gSetU, y_augL, y_path, r_var, r_ix, take_nil, take_c, take_t, take_io, put_nil, put_c, put_t, put_io, callF_ok, callF_ex, x_fCall, rbind_ite, isM, isN, inM, setU, augAt, rcAt, ixU, maxM, minM, isi2U, D.at, D.key, D.keys, scal_int, scal_bl, scal_str, scal_non, Option.isSome_some, Option.isSome_none, cpow_ok, eqv_lints, eqv_tints, mem_ints, pl_lints, pl_tints, sorted_i, sorted_iln, sorted_t, sorted_tln, sortI_len, range_len, Int.toNat_natCast, dB_t, dB_f, dB_iff, dB_not, intA_f, eqv_lf1, eqv_lf2, eqv_lf, pl_lf, mem_lf, dB_t, max4M, Nat.reduceBEq, eqv_bl, eqv_non, eqv_lst_nil, List.getElem_cons_zero, List.getElem_cons_succ, List.getD_cons_zero, List.getD_cons_succ, List.getElem?_nil, dc_t, dc_f, div_3, Int.zero_add, keys_kd, kD_at, mem_kd, mem_k2, mem_k3, snoc_k2, snoc_k3, pl_kd, pl_kt, pl_t2, pl_t3, pl_t4, pl59_tints, pl59_lints, tkE_len, look_tk, any_tk, put_tk, opt_ite, item_cl, item_cm, app_kc, List.length_append, pl60_nil, pl60_tnil, pl59_nil, eqv_nn, eqv_cn, eqv_tnn, sorted_c, sorted_cln, snoc_call, eqv_calls, mem_calls, pl_calls, ixN_m1, toNat_m1, get_snoc, app_ne, last_snoc, List.all_cons, List.all_nil, pl_cf, mem_cf, eqv_cf, eqv_cf1, eqv_cf2, x_listR1, x_get1, x_get2, getM, isDict, x_lenSet, x_sortSet, intSM, strM, y_ifF, x_fCB, x_fLst, x_fTup, x_ftTst, x_asBlF, x_ftYes, x_fLc, lcF_nil, lcFo_some, lcFt_ok, lcFe_ok, asBlF, y_ifF, x_fCB, x_fLst, x_fTup, x_ftTst, x_asBlF, x_ftYes, x_fLc, lcF_nil, lcFo_some, lcFt_ok, lcFe_ok, asBlF, x_ftNot, x_mLm, x_isX, x_isX2, x_fldX, x_revL, y_raise, y_raiseF, y_try, trySel_ex, trySel_nx, trySel_rt, trySel_bad, trySel_ite, tryEnd_nx, tryEnd_rt, tryEnd_ct, tryEnd_bk, tryEnd_ite, isN_exn, cx_NoFigure, cx_NoTurn, x_mTx, x_iStr, cntX, x_slT, popAtM, insertM, x_mTx, x_iStr, cntX, x_slT, x_mTy, allM, fndX, stwX, clearM, fldF_nil, fldF_cons, setF_nil, setF_cons, hasX_nil, hasX_cons, lookX_cons, lookM_cons, fldC_0, fldC_l, fldC_o, fldC_p, fldC_z, x_fldO, x_isO, outR_ok, outR_ex, x_meth, mkR_ok, mkR_ex, x_make, mFo_ok, mFo_ex, x_fMeth, r_rxVar, r_rxFld, r_rxIx, rxTo_l, isR_obj, isR_lst, isR_tup, isR_dK, y_fldS, item_l2, item_o2, item_p2, fldC_ln0, fldC_ln1, nf_dialled_listing, nf_listing_dialled, nm_dialled_group, nm_dialled_numbers, nm_dialled_turn, nm_dialled_word, nm_listing_group, nm_listing_numbers, nm_listing_turn, nm_listing_word, x_ftAnd, x_ftOr, x_ftPure, x_fAndV, x_fOrV, x_fNotV, x_iEnum, x_iZip, popM, popDM, enumD_map, zipD_map, sp_cell_at, le_T, le_F, lt_T, lt_F, eq_T, eq_F, $xs,*])
local macro_rules | `(tactic| simp_all_arith only [$xs,*]) => `(tactic| simp (disch := first | omega | assumption) only [view_mk, vb_o0, vb_o1', vb_o2', vb_o1, vb_l, vb_p, vb_m1', vb_m2', vb_m1, lend_mk, lend_ln, view_ln, frz_ln, ln_d, ln_n, noL_ln, nl_ln, item_ln, item_ln2, item_mk, frz_o, frz_l1, frz_l, flat_o, flat_ln, flat_le, noL_o, noL_l, nl_o, ret_o, ret_l, ret_ln0, left_o, left_ln, left_l1, left_l2, left_l, fits_o0, fits_ln0, fits_oo, fits_int, fits_bl, fits_str, fits_non, fits_lint, fits_lstr, fitsN_nil, fitsN_cons, tupC_0, var_0, var_s, gName_0, gName_s, omap_some, frz_at, mv_at, ownAt_0, ownAt_01, ownAt_02, ownAt_s, mut_o, mut_m, cont_lst, cont_dK, cont_dT, wipe_nil, wipe_cons, x_C, x_nil, x_cons, x_op, x_un, x_CB, x_tst, x_and, x_or, x_not, x_if, x_andV, x_orV, x_notV, x_lst, x_tup, x_yes, x_lc, x_sl, x_oNone, x_oSome, callR_ok, callR_ex, x_call, x_iSeq, x_iR1, x_iR2, x_pure, x_faPure, x_faNil, x_faCons, x_fOp, x_fMut, x_frNil, x_frC, x_frT, x_frIo, y_next, y_seq, y_break, y_cont, y_retN, y_ret, y_drop, y_if, y_asg, y_for, y_asgF, y_dropF, y_retF, z_gNil, z_gCons, z_gTup, ofR_ok, ofR_ex, ofR_bad, ofO_some, ofO_none, ofRF_ok, ofRF_ex, ofRF_bad, then_nx, then_rt, then_bk, then_ct, then_ex, then_bad, then_ite, bind_ite, ofR_ite, ofRF_ite, asBl_bl, asBl_ln, R.bind_ok, R.bind_ex, R.bind_bad, R.opt_some, R.opt_none, RF.bind_ok, RF.bind_ex, RF.bind_bad, forL_nil, lc_nil, lc_cons, lcO_some, lcT_ok, lcE_ok, items_mk, items_ln, cut_map, snoc_int, app_map, List.map_map, Function.comp_apply, loop_nx, loop_ct, loop_bk, loop_rt, loop_ex, loop_bad, loop_ite, mfOf_at, fin_rt, fin_nx, fin_ex, fin_ite, ios_nil, ios_ln, ios_o, ios_m, out_nil, out_cons, len_ok, len_ok', ixN_at, ixN_neg, at_some, List.getElem?_map, omap_none, mul_l, mul_r, div_1, div_2, i62_ok, ifT, ifF, pl_0, pl_int, pl_bl, pl_str, eqv_int, eqv_str, xor_f, xor_t, addM, mulM, intM, intCM, cmpM, intU, eqM, inSeqM, ixM, lenM, divmodM, int1M, int2M, listM, tupleM, sumM, slM, isiU, appendM, isDT, tyIs, D.ty, D.items, D.len, D.intA, intA_map, sh, own, Int.reduceLT, Int.reduceLE, Int.reduceAdd, Int.reduceMul, Int.reduceSub, Int.reduceNeg, Int.reduceEq, Int.reduceNe, Int.reduceMod, Int.reduceDiv, Int.reducePow, Int.reduceToNat, Nat.reduceLeDiff, Nat.reduceMul, Nat.reducePow, Nat.reduceBEq, Nat.reduceAdd, Nat.reduceSub, Nat.reduceLT, Nat.reduceEqDiff, String.reduceEq, String.reduceBEq, String.reduceNe, List.getElem?_cons_zero, List.getElem?_cons_succ, List.set_cons_zero, List.set_cons_succ, List.map_cons, List.map_nil, List.length_cons, List.length_nil, List.length_map, List.cons_append, List.nil_append, List.append_nil, List.replicate_succ, List.replicate_zero, Option.some.injEq, Option.bind_some, if_true, if_false, Bool.false_eq_true, Bool.true_eq_false, decide_eq_true_eq, decide_eq_false_iff_not, and_true, true_and, and_false, false_and, and_self, or_true, true_or, or_false, false_or, not_true_eq_false, not_false_eq_true, Bool.and_true, Bool.true_and, Bool.and_false, Bool.false_and, Bool.or_true, Bool.true_or, Bool.or_false, Bool.false_or, Bool.not_true, Bool.not_false, Bool.not_eq_true', Bool.and_eq_true, Bool.or_eq_true, ne_eq, reduceCtorEq, eq_self_iff_true, implies_true, beq_self_eq_true, Nat.zero_add, Int.cast_ofNat_Int, ite_self, ownC_01, ownC_02, ownC_0, ownC_s, x_dK, x_dT, x_chain, z_gSetU, y_augL, y_path, r_var, r_ix, take_nil, take_c, take_t, take_io, put_nil, put_c, put_t, put_io, callF_ok, callF_ex, x_fCall, rbind_ite, isM, isN, inM, setU, augAt, rcAt, ixU, maxM, minM, isi2U, D.at, D.key, D.keys, scal_int, scal_bl, scal_str, scal_non, Option.isSome_some, Option.isSome_none, cpow_ok, eqv_lints, eqv_tints, mem_ints, pl_lints, pl_tints, sorted_i, sorted_iln, sorted_t, sorted_tln, sortI_len, range_len, Int.toNat_natCast, dB_t, dB_f, dB_iff, dB_not, intA_f, eqv_lf1, eqv_lf2, eqv_lf, pl_lf, mem_lf, dB_t, max4M, Nat.reduceBEq, eqv_bl, eqv_non, eqv_lst_nil, List.getElem_cons_zero, List.getElem_cons_succ, List.getD_cons_zero, List.getD_cons_succ, List.getElem?_nil, dc_t, dc_f, div_3, Int.zero_add, keys_kd, kD_at, mem_kd, mem_k2, mem_k3, snoc_k2, snoc_k3, pl_kd, pl_kt, pl_t2, pl_t3, pl_t4, pl59_tints, pl59_lints, tkE_len, look_tk, any_tk, put_tk, opt_ite, item_cl, item_cm, app_kc, List.length_append, pl60_nil, pl60_tnil, pl59_nil, eqv_nn, eqv_cn, eqv_tnn, sorted_c, sorted_cln, snoc_call, eqv_calls, mem_calls, pl_calls, ixN_m1, get_snoc, app_ne, last_snoc, List.all_cons, List.all_nil, sp_cell_at, $xs,*])
--@ cut
def mixI (z k : Int) : Int := (z % 2147483647 + 11) * (48271 + 2 * k * k) % 2147483629
theorem mixI_pos (z k : Int) : 0 ≤ mixI z k ∧ mixI z k < 2147483629 := by unfold mixI; omega
theorem sp_mixed (n m : Nat) (z k : Int) (h0 : 0 ≤ k) (h1 : k < 1000) : f_L_mixed [ln n (.int z), ln m (.int k)] = .ok 0 (.int (mixI z k)) [] := by
  have h2 : k * k ≤ 999 * 999 := Int.mul_le_mul (by omega) (by omega) h0 (by omega)
  have h3 : 2 * k * k = 2 * (k * k) := Int.mul_assoc _ _ _
  have h4 : 0 ≤ k * k := Int.mul_nonneg h0 h0
  have h5 : 0 ≤ 2 * k * k ∧ 2 * k * k ≤ 2000000 := by omega
  clear h2 h3 h4
  unfold f_L_mixed s_L_mixed
  simp_arith! only [x_nil]
  rfl
--@ cut
theorem strIn_one (c : Nat) (x : Str) : strIn ⟨#[c]⟩ x = decide (c ∈ x.cps.toList) := PySem.StrLaws.found_one x c
def figs : List Nat := [48, 49, 50, 51, 52, 53, 54, 55, 56, 57]
theorem fig_cps : (Str.ofString "0123456789").cps.toList = figs := by decide +kernel
abbrev sgs (w : Str) : List Nat := w.cps.toList
abbrev stL (l : List Nat) : Str := ⟨l.toArray⟩
theorem st_sgs (w : Str) : stL (sgs w) = w := (PySem.StrLaws.mk_of_toList (x := w) rfl).symm
theorem sgs_len (w : Str) : (sgs w).length = w.length := by
  show w.cps.toList.length = w.cps.size
  simp
--@ cut
theorem stw_iff (w v : Str) : Txt.startswith w v = dB (sgs v <+: sgs w) := by
  rw [Bool.eq_iff_iff, dB_iff]
  unfold Txt.startswith
  rw [PySem.StrLaws.subAt_eq, Bool.and_eq_true, beq_iff_eq, List.prefix_iff_eq_take, List.drop_zero, decide_eq_true_iff, ← sgs_len, ← sgs_len]
  constructor
  · rintro ⟨_, h⟩; exact h.symm
  · intro h
    refine ⟨?_, h.symm⟩
    have := congrArg List.length h
    rw [List.length_take] at this
    omega
abbrev RowV := Str × List Int
def rowV (g : RowV) : D := .tup [.str g.1, .tup (g.2.map D.int)]
theorem cut_pre (w f : Str) : cutS w none (some (f.length : Int)) = stL ((sgs w).take f.length) := by
  unfold cutS
  show stL _ = stL _
  congr 1
  have s1 : HT.sIx w.length w.length (some (f.length : Int)) = min f.length w.length := by
    show (if (f.length : Int) < 0 then ((f.length : Int) + (w.length : Int)).toNat else min (f.length : Int).toNat w.length) = _
    rw [if_neg (by omega)]
    omega
  rw [s1]
  have s2 : (sgs w).length = w.length := sgs_len w
  show ((sgs w).drop 0).take (min f.length w.length - 0) = _
  rw [List.drop_zero, Nat.sub_zero]
  rcases Nat.le_total f.length w.length with h | h
  · rw [Nat.min_eq_left h]
  · rw [Nat.min_eq_right h, ← s2, List.take_length, List.take_of_length_le (by omega)]
theorem eqv_pre (w f : Str) : D.eqv (.str (cutS w none (some (f.length : Int)))) (.str f) = dB (sgs f <+: sgs w) := by
  rw [eqv_str, cut_pre, Bool.eq_iff_iff, dB_iff, decide_eq_true_iff, List.prefix_iff_eq_take, sgs_len]
  constructor
  · intro h
    have e := congrArg sgs h
    have e2 : sgs (stL ((sgs w).take f.length)) = (sgs w).take f.length := by simp
    rw [e2] at e
    exact e.symm
  · intro h
    rw [← h, st_sgs]
/-! ### books -/
noncomputable def preG (G : List RowV) (f : Str) : List RowV := G.filter fun g => dB (sgs f <+: sgs g.1)
def numW (g : RowV) : D := .str g.1
structure BkP (G : List RowV) : Prop where
  le : G.length ≤ 12
  ne : G ≠ []
  fg : ∀ g ∈ G, ∀ c ∈ sgs g.1, c ∈ figs
  sz : ∀ g ∈ G, g.1.length ≤ 100 ∧ g.2.length ≤ 100
  ap : G.Pairwise fun g h => ¬ sgs g.1 <+: sgs h.1 ∧ ¬ sgs h.1 <+: sgs g.1
abbrev objF (G : List RowV) (f : Str) : D := .obj "Finder" [("listing", 1, .lst (G.map rowV)), ("dialled", 0, .str f)]
theorem lc_nums (x1 : Option Cell) (c : Cell) (G : List RowV) (f : Str) (hc : c = ⟨.m 0, 1, objF G f⟩ ∨ c = ln 0 (objF G f) ∨ c = ln 1 (objF G f)) : lcL 0 [1] (gmName 1) (mTst (mTx stwX (mOp ixU (mVar 1) (mC (.int 0))) (mFldO ["Finder"] "dialled" (mVar 0)))) (mOp ixU (mVar 1) (mC (.int 0))) [some c, x1] (G.map (sh ∘ rowV)) = .ok ((preG G f).map numW) := by
  unfold preG
  refine lc_map (fun g : RowV => dB (sgs f <+: sgs g.1)) numW _ fun g hg rest => ?_
  have s1 := stw_iff g.1 f
  unfold numW
  rcases hc with rfl | rfl | rfl
  all_goals
    by_cases h : sgs f <+: sgs g.1
    · have hd : dB (sgs f <+: sgs g.1) = true := by rw [dB_iff]; exact h
      rw [hd] at s1 ⊢
      unfold rowV
      simp_arith! only [s1]
    · have hd : dB (sgs f <+: sgs g.1) = false := by rw [dB_not]; exact h
      rw [hd] at s1 ⊢
      unfold rowV
      simp_arith! only [s1]
theorem sp_numbers (q : Nat) (hq : q ≤ 1) (G : List RowV) (f : Str) (hG : G.length ≤ 12) : f_Finder_numbers [ln q (objF G f)] = .ok 1 (.lst ((preG G f).map numW)) [] := by
  have h1 := fun c hc => lc_nums none c G f hc
  have h2 := h1 (ln q (objF G f)) (by rcases Nat.le_one_iff_eq_zero_or_eq_one.mp hq with rfl | rfl; exact .inr (.inl rfl); exact .inr (.inr rfl))
  have h3 := h1 (ln q (objF G f)) (by rcases Nat.le_one_iff_eq_zero_or_eq_one.mp hq with rfl | rfl; exact .inr (.inl rfl); exact .inr (.inr rfl))
  unfold f_Finder_numbers s_Finder_numbers
  rcases Nat.le_one_iff_eq_zero_or_eq_one.mp hq with rfl | rfl
  · simp_arith! only [h2]
  · simp_arith! only [h2]
--@ cut
/-! ### what is told of the figures dialled -/
noncomputable def wordS (G : List RowV) (f : Str) : Str := if preG G f = [] then "nowhere" else if ∃ g ∈ G, g.1 = f then "there" else "on"
theorem pre_mem {G : List RowV} {f : Str} {g : RowV} : g ∈ preG G f ↔ g ∈ G ∧ sgs f <+: sgs g.1 := by
  unfold preG
  rw [List.mem_filter, dB_iff]
theorem pre_len (G : List RowV) (f : Str) : (preG G f).length ≤ G.length := List.length_filter_le _ _
theorem st_eq {u v : Str} (h : sgs u = sgs v) : u = v := by rw [← st_sgs u, ← st_sgs v, h]
theorem ap_same {G : List RowV} (h : G.Pairwise fun g h => ¬ sgs g.1 <+: sgs h.1 ∧ ¬ sgs h.1 <+: sgs g.1) : ∀ g ∈ G, ∀ k ∈ G, sgs g.1 <+: sgs k.1 → g = k := by
  induction h with
  | nil => intro g hg; cases hg
  | cons hx _ ih =>
    intro g hg k hk hp
    rcases List.mem_cons.mp hg with e1 | h1
    · rcases List.mem_cons.mp hk with e2 | h2
      · rw [e1, e2]
      · rw [e1] at hp; exact absurd hp (hx k h2).1
    · rcases List.mem_cons.mp hk with e2 | h2
      · rw [e2] at hp; exact absurd hp (hx g h1).2
      · exact ih g h1 k h2 hp
theorem there_first {G : List RowV} (hG : BkP G) {f : Str} {h : RowV} {r : List RowV} (e : preG G f = h :: r) : (∃ g ∈ G, g.1 = f) ↔ h.1 = f := by
  have hh : h ∈ preG G f := by rw [e]; exact List.mem_cons_self
  obtain ⟨h1, h2⟩ := pre_mem.mp hh
  constructor
  · rintro ⟨g, hg, rfl⟩
    rw [ap_same hG.ap g hg h h1 h2]
  · intro q
    exact ⟨h, h1, q⟩
theorem there_in {G : List RowV} {f : Str} : (∃ g ∈ G, g.1 = f) ↔ f ∈ (preG G f).map (·.1) := by
  rw [List.mem_map]
  constructor
  · rintro ⟨g, hg, rfl⟩
    exact ⟨g, pre_mem.mpr ⟨hg, List.prefix_refl _⟩, rfl⟩
  · rintro ⟨g, hg, e⟩
    exact ⟨g, (pre_mem.mp hg).1, e⟩
theorem pl_txs (x : Str) (r : List RowV) : D.pl 60 (.lst (.str x :: r.map fun g => D.str g.fst)) = true := by
  rw [D.pl, List.all_eq_true]
  intro y hy
  rcases List.mem_cons.mp hy with e | hy
  · rw [e]; exact pl_str _ _
  · obtain ⟨g, _, rfl⟩ := List.mem_map.mp hy
    exact pl_str _ _
theorem sp_word (q : Nat) (hq : q ≤ 1) (G : List RowV) (f : Str) (hG : BkP G) : f_Finder_word [ln q (objF G f)] = .ok 0 (.str (wordS G f)) [] := by
  have h1 := fun q hq => sp_numbers q hq G f hG.le
  have h1 := h1 q hq
  have hl := pre_len G f
  have hl2 := hG.le
  unfold wordS
  cases hp : preG G f with
  | nil =>
    rw [hp] at h1
    rw [if_pos rfl]
    unfold f_Finder_word s_Finder_word
    rcases Nat.le_one_iff_eq_zero_or_eq_one.mp hq with rfl | rfl
    · simp_arith! only [h1]
    · simp_arith! only [h1]
  | cons h r =>
    have ht := there_first hG hp
    rw [hp] at h1 hl
    rw [if_neg (by simp)]
    have hrl : r.length ≤ 12 := by rw [List.length_cons] at hl; omega
    unfold numW at h1
    unfold f_Finder_word s_Finder_word
    by_cases hf : h.1 = f
    · rw [if_pos (ht.mpr hf)]
      rcases Nat.le_one_iff_eq_zero_or_eq_one.mp hq with rfl | rfl
      · simp_arith! only [h1, hf, pl_txs]
      · simp_arith! only [h1, hf, pl_txs]
    · rw [if_neg (fun z => hf (ht.mp z))]
      rcases Nat.le_one_iff_eq_zero_or_eq_one.mp hq with rfl | rfl
      · simp_arith! only [h1, hf, pl_txs]
      · simp_arith! only [h1, hf, pl_txs]
--@ cut
noncomputable def numsL (G : List RowV) (f : Str) : List Str := (preG G f).map (·.1)
theorem nums_eq (G : List RowV) (f : Str) : (preG G f).map numW = (numsL G f).map D.str := by
  unfold numsL
  rw [List.map_map]
  rfl
theorem nums_len (G : List RowV) (f : Str) : (numsL G f).length ≤ G.length := by
  unfold numsL
  rw [List.length_map]
  exact pre_len G f
theorem word_eq (G : List RowV) (f : Str) : wordS G f = if numsL G f = [] then "nowhere" else if f ∈ numsL G f then "there" else "on" := by
  unfold wordS
  have h1 : preG G f = [] ↔ numsL G f = [] := by unfold numsL; rw [List.map_eq_nil_iff]
  have h2 := @there_in G f
  change _ ↔ f ∈ numsL G f at h2
  by_cases q1 : preG G f = []
  · rw [if_pos q1, if_pos (h1.mp q1)]
  · rw [if_neg q1, if_neg (fun z => q1 (h1.mpr z))]
    by_cases q2 : ∃ g ∈ G, g.1 = f
    · rw [if_pos q2, if_pos (h2.mp q2)]
    · rw [if_neg q2, if_neg (fun z => q2 (h2.mpr z))]
theorem lc_where (x0 x2 : Option Cell) (G : List RowV) (f : Str) (hG : ∀ g ∈ G, g.1.length ≤ 100) (hf : f.length ≤ 200) : lcL 0 [3] (gmName 3) (mTst (mOp (eqM false) (mSlT (mOp ixU (mVar 3) (mC (.int 0))) moNone (moSome (mCB lenM (mCons (mVar 1) mNil)))) (mVar 1))) (mOp ixU (mVar 3) (mC (.int 0))) [x0, some (ln 0 (.str f)), x2, none] (G.map (sh ∘ rowV)) = .ok ((numsL G f).map D.str) := by
  rw [← nums_eq]
  unfold preG
  refine lc_map (fun g : RowV => dB (sgs f <+: sgs g.1)) numW _ fun g hg rest => ?_
  have s1 := eqv_pre g.1 f
  have hgl := hG g hg
  have sz : (1000 : Nat) ≤ sizeLine := by decide
  have z1 : g.1.length ≤ sizeLine := by omega
  have z2 : f.length ≤ sizeLine := by omega
  unfold numW
  generalize dB (sgs f <+: sgs g.1) = b at *
  unfold rowV
  cases b <;> simp_arith! only [s1, z1, z2]
theorem lc_looks (x0 x1 x3 x5 x6 x7 x8 : Option Cell) (G : List RowV) (f : Str) (hG : ∀ g ∈ G, g.1.length ≤ 100) (hf : f.length ≤ 200) : lcL 0 [4] (gmName 4) (mTst (mOp (eqM false) (mSlT (mOp ixU (mVar 4) (mC (.int 0))) moNone (moSome (mCB lenM (mCons (mVar 2) mNil)))) (mVar 2))) (mOp ixU (mVar 4) (mC (.int 0))) [x0, x1, some (ln 0 (.str f)), x3, none, x5, x6, x7, x8] (G.map (sh ∘ rowV)) = .ok ((numsL G f).map D.str) := by
  rw [← nums_eq]
  unfold preG
  refine lc_map (fun g : RowV => dB (sgs f <+: sgs g.1)) numW _ fun g hg rest => ?_
  have s1 := eqv_pre g.1 f
  have hgl := hG g hg
  have sz : (1000 : Nat) ≤ sizeLine := by decide
  have z1 : g.1.length ≤ sizeLine := by omega
  have z2 : f.length ≤ sizeLine := by omega
  unfold numW
  generalize dB (sgs f <+: sgs g.1) = b at *
  unfold rowV
  cases b <;> simp_arith! only [s1, z1, z2]
theorem sp_where (G : List RowV) (f : Str) (hG : BkP G) (hf : f.length ≤ 200) : f_L_where [ln 0 (.lst (G.map rowV)), ln 0 (.str f)] = .ok 0 (.str (wordS G f)) [] := by
  have hlc := fun x0 x2 => lc_where x0 x2 G f (fun g hg => (hG.sz g hg).1) hf
  have hGl := hG.le
  have hl := nums_len G f
  rw [word_eq]
  generalize numsL G f = L at *
  have hm : D.mem (.str f) (L.map D.str) = decide (f ∈ L) := mem_map (f := D.str) f L
  have he : D.eqv (.lst (L.map D.str)) (.lst []) = decide (L = []) := eqv_lst_nil L
  have hll : L.length ≤ 12 := by omega
  have hpl : D.pl 60 (.lst (L.map D.str)) = true := pl60_lst (f := D.str) (k := 0) L
  by_cases hn : L = []
  · rw [if_pos hn]
    rw [decide_eq_true hn] at he
    unfold f_L_where s_L_where
    simp_arith! only [hlc, he, hpl]
  · rw [if_neg hn]
    rw [decide_eq_false hn] at he
    by_cases hfi : f ∈ L
    · rw [if_pos hfi]
      rw [decide_eq_true hfi] at hm
      unfold f_L_where s_L_where
      simp_arith! only [hlc, he, hm, hpl]
    · rw [if_neg hfi]
      rw [decide_eq_false hfi] at hm
      unfold f_L_where s_L_where
      simp_arith! only [hlc, he, hm, hpl]
--@ cut
/-! ### the group told -/
def grpD (G : List RowV) (f : Str) : D := match G.find? (fun g => decide (g.1 = f)) with
  | some g => .tup (g.2.map D.int)
  | none => .non
theorem grp_at {pre post : List RowV} {g : RowV} {f : Str} (h : ∀ x ∈ pre, x.1 ≠ f) (hg : g.1 = f) : grpD (pre ++ g :: post) f = .tup (g.2.map D.int) := by
  unfold grpD
  rw [List.find?_append, List.find?_eq_none.mpr fun x hx => by simpa using h x hx]
  rw [Option.none_or, List.find?_cons_of_pos (by simpa using hg)]
theorem grp_no {G : List RowV} {f : Str} (h : ∀ x ∈ G, x.1 ≠ f) : grpD G f = .non := by
  unfold grpD
  rw [List.find?_eq_none.mpr fun x hx => by simpa using h x hx]
theorem sp_group (q : Nat) (hq : q ≤ 1) (G : List RowV) (f : Str) (hG : BkP G) : f_Finder_group [ln q (objF G f)] = .ok 0 (grpD G f) [] := by
  suffices h : ∀ Z : FR → Prop, Z (.ok 0 (grpD G f) []) → Z (f_Finder_group [ln q (objF G f)]) from h (fun r => r = .ok 0 (grpD G f) []) rfl
  intro Z hZ
  have hGl := hG.le
  unfold f_Finder_group s_Finder_group
  have key : ∀ c : Cell, (c = ln 0 (objF G f) ∨ c = ln 1 (objF G f)) → Z (VL.fin [c] ((forL [1, 2] (gmTup 2 (gmCons (gmName 1) (gmCons (gmName 2) gmNil))) b_Finder_group_1 (G.map (sh ∘ rowV)) [some c, none, none]).then (sRet (mC .non)))) := by
    intro c hc
    refine forL_inv (sh ∘ rowV) (fun r => Z (VL.fin [c] (r.then (sRet (mC .non))))) (fun pre ρ => (∀ x ∈ pre, x.1 ≠ f) ∧ ρ = [some c, none, none]) ?_ ?_ ⟨by simp, rfl⟩
    · rintro pre g post ρ he ⟨h1, rfl⟩ K hK
      by_cases hg : g.1 = f
      · rw [he, grp_at h1 hg] at hZ
        clear he hK
        unfold rowV b_Finder_group_1
        rcases hc with rfl | rfl
        · simp_arith! only [hg]
          exact hZ
        · simp_arith! only [hg]
          exact hZ
      · have hk := hK [some c, some (sh (.str g.1)), some (sh (.tup (g.2.map D.int)))] ⟨fun x hx => by
          rcases List.mem_append.mp hx with hx | hx
          · exact h1 x hx
          · rw [List.mem_singleton.mp hx]; exact hg, rfl⟩
        clear he hK hZ
        unfold rowV b_Finder_group_1
        rcases hc with rfl | rfl
        · simp_arith! only [hg]
          exact hk
        · simp_arith! only [hg]
          exact hk
    · rintro ρ ⟨h1, rfl⟩
      rw [grp_no h1] at hZ
      rcases hc with rfl | rfl
      · simp_arith! only [x_nil]
        exact hZ
      · simp_arith! only [x_nil]
        exact hZ
  rcases Nat.le_one_iff_eq_zero_or_eq_one.mp hq with rfl | rfl
  · have := key _ (.inl rfl)
    simp_arith! only [x_nil]
    exact this
  · have := key _ (.inr rfl)
    simp_arith! only [x_nil]
    exact this
--@ cut
def stepG (f : Str) (acc : D) (g : RowV) : D := if g.1 = f then .tup (g.2.map D.int) else acc
theorem fold_no (f : Str) : ∀ (G : List RowV) (acc : D), (∀ g ∈ G, g.1 ≠ f) → G.foldl (stepG f) acc = acc
  | [], _, _ => rfl
  | g :: G, acc, h => by
    rw [List.foldl_cons, show stepG f acc g = acc from if_neg (h g List.mem_cons_self)]
    exact fold_no f G acc fun x hx => h x (List.mem_cons_of_mem _ hx)
theorem fold_grp (f : Str) : ∀ (G : List RowV), (G.Pairwise fun g h => ¬ sgs g.1 <+: sgs h.1 ∧ ¬ sgs h.1 <+: sgs g.1) → ∀ pre : List RowV, (∀ x ∈ pre, x.1 ≠ f) → G.foldl (stepG f) .non = grpD (pre ++ G) f
  | [], _, pre, hp => by rw [List.append_nil, grp_no hp]; rfl
  | g :: G, h, pre, hp => by
    obtain ⟨h1, h2⟩ := List.pairwise_cons.mp h
    rw [List.foldl_cons]
    by_cases hg : g.1 = f
    · rw [grp_at hp hg, show stepG f .non g = .tup (g.2.map D.int) from if_pos hg]
      refine fold_no f G _ fun x hx hxf => (h1 x hx).1 ?_
      rw [hg, hxf]
      exact List.prefix_refl _
    · rw [show stepG f .non g = .non from if_neg hg, fold_grp f G h2 (pre ++ [g]) fun x hx => ?_, List.append_assoc, List.singleton_append]
      rcases List.mem_append.mp hx with hx | hx
      · exact hp x hx
      · rw [List.mem_singleton.mp hx]; exact hg
theorem grp_loop (x0 x1 x3 x4 x5 x7 x8 : Option Cell) (G : List RowV) (f : Str) (hG : BkP G) : forL [1, 4, 7, 8] (gmName 4) b_L_looks_1 (G.map (sh ∘ rowV)) [x0, x1, some (ln 0 (.str f)), x3, x4, x5, some ⟨.o, 0, .non⟩, x7, x8] = .nx [x0, none, some (ln 0 (.str f)), x3, none, x5, some ⟨.o, 0, grpD G f⟩, none, none] := by
  have e := fold_grp f G hG.ap [] (by simp)
  rw [List.nil_append] at e
  rw [← e]
  refine forL_fold (fun acc : D => [x0, none, some (ln 0 (.str f)), x3, none, x5, some ⟨.o, 0, acc⟩, none, none]) _ (stepG f) (fun _ _ => True) G .non _ rfl trivial ?_
  intro acc g r _
  refine ⟨trivial, fun K => ?_⟩
  unfold stepG
  by_cases hg : g.1 = f
  · rw [if_pos hg]
    unfold b_L_looks_1 rowV
    simp_arith! only [hg]
    exact ⟨_, rfl, rfl⟩
  · rw [if_neg hg]
    unfold b_L_looks_1 rowV
    simp_arith! only [hg]
    exact ⟨_, rfl, rfl⟩
theorem grp_two (G : List RowV) (f : Str) (hG : BkP G) : grpD G f = .non ∨ ∃ E : List Int, E.length ≤ 100 ∧ grpD G f = .tup (E.map D.int) := by
  unfold grpD
  cases h : G.find? fun g => decide (g.1 = f) with
  | none => exact .inl rfl
  | some g => exact .inr ⟨g.2, (hG.sz g (List.mem_of_find?_eq_some h)).2, rfl⟩
theorem sp_looks (q : Nat) (hq : q ≤ 1) (G : List RowV) (f : Str) (b : Bool) (hG : BkP G) (hf : f.length ≤ 200) : f_L_looks [ln q (objF G f), ln 0 (.lst (G.map rowV)), ln 0 (.str f), ln 0 (.bl b)] = .ok 0 (.bl true) [] := by
  have hlc := fun x0 x1 x3 x5 x6 x7 x8 => lc_looks x0 x1 x3 x5 x6 x7 x8 G f (fun g hg => (hG.sz g hg).1) hf
  have hGl := hG.le
  have hlp := fun x0 x1 x3 x4 x5 x7 x8 => grp_loop x0 x1 x3 x4 x5 x7 x8 G f hG
  have g1 := sp_group q hq G f hG
  have n1 := sp_numbers q hq G f hG.le
  rw [nums_eq] at n1
  have hl := nums_len G f
  have h2 := grp_two G f hG
  generalize numsL G f = L at *
  have hll : L.length ≤ 12 := by omega
  have hpl : D.pl 60 (.lst (L.map D.str)) = true := pl60_lst (f := D.str) (k := 0) L
  have he : D.eqv (.lst (L.map D.str)) (.lst (L.map D.str)) = true := by rw [eqv_lst (f := D.str)]; exact decide_eq_true rfl
  have hLD : (L.map D.str).length ≤ 12 := by rw [List.length_map]; exact hll
  generalize L.map D.str = LD at *
  generalize grpD G f = gd at *
  obtain ⟨a1, a2, a3, a4, a5⟩ := hG
  clear a2 a3 a4 a5 hl hll
  have ob : ∃ cc : Cell, cc = ln q (objF G f) := ⟨_, rfl⟩
  unfold f_L_looks s_L_looks
  rcases Nat.le_one_iff_eq_zero_or_eq_one.mp hq with rfl | rfl
  all_goals
    cases b
    all_goals
      rcases h2 with rfl | ⟨E, hE, rfl⟩
      · simp_arith! only [hlc, hlp, g1, n1, hpl, he, hLD]
      · simp_arith! only [hlc, hlp, g1, n1, hpl, he, hLD]
--@ cut
/-! ### one figure -/
abbrev figW (c : Nat) : Str := ⟨#[c]⟩
theorem in_fig (c : Nat) (h : c ∈ figs) : strIn (figW c) (Str.ofString "0123456789") = true := by
  rw [strIn_one, fig_cps]
  exact decide_eq_true h
theorem sp_isfig (c : Nat) (h : c ∈ figs) : f_is_figure [ln 0 (.str (figW c))] = .ok 0 (.bl true) [] := by
  have h1 := in_fig c h
  have h2 : (figW c).length = 1 := rfl
  unfold f_is_figure s_is_figure
  simp_arith! only [h1, h2]
theorem turn_fig (x : D) (n : Nat) (hn : n ≤ 1) (G : List RowV) (f : Str) (hx : f_is_figure [ln n x] = .ok 0 (.bl false) []) : f_Finder_turn [⟨.m 0, 1, objF G f⟩, ln n x] = .ex ⟨"NoFigure", []⟩ [objF G f] := by
  unfold f_Finder_turn s_Finder_turn
  simp_arith! only [hx]
theorem turn_no (c : Nat) (h : c ∈ figs) (G : List RowV) (f : Str) (hG : BkP G) (hw : wordS G f ≠ "on") : f_Finder_turn [⟨.m 0, 1, objF G f⟩, ln 0 (.str (figW c))] = .ex ⟨"NoTurn", []⟩ [objF G f] := by
  have h1 := sp_isfig c h
  have h2 := sp_word 1 (by omega) G f hG
  have h3 : (wordS G f = Str.ofString "on") = False := eq_false hw
  generalize wordS G f = w at *
  unfold f_Finder_turn s_Finder_turn
  simp_arith! only [h1, h2, h3]
theorem turn_on (c : Nat) (h : c ∈ figs) (G : List RowV) (f : Str) (hG : BkP G) (hf : f.length ≤ 200) (hw : wordS G f = "on") : f_Finder_turn [⟨.m 0, 1, objF G f⟩, ln 0 (.str (figW c))] = .ok 0 (.str (wordS G (f ++ figW c))) [objF G (f ++ figW c)] := by
  have h1 := sp_isfig c h
  have h2 := sp_word 1 (by omega) G f hG
  have h4 := sp_word 1 (by omega) G (f ++ figW c) hG
  have sz : (2000 : Nat) ≤ sizeLine := by decide
  have h5 : (figW c).length = 1 := rfl
  have g3 : f.length + (figW c).length ≤ sizeLine := by omega
  rw [hw] at h2
  generalize wordS G (f ++ figW c) = w at *
  unfold f_Finder_turn s_Finder_turn
  simp_arith! only [h1, h2, h4, g3]
--@ cut
theorem ref_fig (x : D) (n : Nat) (hn : n ≤ 1) (G : List RowV) (f : Str) (hx : f_is_figure [ln n x] = .ok 0 (.bl false) []) : f_L_refused [⟨.m 0, 1, objF G f⟩, ln n x] = .ok 0 (.str "figure") [objF G f] := by
  have h := turn_fig x n hn G f hx
  unfold f_L_refused s_L_refused
  simp_arith! only [h, cx_NoFigure]
theorem ref_turn (c : Nat) (hc : c ∈ figs) (G : List RowV) (f : Str) (hG : BkP G) (hw : wordS G f ≠ "on") : f_L_refused [⟨.m 0, 1, objF G f⟩, ln 0 (.str (figW c))] = .ok 0 (.str "turn") [objF G f] := by
  have h := turn_no c hc G f hG hw
  have ne1 : (Str.ofString "NoFigure" = Str.ofString "NoTurn") = False := eq_false (by decide)
  unfold f_L_refused s_L_refused
  simp_arith! only [h, ne1]
theorem new_aux (GD : List D) (hl : GD.length ≤ 12) : f_L_new [ln 0 (.lst GD)] = .ok 1 (.obj "Finder" [("listing", 1, .lst GD), ("dialled", 0, .str "")]) [] := by
  have hi : f_Finder___init__ [⟨.m 0, 1, .obj "Finder" []⟩, ln 1 (.lst GD)] = .ok 0 .non [.obj "Finder" [("listing", 1, .lst GD), ("dialled", 0, .str "")]] := by
    unfold f_Finder___init__ s_Finder___init__
    simp_arith! only [x_nil]
  unfold f_L_new s_L_new
  simp_arith! only [hi]
theorem sp_new (G : List RowV) (hG : BkP G) : f_L_new [ln 0 (.lst (G.map rowV))] = .ok 1 (objF G "") [] := new_aux _ (by rw [List.length_map]; exact hG.le)
--@ cut
/-! ### the books by digits -/
theorem len_app (x y : Str) : (x ++ y).length = x.length + y.length := PySem.Str.length_append _ _
theorem sgs_app (x y : Str) : sgs (x ++ y) = sgs x ++ sgs y := by
  show (x.cps ++ y.cps).toList = _
  simp
def dgS (z : Int) : Str := toString z
theorem dg_fig {z : Int} (h : 0 ≤ z ∧ z < 10) : z.natAbs.log2 < 1920 ∧ ∃ c ∈ figs, (dgS z) = figW c := by
  have hd : ∀ k ∈ List.range 10, ∃ c ∈ figs, (Str.ofString (toString (k : Int))) = figW c := by decide +kernel
  refine ⟨log_small (by omega), ?_⟩
  have := hd z.toNat (by simp; omega)
  rw [Int.toNat_of_nonneg h.1] at this
  exact this
def FigS (w : Str) : Prop := ∀ c ∈ sgs w, c ∈ figs
theorem figS_app {u v : Str} (hu : FigS u) (hv : FigS v) : FigS (u ++ v) := by
  intro c hc
  rw [sgs_app] at hc
  rcases List.mem_append.mp hc with h | h
  · exact hu c h
  · exact hv c h
theorem figS_nil : FigS "" := by
  intro c hc
  cases hc
theorem figS_one {c : Nat} (h : c ∈ figs) : FigS (figW c) := by
  intro d hd
  have : d ∈ [c] := hd
  rw [List.mem_singleton.mp this]
  exact h
theorem sp_figures_by (z : Int) (hz : 0 ≤ z) : ∃ w : Str, ∃ z' : Int, w.length ≤ 8 ∧ FigS w ∧ 0 ≤ z' ∧ f_L_figures_by [ln 0 (.int z)] = .ok 0 (.tup [.str w, .int z']) [] := by
  suffices h : ∀ Z : FR → Prop, (∀ (w : Str) (z' : Int), w.length ≤ 8 → FigS w → 0 ≤ z' → Z (.ok 0 (.tup [.str w, .int z']) [])) → Z (f_L_figures_by [ln 0 (.int z)]) from
    h (fun r => ∃ w : Str, ∃ z' : Int, w.length ≤ 8 ∧ FigS w ∧ 0 ≤ z' ∧ r = .ok 0 (.tup [.str w, .int z']) []) fun w z' h1 h2 h3 => ⟨w, z', h1, h2, h3, rfl⟩
  intro Z hZ
  have r1 : 0 ≤ 1 + z % 8 := by omega
  have r2 : 1 + z % 8 ≤ 8 := by omega
  have r3 : 0 ≤ z / 8 := by omega
  unfold f_L_figures_by s_L_figures_by
  simp_arith! only [x_nil]
  unfold rangeD
  refine forL_inv (fun k : Nat => sh (.int (0 + (k : Int)))) (fun r => Z (VL.fin [ln 0 (.int z)] (r.then (sRet (mTup 0 (mCons (mVar 1) (mCons (mVar 0) mNil))))))) (fun pre ρ => ∃ w : Str, ∃ z' : Int, w.length ≤ pre.length ∧ FigS w ∧ 0 ≤ z' ∧ ρ = [some (sh (.int z')), some (sh (.str w)), none, none]) ?_ ?_ ⟨"", z / 8, by decide, figS_nil, r3, rfl⟩
  · rintro pre k post ρ he ⟨w, z', h1, hw, h2, rfl⟩ K hK
    have hpl : pre.length < 8 := by
      have := congrArg List.length he
      simp at this
      omega
    clear he
    obtain ⟨g1, c, hc, g2⟩ := dg_fig (z := z' % 10) (by omega)
    have sz : (2000 : Nat) ≤ sizeLine := by decide
    have g5 : (figW c).length = 1 := rfl
    have g3 : w.length + (figW c).length ≤ sizeLine := by omega
    have g4 : w.length + (Str.ofString (toString (z' % 10))).length ≤ sizeLine := by
      have : Str.ofString (toString (z' % 10)) = figW c := g2
      rw [this]; exact g3
    have hk := hK [some (sh (.int (z' / 10))), some (sh (.str (w ++ dgS (z' % 10)))), none, some (sh (.int (k : Int)))] ⟨_, _, by rw [len_app, List.length_append, List.length_singleton, g2, g5]; omega, figS_app hw (by rw [g2]; exact figS_one hc), by omega, rfl⟩
    unfold dgS at hk
    clear hK hZ g2
    unfold b_L_figures_by_1
    simp_arith! only [g1, g4]
    exact hk
  · rintro ρ ⟨w, z', h1, hw, h2, rfl⟩
    have hl : w.length ≤ 8 := by rw [List.length_range] at h1; omega
    have := hZ w z' hl hw h2
    simp_arith! only [x_nil]
    exact this
--@ cut
theorem erase_ints : ∀ (F : List Int) (j : Nat), (F.map D.int).eraseIdx j = (F.eraseIdx j).map D.int
  | [], j => by simp
  | a :: F, 0 => by simp
  | a :: F, j + 1 => by
    have ih := erase_ints F j
    simp [ih]
theorem in_one (x0 x1 x2 x5 x6 x7 x8 x10 x11 x12 x13 x14 : Option Cell) (left : Int) (F E : List Int) (h0 : 0 ≤ left) (hF : F ≠ []) (hFl : F.length ≤ 30) (hEl : E.length ≤ 100) (Z : SR → Prop)
    (hZ : ∀ (v : Int) (F' : List Int) (left' : Int), F'.length + 1 = F.length → 0 ≤ left' → Z (.nx [x0, x1, x2, some (sh (.int left')), some (own 1 (.lst (F'.map D.int))), x5, x6, x7, x8, some (own 1 (.lst ((E ++ [v]).map D.int))), x10, x11, x12, x13, x14])) :
    Z (b_L_book_by_1 [x0, x1, x2, some (sh (.int left)), some (own 1 (.lst (F.map D.int))), x5, x6, x7, x8, some (own 1 (.lst (E.map D.int))), x10, x11, x12, x13, x14]) := by
  have hp := List.length_pos_iff.mpr hF
  have hp2 : (0 : Int) < ((F.length : Nat) : Int) := by omega
  obtain ⟨t, ht⟩ : ∃ t, left % ((F.length : Nat) : Int) = t := ⟨_, rfl⟩
  have t0 : 0 ≤ t := by rw [← ht]; exact Int.emod_nonneg _ (by omega)
  have t1 : t < ((F.length : Nat) : Int) := by rw [← ht]; exact Int.emod_lt_of_pos _ hp2
  have t2 : t < 9223372036854775808 := by omega
  have tl : t.toNat < F.length := by omega
  have hat : (F.map D.int)[t.toNat]? = some (.int F[t.toNat]) := by rw [List.getElem?_map, List.getElem?_eq_getElem tl]; rfl
  have her := erase_ints F t.toNat
  have hel : (F.eraseIdx t.toNat).length = F.length - 1 := List.length_eraseIdx_of_lt tl
  obtain ⟨F', hF'⟩ : ∃ F', F.eraseIdx t.toNat = F' := ⟨_, rfl⟩
  rw [hF'] at her hel
  have hz := hZ F[t.toNat] F' (left / (((F'.length : Nat) : Int) + 1)) (by omega) (Int.ediv_nonneg h0 (by omega))
  have hdp : (0 : Int) < ((F'.length : Nat) : Int) + 1 := by omega
  have hln : (F.map D.int).length = F.length := List.length_map ..
  have hgt : ∀ z, z = F.length → left % ((z : Nat) : Int) = t := fun z h => by rw [h, ht]
  generalize F[t.toNat] = v at *
  have hf9 : F'.length ≤ 29 := by omega
  clear hZ hF' hel
  rw [List.map_append, List.map_singleton] at hz
  have hEl2 : (E.map D.int).length ≤ 100 := by rw [List.length_map]; exact hEl
  generalize E.map D.int = ED at *
  unfold b_L_book_by_1
  simp_arith! only [hp2, ht, hat, her, t0, t2, hdp]
  exact hz
--@ cut
theorem in_loop (x0 x1 x2 x5 x6 x7 x8 x10 x11 x12 x13 x14 : Option Cell) (left : Int) (F : List Int) (h0 : 0 ≤ left) (hFl : F.length ≤ 30) (m : Nat) (hm : m ≤ F.length) (Z : SR → Prop)
    (hZ : ∀ (E F' : List Int) (left' : Int), E.length = m → F'.length ≤ 30 → 0 ≤ left' → Z (.nx [none, x1, none, some (sh (.int left')), some (own 1 (.lst (F'.map D.int))), x5, none, none, x8, some (own 1 (.lst (E.map D.int))), none, none, none, x13, x14])) :
    Z (forL [0, 2, 6, 7, 10, 11, 12] (gmName 11) b_L_book_by_1 (rangeD 0 m) [x0, x1, x2, some (sh (.int left)), some (own 1 (.lst (F.map D.int))), x5, x6, x7, x8, some (own 1 (.lst [])), x10, x11, x12, x13, x14]) := by
  unfold rangeD
  refine forL_inv (fun k : Nat => sh (.int (0 + (k : Int)))) Z (fun pre ρ => ∃ (E F' : List Int) (left' : Int), E.length = pre.length ∧ F'.length + pre.length = F.length ∧ 0 ≤ left' ∧ ρ = [none, x1, none, some (sh (.int left')), some (own 1 (.lst (F'.map D.int))), x5, none, none, x8, some (own 1 (.lst (E.map D.int))), none, none, none, x13, x14]) ?_ ?_ ⟨[], F, left, rfl, rfl, h0, rfl⟩
  · rintro pre k post ρ he ⟨E, F', left', h1, h2, h3, rfl⟩ K hK
    have hpl : pre.length < m := by
      have := congrArg List.length he
      simp at this
      omega
    have hF' : F' ≠ [] := fun z => by rw [z] at h2; simp at h2; omega
    refine in_one none x1 none x5 none none x8 none (some (sh (.int (0 + (k : Int))))) none x13 x14 left' F' E h3 hF' (by omega) (by omega) (fun r => Z (r.loop [0, 2, 6, 7, 10, 11, 12] K)) ?_
    intro v F2 l2 q1 q2
    refine hK _ ⟨E ++ [v], F2, l2, by simp [h1], by rw [List.length_append, List.length_singleton]; omega, q2, rfl⟩
  · rintro ρ ⟨E, F', left', h1, h2, h3, rfl⟩
    rw [List.length_range] at h1 h2
    exact hZ E F' left' h1 (by omega) h3
noncomputable def nearG (G : List RowV) (w : Str) : List RowV := G.filter fun g => dB (sgs w <+: sgs g.1) || dB (sgs g.1 <+: sgs w)
theorem lc_near (x0 x1 x2 x3 x4 x5 x6 x7 x9 x10 x11 x12 : Option Cell) (G : List RowV) (w : Str) (hG : ∀ g ∈ G, g.1.length ≤ 100) (hw : w.length ≤ 200) : lcL 0 [13, 14] (gmTup 2 (gmCons (gmName 13) (gmCons (gmName 14) gmNil))) (mOr (mTst (mOp (eqM false) (mSlT (mVar 13) moNone (moSome (mCB lenM (mCons (mVar 8) mNil)))) (mVar 8))) ((mTst (mOp (eqM false) (mSlT (mVar 8) moNone (moSome (mCB lenM (mCons (mVar 13) mNil)))) (mVar 13))))) (mVar 13) [x0, x1, x2, x3, x4, x5, x6, x7, some ⟨.o, 0, .str w⟩, x9, x10, x11, x12, none, none] (G.map (sh ∘ rowV)) = .ok ((nearG G w).map numW) := by
  unfold nearG
  refine lc_map (fun g : RowV => dB (sgs w <+: sgs g.1) || dB (sgs g.1 <+: sgs w)) numW _ fun g hg rest => ?_
  have s1 := eqv_pre g.1 w
  have s2 := eqv_pre w g.1
  have hgl := hG g hg
  have sz : (1000 : Nat) ≤ sizeLine := by decide
  have z1 : g.1.length ≤ sizeLine := by omega
  have z2 : w.length ≤ sizeLine := by omega
  unfold numW
  generalize dB (sgs w <+: sgs g.1) = b at *
  generalize dB (sgs g.1 <+: sgs w) = c at *
  unfold rowV
  cases b <;> cases c <;> simp_arith! only [s1, s2, z1, z2]
theorem near_nil {G : List RowV} {w : Str} : nearG G w = [] ↔ ∀ g ∈ G, ¬ sgs w <+: sgs g.1 ∧ ¬ sgs g.1 <+: sgs w := by
  unfold nearG
  rw [List.filter_eq_nil_iff]
  refine forall_congr' fun g => imp_congr_right fun _ => ?_
  rw [Bool.or_eq_true, dB_iff, dB_iff, not_or]
--@ cut
structure BkQ (m : Nat) (G : List RowV) : Prop where
  le : G.length ≤ m
  fg : ∀ g ∈ G, FigS g.1
  sz : ∀ g ∈ G, g.1.length ≤ 100 ∧ g.2.length ≤ 100
  ap : G.Pairwise fun g h => ¬ sgs g.1 <+: sgs h.1 ∧ ¬ sgs h.1 <+: sgs g.1
theorem BkQ.snoc {m : Nat} {G : List RowV} (h : BkQ m G) {w : Str} {E : List Int} (hw : w.length ≤ 100) (hf : FigS w) (hE : E.length ≤ 100) (hn : nearG G w = []) : BkQ (m + 1) (G ++ [(w, E)]) := by
  have hn := near_nil.mp hn
  refine ⟨by rw [List.length_append, List.length_singleton]; have := h.le; omega, ?_, ?_, List.pairwise_append.mpr ⟨h.ap, List.pairwise_singleton _ _, fun g hg x hx => ?_⟩⟩
  · intro g hg
    rcases List.mem_append.mp hg with hg | hg
    · exact h.fg g hg
    · rw [List.mem_singleton.mp hg]; exact hf
  · intro g hg
    rcases List.mem_append.mp hg with hg | hg
    · exact h.sz g hg
    · rw [List.mem_singleton.mp hg]; exact ⟨hw, hE⟩
  · rw [List.mem_singleton.mp hx]
    exact ⟨(hn g hg).2, (hn g hg).1⟩
theorem BkQ.up {m m' : Nat} {G : List RowV} (h : BkQ m G) (e : m ≤ m') : BkQ m' G := ⟨Nat.le_trans h.le e, h.fg, h.sz, h.ap⟩
theorem by_turn (x0 x2 x6 x7 x8 x9 x10 x11 x12 : Option Cell) (m : Nat) (hm : m ≤ 12) (G : List RowV) (hG : BkQ m G) (F : List Int) (hF : F.length ≤ 30) (left : Int) (h0 : 0 ≤ left) (Z : SR → Prop)
    (hZ : ∀ (G' : List RowV) (F' : List Int) (left' : Int), BkQ (m + 1) G' → (G = [] → F.length = 30 → G' ≠ []) → (G ≠ [] → G' ≠ []) → F'.length ≤ 30 → 0 ≤ left' → ∀ y8 y9 y12, Z (.nx [none, some (ln 0 (.int 3)), none, some (sh (.int left')), some (own 1 (.lst (F'.map D.int))), some (own 1 (.lst (G'.map rowV))), none, none, y8, y9, none, none, y12, none, none])) :
    Z (b_L_book_by_2 [x0, some (ln 0 (.int 3)), x2, some (sh (.int left)), some (own 1 (.lst (F.map D.int))), some (own 1 (.lst (G.map rowV))), x6, x7, x8, x9, x10, x11, x12, none, none]) := by
  obtain ⟨w, l2, w8, wf, l0, ef⟩ := sp_figures_by left h0
  have r1 : 1 ≤ 1 + l2 % 3 := by omega
  obtain ⟨mm, hmm⟩ : ∃ mm : Nat, (if ((F.length : Nat) : Int) < 1 + l2 % 3 then ((F.length : Nat) : Int) else 1 + l2 % 3) = (mm : Int) := ⟨(if ((F.length : Nat) : Int) < 1 + l2 % 3 then ((F.length : Nat) : Int) else 1 + l2 % 3).toNat, by split <;> omega⟩
  have hm1 : mm ≤ F.length := by split at hmm <;> omega
  have hm2 : F.length = 30 → 1 ≤ mm := by intro h; split at hmm <;> omega
  have hm3 : mm ≤ 3 := by split at hmm <;> omega
  have hdq : 0 ≤ l2 / 3 := by omega
  have hGl := hG.le
  have hlc := fun x0 x1 x2 x3 x4 x5 x6 x7 x9 x10 x11 x12 => lc_near x0 x1 x2 x3 x4 x5 x6 x7 x9 x10 x11 x12 G w (fun g hg => (hG.sz g hg).1) (by omega)
  have hnl : (nearG G w).length ≤ 12 := Nat.le_trans (List.length_filter_le _ _) (by omega)
  have hsn := fun (E : List Int) (hE : E.length ≤ 100) => hG.snoc (w := w) (E := E) (by omega) wf hE
  have hup := hG.up (m' := m + 1) (by omega)
  have hnn : G = [] → nearG G w = [] := fun z => by rw [z]; rfl
  unfold b_L_book_by_2
  simp_arith! only [ef, hmm]
  refine in_loop _ _ _ _ _ _ _ _ _ _ _ _ (l2 / 3) F hdq hF mm hm1 (fun r => Z (r.then _)) ?_
  intro E F' l' hE hF' hl'
  have hE3 : E.length ≤ 3 := by omega
  have hz1 := hZ (G ++ [(w, E)]) F' l'
  have hz2 := hZ G F' l' hup
  have hEp : D.pl 60 (.lst (E.map D.int)) = true := pl60_lst (f := D.int) (k := 0) E
  have hGD : (G.map rowV).length ≤ 12 := by rw [List.length_map]; omega
  clear hZ ef
  by_cases hn : nearG G w = []
  · have hz1 := hz1 (hsn E (by omega) hn)
    rw [hn] at hlc
    by_cases hEn : E = []
    · have hz2 := hz2 (fun z1 z2 => by
        have := hm2 z2
        rw [hEn] at hE
        simp at hE
        omega) (fun z => z) hF' hl'
      clear hz1
      subst hEn
      simp_arith! only [hlc]
      exact hz2 _ _ _
    · have he : D.eqv (.lst (E.map D.int)) (.lst []) = false := by rw [eqv_lst_nil (f := D.int)]; exact decide_eq_false hEn
      have hz1 := hz1 (fun _ _ => by simp) (fun _ => by simp) hF' hl'
      rw [List.map_append, List.map_singleton] at hz1
      clear hz2
      rw [show rowV (w, E) = .tup [.str w, .tup (E.map D.int)] from rfl] at hz1
      simp_arith! only [hlc, he, hEp]
      exact hz1 _ _ _
  · have hz2 := hz2 (fun z => absurd (hnn z) hn) (fun z => z) hF' hl'
    clear hz1
    obtain ⟨u, us, hu⟩ := List.exists_cons_of_ne_nil hn
    rw [hu] at hlc hnl
    have hul : us.length ≤ 12 := by rw [List.length_cons] at hnl; omega
    have hpl := pl_txs u.1 us
    unfold numW at hlc
    by_cases hEn : E = []
    · subst hEn
      simp_arith! only [hlc, hpl]
      exact hz2 _ _ _
    · have he : D.eqv (.lst (E.map D.int)) (.lst []) = false := by rw [eqv_lst_nil (f := D.int)]; exact decide_eq_false hEn
      generalize E.map D.int = ED at *
      simp_arith! only [hlc, hpl, he, hEp]
      exact hz2 _ _ _
--@ cut
theorem sp_book_by (z : Int) : ∃ G, BkP G ∧ f_L_book_by [ln 0 (.int 30), ln 0 (.int 3), ln 0 (.int z)] = .ok 1 (.lst (G.map rowV)) [] := by
  suffices h : ∀ Z : FR → Prop, (∀ G, BkP G → Z (.ok 1 (.lst (G.map rowV)) [])) → Z (f_L_book_by [ln 0 (.int 30), ln 0 (.int 3), ln 0 (.int z)]) from
    h (fun r => ∃ G, BkP G ∧ r = .ok 1 (.lst (G.map rowV)) []) fun G h => ⟨G, h, rfl⟩
  intro Z hZ
  obtain ⟨a, ha⟩ : ∃ a, (if z < 0 then -z else z) = a := ⟨_, rfl⟩
  have a0 : 0 ≤ a := by rw [← ha]; split <;> omega
  have r1 : 1 ≤ 1 + a % 9 := by omega
  have r2 : 1 + a % 9 ≤ 9 := by omega
  have hq : 0 ≤ a / 9 := by omega
  obtain ⟨mm, hmm⟩ : ∃ mm : Nat, 1 + a % 9 = (mm : Int) := ⟨(1 + a % 9).toNat, by omega⟩
  have m1 : 1 ≤ mm := by omega
  have m9 : mm ≤ 9 := by omega
  have hr : (List.range 30).map (fun i : Nat => D.int (i : Int)) = ((List.range 30).map fun i : Nat => (i : Int)).map D.int := by rw [List.map_map]; rfl
  have hrl : ((List.range 30).map fun i : Nat => (i : Int)).length = 30 := by simp
  unfold f_L_book_by s_L_book_by
  simp_arith! only [ha, hmm]
  rw [hr]
  generalize ((List.range 30).map fun i : Nat => (i : Int)) = F0 at *
  unfold rangeD
  refine forL_inv (fun k : Nat => sh (.int (0 + (k : Int)))) (fun r => Z (VL.fin [ln 0 (.int 30), ln 0 (.int 3), ln 0 (.int z)] (r.then (sRetF (fMv 5))))) (fun pre ρ => ∃ (G : List RowV) (F : List Int) (left : Int), BkQ pre.length G ∧ (pre ≠ [] → G ≠ []) ∧ (pre = [] → G = [] ∧ F.length = 30) ∧ F.length ≤ 30 ∧ 0 ≤ left ∧ ρ = [none, some (ln 0 (.int 3)), none, some (sh (.int left)), some (own 1 (.lst (F.map D.int))), some (own 1 (.lst (G.map rowV))), none, none, none, none, none, none, none, none, none]) ?_ ?_ ⟨[], F0, a / 9, ⟨Nat.le_refl _, by simp, by simp, List.Pairwise.nil⟩, fun h => absurd rfl h, fun _ => ⟨rfl, hrl⟩, by omega, hq, rfl⟩
  · rintro pre k post ρ he ⟨G, F, left, hB, h1, h2, h3, h4, rfl⟩ K hK
    have hpl : pre.length < 9 := by
      have := congrArg List.length he
      simp at this
      omega
    clear he hZ
    have ht := by_turn none none none (some (sh (.int (0 + (k : Int))))) none none none none none pre.length (by omega) G hB F h3 left h4 (fun r => Z (VL.fin [ln 0 (.int 30), ln 0 (.int 3), ln 0 (.int z)] ((r.loop [0, 2, 6, 7, 8, 9, 10, 11, 12] K).then (sRetF (fMv 5))))) (fun G' F' left' q1 q2 q3 q4 q5 y8 y9 y12 => by
      refine hK _ ⟨G', F', left', by rw [List.length_append, List.length_singleton]; exact q1, fun _ => ?_, fun z => absurd z (by simp), q4, q5, rfl⟩
      by_cases hp : pre = []
      · exact q2 (h2 hp).1 (h2 hp).2
      · exact q3 (h1 hp))
    exact ht
  · rintro ρ ⟨G, F, left, hB, h1, h2, h3, h4, rfl⟩
    rw [List.length_range] at hB
    have hne : G ≠ [] := h1 fun z => by
      have := congrArg List.length z
      simp at this
      omega
    have := hZ G ⟨Nat.le_trans hB.le (by omega), hne, hB.fg, hB.sz, hB.ap⟩
    have hGD : (G.map rowV).length ≤ 12 := by rw [List.length_map]; have := hB.le; omega
    generalize G.map rowV = GD at *
    simp_arith! only [x_nil]
    exact this
--@ cut
/-! ### the made books -/
def D2 (x : Nat) : List Nat := [48 + x / 10, 48 + x % 10]
theorem hn_two : ∀ x ∈ List.range 100, cutS (Str.ofString (toString ((100 + x : Nat) : Int))) (some 1) none = stL (D2 x) ∧ (Str.ofString (toString ((100 + x : Nat) : Int))).length = 3 ∧ ∀ c ∈ D2 x, c ∈ figs := by decide +kernel
theorem head_ok : ∀ m ∈ List.range 5, (cutS (Str.ofString "91750") none (some (m : Int))).length ≤ 5 ∧ ∀ c ∈ sgs (cutS (Str.ofString "91750") none (some (m : Int))), c ∈ figs := by decide +kernel
theorem tail_ok : ∀ m ∈ List.range 3, (cutS (Str.ofString "04") none (some (m : Int))).length ≤ 2 ∧ ∀ c ∈ sgs (cutS (Str.ofString "04") none (some (m : Int))), c ∈ figs := by decide +kernel
theorem D2_pre {h t u : List Nat} {x y : Nat} (hp : (h ++ (D2 x ++ t)) <+: (h ++ (D2 y ++ u))) : x = y := by
  rw [List.prefix_append_right_inj] at hp
  unfold D2 at hp
  rw [List.cons_append, List.cons_append, List.cons_append, List.cons_append, List.cons_prefix_cons, List.cons_prefix_cons] at hp
  omega
theorem book_turn (x4 x5 : Option Cell) (s : Int) (hs : 0 ≤ s) (hd : Str) (hdl : hd.length ≤ 5) (hdf : FigS hd) (G : List D) (hG : G.length ≤ 12) (k : Nat) (hk : k < 12) (Z : SR → Prop)
    (hZ : ∀ (w : Str) (E : List Int) (t : List Nat), w.length ≤ 9 → FigS w → sgs w = sgs hd ++ (D2 (((k : Int) * 37 + s / 180) % 100).toNat ++ t) → E.length ≤ 2 → ∀ y4 y5, Z (.nx [some (ln 0 (.int s)), some (sh (.str hd)), some (own 1 (.lst (G ++ [rowV (w, E)]))), some (sh (.int (k : Int))), y4, y5])) :
    Z (b_L_book_1 [some (ln 0 (.int s)), some (sh (.str hd)), some (own 1 (.lst G)), some (sh (.int (k : Int))), x4, x5]) := by
  obtain ⟨x, hx⟩ : ∃ x : Nat, ((k : Int) * 37 + s / 180) % 100 = (x : Int) := ⟨(((k : Int) * 37 + s / 180) % 100).toNat, by omega⟩
  have x1 : x < 100 := by omega
  obtain ⟨a1, a2, a3⟩ := hn_two x (List.mem_range.mpr x1)
  obtain ⟨m, hm⟩ : ∃ m : Nat, (s / 60 + (k : Int) * (k : Int)) % 3 = (m : Int) := ⟨((s / 60 + (k : Int) * (k : Int)) % 3).toNat, by omega⟩
  obtain ⟨b1, b2⟩ := tail_ok m (List.mem_range.mpr (by omega))
  obtain ⟨T, hT⟩ : ∃ T : Str, (toString (100 + (x : Int)) : Str) = T := ⟨_, rfl⟩
  have hT2 : Str.ofString (toString ((100 + x : Nat) : Int)) = T := by rw [← hT]; rfl
  rw [hT2] at a1 a2
  have g1 : (100 + (x : Int)).natAbs.log2 < 1920 := log_small (by omega)
  obtain ⟨V, hV⟩ : ∃ V, cutS (Str.ofString "04") none (some (m : Int)) = V := ⟨_, rfl⟩
  rw [hV] at b1 b2
  obtain ⟨U, hU⟩ : ∃ U, cutS T (some 1) none = U := ⟨_, rfl⟩
  rw [hU] at a1
  have uL : U.length = 2 := by rw [a1]; rfl
  have sz : (2000 : Nat) ≤ sizeLine := by decide
  have l04 : (Str.ofString "04").length = 2 := by decide +kernel
  have z1 : (Str.ofString "04").length ≤ sizeLine := by omega
  have z2 : T.length ≤ sizeLine := by omega
  have z3 : hd.length + U.length ≤ sizeLine := by omega
  have z4 : (hd ++ U).length + V.length ≤ sizeLine := by rw [len_app]; omega
  have uf : FigS U := by rw [a1]; exact a3
  have hw : FigS (hd ++ U ++ V) := figS_app (figS_app hdf uf) b2
  have hwl : (hd ++ U ++ V).length ≤ 9 := by rw [len_app, len_app]; omega
  have hsg : sgs (hd ++ U ++ V) = sgs hd ++ (D2 (((k : Int) * 37 + s / 180) % 100).toNat ++ sgs V) := by
    rw [sgs_app, sgs_app, a1, hx, List.append_assoc]
    rfl
  have hz := fun E hE => hZ (hd ++ U ++ V) E (sgs V) hwl hw hsg hE
  clear hZ hsg hw uf a1 hwl
  unfold rowV at hz
  unfold b_L_book_1
  by_cases h2 : (k : Int) % 2 = 0
  · simp_arith! only [hx, hm, hT, hV, hU, g1, z1, z2, z3, z4, h2]
    have e : cutD [D.int (k : Int), D.int (40 + s / 7 % 9 + (k : Int))] none (some 1) = [(k : Int)].map D.int := rfl
    rw [e]
    exact hz [(k : Int)] (by simp) _ _
  · have h3 : (k : Int) % 2 = 1 := by omega
    simp_arith! only [hx, hm, hT, hV, hU, g1, z1, z2, z3, z4, h3]
    have e : cutD [D.int (k : Int), D.int (40 + s / 7 % 9 + (k : Int))] none (some 2) = [(k : Int), 40 + s / 7 % 9 + (k : Int)].map D.int := rfl
    rw [e]
    exact hz [(k : Int), 40 + s / 7 % 9 + (k : Int)] (by simp) _ _
--@ cut
theorem sp_L_book (s : Int) (hs : 0 ≤ s) : ∃ G, BkP G ∧ f_L_book [ln 0 (.int s)] = .ok 1 (.lst (G.map rowV)) [] := by
  suffices h : ∀ Z : FR → Prop, (∀ G, BkP G → Z (.ok 1 (.lst (G.map rowV)) [])) → Z (f_L_book [ln 0 (.int s)]) from
    h (fun r => ∃ G, BkP G ∧ r = .ok 1 (.lst (G.map rowV)) []) fun G h => ⟨G, h, rfl⟩
  intro Z hZ
  obtain ⟨m, hm⟩ : ∃ m : Nat, s % 5 = (m : Int) := ⟨(s % 5).toNat, by omega⟩
  obtain ⟨b1, b2⟩ := head_ok m (List.mem_range.mpr (by omega))
  obtain ⟨hd, hhd⟩ : ∃ hd, cutS (Str.ofString "91750") none (some (m : Int)) = hd := ⟨_, rfl⟩
  rw [hhd] at b1 b2
  have r1 : 1 ≤ 1 + s / 5 % 12 := by omega
  have r2 : 1 + s / 5 % 12 ≤ 12 := by omega
  obtain ⟨mm, hmm⟩ : ∃ mm : Nat, 1 + s / 5 % 12 = (mm : Int) := ⟨(1 + s / 5 % 12).toNat, by omega⟩
  have m1 : 1 ≤ mm := by omega
  have m12 : mm ≤ 12 := by omega
  have sz : (2000 : Nat) ≤ sizeLine := by decide
  have l5 : (Str.ofString "91750").length = 5 := by decide +kernel
  have z1 : (Str.ofString "91750").length ≤ sizeLine := by omega
  unfold f_L_book s_L_book
  simp_arith! only [hm, hhd, hmm, z1]
  unfold rangeD
  refine forL_inv (fun k : Nat => sh (.int (0 + (k : Int)))) (fun r => Z (VL.fin [ln 0 (.int s)] (r.then (sRetF (fMv 2))))) (fun pre ρ => ∃ G : List RowV, BkQ pre.length G ∧ G.length = pre.length ∧ (∀ g ∈ G, ∃ (j : Nat) (t : List Nat), j < pre.length ∧ sgs g.1 = sgs hd ++ (D2 (((j : Int) * 37 + s / 180) % 100).toNat ++ t)) ∧ pre = List.range pre.length ∧ ρ = [some (ln 0 (.int s)), some (sh (.str hd)), some (own 1 (.lst (G.map rowV))), none, none, none]) ?_ ?_ ⟨[], ⟨Nat.le_refl _, by simp, by simp, List.Pairwise.nil⟩, rfl, by simp, rfl, rfl⟩
  · rintro pre k post ρ he ⟨G, hB, h1, h2, h3, rfl⟩ K hK
    have hpl : pre.length < mm := by
      have := congrArg List.length he
      simp at this
      omega
    have hkp : k = pre.length := by
      have := congrArg (fun l => l[pre.length]?) he
      simp [hpl] at this
      omega
    have hk12 : k < 12 := by omega
    have ht := book_turn none none s hs hd b1 b2 (G.map rowV) (by rw [List.length_map]; omega) k hk12 (fun r => Z (VL.fin [ln 0 (.int s)] ((r.loop [3, 4, 5] K).then (sRetF (fMv 2))))) (fun w E t w9 wf ws hE y4 y5 => by
      refine hK _ ⟨G ++ [(w, E)], ?_, by simp [h1], ?_, ?_, ?_⟩
      · rw [List.length_append, List.length_singleton]
        refine hB.snoc (by omega) wf (by omega) (near_nil.mpr fun g hg => ?_)
        obtain ⟨j, u, hj, hgs⟩ := h2 g hg
        rw [ws, hgs]
        refine ⟨fun hp => ?_, fun hp => ?_⟩
        · have := D2_pre hp
          omega
        · have := D2_pre hp
          omega
      · intro g hg
        rw [List.length_append, List.length_singleton]
        rcases List.mem_append.mp hg with hg | hg
        · obtain ⟨j, u, hj, hgs⟩ := h2 g hg
          exact ⟨j, u, by omega, hgs⟩
        · rw [List.mem_singleton.mp hg]
          exact ⟨k, t, by omega, ws⟩
      · rw [List.length_append, List.length_singleton, List.range_succ, ← h3, hkp]
      · rw [List.map_append, List.map_singleton]
        rfl)
    clear hK hZ he h3
    simp_arith! only [x_nil]
    exact ht
  · rintro ρ ⟨G, hB, h1, h2, h3, rfl⟩
    rw [List.length_range] at hB h1
    have := hZ G ⟨Nat.le_trans hB.le (by omega), fun z => by rw [z] at h1; simp at h1; omega, hB.fg, hB.sz, hB.ap⟩
    have hGD : (G.map rowV).length ≤ 12 := by rw [List.length_map]; omega
    generalize G.map rowV = GD at *
    clear hZ h2 h3
    simp_arith! only [x_nil]
    exact this
--@ cut
/-! ### a turn of the law -/
noncomputable def tl_lw2 : MS := (sIf (mTst (mOp (eqM false) (mCall 2 f_L_where [] (mCons (mVar 3) (mCons (mVar 5) mNil))) (mC (.str "on")))) (sSeq (sAsg (mOp addM (mVar 5) (mVar 10)) (gmName 5)) (sIfF (ftTst (fOp (eqM true) (fMeth "turn" 2 [("Finder", f_Finder_turn)] [] (rxVar 4) (mCons (mVar 10) mNil)) (fPure (mCall 2 f_L_where [] (mCons (mVar 3) (mCons (mVar 5) mNil)))))) (sRet (mC (.bl false))) (sNext))) (sSeq (sIfF (ftOr (ftTst (fOp (eqM true) (fCall 2 f_L_refused [] (frIo 4 (frC (fPure (mVar 10)) frNil))) (fPure (mC (.str "turn"))))) (ftPure (mNot (mTst (mCall 4 f_L_looks [] (mCons (mVar 4) (mCons (mVar 3) (mCons (mVar 5) (mCons (mC (.bl true)) mNil))))))))) (sRet (mC (.bl false))) (sNext)) (sSeq (sAsg (mCall 1 f_L_new [] (mCons (mVar 3) mNil)) (gmName 4)) (sSeq (sAsg (mC (.str "")) (gmName 5)) (sAsg (mOp ixU (mOp ixU (mVar 3) (mOp modM (mOp divM (mVar 8) (mC (.int 1080))) (mCB lenM (mCons (mVar 3) mNil)))) (mC (.int 0))) (gmName 6))))))
noncomputable def tl_lw1 : MS := (sSeq (sAsg (mCB strM (mCons (mOp modM (mOp divM (mVar 8) (mC (.int 108))) (mC (.int 10))) mNil)) (gmName 10)) (sSeq (sIf (mAnd (mTst (mOp gtM (mOp modM (mVar 8) (mC (.int 4))) (mC (.int 0)))) (mAnd (mTst (mOp ltM (mCB lenM (mCons (mVar 5) mNil)) (mCB lenM (mCons (mVar 6) mNil)))) ((mTst (mOp (eqM false) (mSlT (mVar 6) moNone (moSome (mCB lenM (mCons (mVar 5) mNil)))) (mVar 5)))))) (sAsg (mOp ixU (mVar 6) (mCB lenM (mCons (mVar 5) mNil))) (gmName 10)) (sNext)) tl_lw2))
noncomputable def tl_lw0 : MS := (sSeq (sIf (mTst (mOp (eqM false) (mOp modM (mVar 8) (mC (.int 12))) (mC (.int 0)))) (sSeq (sAsg (mOp ixU (mLst 0 (mCons (mC (.str "")) (mCons (mC (.str "12")) (mCons (mC (.str "a")) (mCons (mC (.int 7)) (mCons (mC .non) (mCons (mC (.bl true)) (mCons (mLst 0 (mCons (mC (.str "1")) mNil)) (mCons (mC (.str " ")) (mCons (mC (.str "-")) mNil)))))))))) (mOp modM (mOp divM (mVar 8) (mC (.int 12))) (mC (.int 9)))) (gmName 9)) (sIfF (ftTst (fOp (eqM true) (fCall 2 f_L_refused [] (frIo 4 (frC (fPure (mVar 9)) frNil))) (fPure (mC (.str "figure"))))) (sRet (mC (.bl false))) (sNext))) (sNext)) tl_lw1)
theorem b_law_1_eq : b_law_1 = (sSeq (sAsg (mCall 2 f_L_mixed [] (mCons (mOp ixU (mVar 0) (mVar 7)) (mCons (mVar 7) mNil))) (gmName 8)) (sSeq (sIf (mNot (mTst (mCall 4 f_L_looks [] (mCons (mVar 4) (mCons (mVar 3) (mCons (mVar 5) (mCons (mOp (eqM false) (mOp modM (mOp divM (mVar 8) (mC (.int 7))) (mC (.int 2))) (mC (.int 1))) mNil))))))) (sRet (mC (.bl false))) (sNext)) tl_lw0)) := rfl
def headL (G : List RowV) (f aim : Str) (c : Int) (ns : List Int) (k : Int) (x1 x2 x9 x10 : Option Cell) : VL.Env := [some ⟨.o, 0, .lst (ns.map D.int)⟩, x1, x2, some ⟨.o, 0, .lst (G.map rowV)⟩, some ⟨.o, 1, objF G f⟩, some ⟨.o, 0, .str f⟩, some ⟨.o, 0, .str aim⟩, some ⟨.o, 0, .int k⟩, some ⟨.o, 0, .int c⟩, x9, x10]
theorem lw2_ok (G : List RowV) (hG : BkP G) (f aim : Str) (hf : f.length ≤ 100) (c : Int) (hc : 0 ≤ c) (d : Nat) (hd : d ∈ figs) (CD : D) (k : Int) (x1 x2 x9 : Option Cell) (Z : SR → Prop)
    (hZ : ∀ (f' aim' : Str), f'.length ≤ f.length + 1 → (aim' = aim ∨ ∃ g ∈ G, aim' = g.1) → Z (.nx [some ⟨.o, 0, CD⟩, x1, x2, some ⟨.o, 0, .lst (G.map rowV)⟩, some ⟨.o, 1, objF G f'⟩, some ⟨.o, 0, .str f'⟩, some ⟨.o, 0, .str aim'⟩, some ⟨.o, 0, .int k⟩, some ⟨.o, 0, .int c⟩, x9, some ⟨.o, 0, .str (figW d)⟩])) :
    Z (tl_lw2 [some ⟨.o, 0, CD⟩, x1, x2, some ⟨.o, 0, .lst (G.map rowV)⟩, some ⟨.o, 1, objF G f⟩, some ⟨.o, 0, .str f⟩, some ⟨.o, 0, .str aim⟩, some ⟨.o, 0, .int k⟩, some ⟨.o, 0, .int c⟩, x9, some ⟨.o, 0, .str (figW d)⟩]) := by
  have w1 := sp_where G f hG (by omega)
  have sz : (2000 : Nat) ≤ sizeLine := by decide
  have h5 : (figW d).length = 1 := rfl
  have hfl : (f ++ figW d).length = f.length + 1 := by rw [len_app, h5]
  have g3 : f.length + (figW d).length ≤ sizeLine := by omega
  by_cases hw : wordS G f = "on"
  · have w2 := sp_where G (f ++ figW d) hG (by omega)
    have t2 := turn_on d hd G f hG (by omega) hw
    have hz := hZ (f ++ figW d) aim (by omega) (.inl rfl)
    rw [hw] at w1
    clear hZ
    generalize wordS G (f ++ figW d) = u at *
    unfold tl_lw2
    simp_arith! only [w1, w2, t2, g3]
    exact hz
  · have w3 : (wordS G f = Str.ofString "on") = False := eq_false hw
    have r1 := ref_turn d hd G f hG hw
    have lk := sp_looks 1 (by omega) G f true hG (by omega)
    have nw := sp_new G hG
    have hl : 0 < G.length := List.length_pos_iff.mpr hG.ne
    have hl2 : (0 : Int) < ((G.length : Nat) : Int) := by omega
    obtain ⟨t, ht⟩ : ∃ t, c / 1080 % ((G.length : Nat) : Int) = t := ⟨_, rfl⟩
    have t0 : 0 ≤ t := by rw [← ht]; exact Int.emod_nonneg _ (by omega)
    have t1 : t < ((G.length : Nat) : Int) := by rw [← ht]; exact Int.emod_lt_of_pos _ hl2
    have tl : t.toNat < G.length := by omega
    have hat : G[t.toNat]? = some G[t.toNat] := List.getElem?_eq_getElem tl
    have hz := hZ "" G[t.toNat].1 (by show 0 ≤ _; omega) (.inr ⟨_, List.getElem_mem tl, rfl⟩)
    have hln : (G.map rowV).length = G.length := List.length_map ..
    have hGl := hG.le
    have hge : ∀ h : t.toNat < (G.map rowV).length, (G.map rowV)[t.toNat]'h = .tup [.str G[t.toNat].1, .tup (G[t.toNat].2.map D.int)] := fun h => by rw [List.getElem_map]; rfl
    clear hZ
    generalize wordS G f = u at *
    generalize G[t.toNat] = g at *
    unfold tl_lw2
    simp_arith! only [w1, w3, r1, lk, nw, hl2, ht, hge]
    exact hz
--@ cut
theorem lw1_ok (G : List RowV) (hG : BkP G) (f aim : Str) (hf : f.length ≤ 100) (ha : ∃ g ∈ G, aim = g.1) (c : Int) (hc : 0 ≤ c) (CD : D) (k : Int) (x1 x2 x9 x10 : Option Cell) (Z : SR → Prop)
    (hZ : ∀ (f' aim' : Str) (x10 : Option Cell), f'.length ≤ f.length + 1 → (∃ g ∈ G, aim' = g.1) → Z (.nx [some ⟨.o, 0, CD⟩, x1, x2, some ⟨.o, 0, .lst (G.map rowV)⟩, some ⟨.o, 1, objF G f'⟩, some ⟨.o, 0, .str f'⟩, some ⟨.o, 0, .str aim'⟩, some ⟨.o, 0, .int k⟩, some ⟨.o, 0, .int c⟩, x9, x10])) :
    Z (tl_lw1 [some ⟨.o, 0, CD⟩, x1, x2, some ⟨.o, 0, .lst (G.map rowV)⟩, some ⟨.o, 1, objF G f⟩, some ⟨.o, 0, .str f⟩, some ⟨.o, 0, .str aim⟩, some ⟨.o, 0, .int k⟩, some ⟨.o, 0, .int c⟩, x9, x10]) := by
  have fin : ∀ d ∈ figs, Z (tl_lw2 [some ⟨.o, 0, CD⟩, x1, x2, some ⟨.o, 0, .lst (G.map rowV)⟩, some ⟨.o, 1, objF G f⟩, some ⟨.o, 0, .str f⟩, some ⟨.o, 0, .str aim⟩, some ⟨.o, 0, .int k⟩, some ⟨.o, 0, .int c⟩, x9, some ⟨.o, 0, .str (figW d)⟩]) := fun d hd =>
    lw2_ok G hG f aim hf c hc d hd CD k x1 x2 x9 Z fun f' aim' h1 h2 => hZ f' aim' _ h1 (by
      rcases h2 with rfl | h2
      · exact ha
      · exact h2)
  obtain ⟨g1, d0, hd0, g2⟩ := dg_fig (z := c / 108 % 10) (by omega)
  have g2 : Str.ofString (toString (c / 108 % 10)) = figW d0 := g2
  obtain ⟨g, hg, rfl⟩ := ha
  have hgf := hG.fg g hg
  have hgs := (hG.sz g hg).1
  have sz : (2000 : Nat) ≤ sizeLine := by decide
  have z1 : g.1.length ≤ sizeLine := by omega
  have z2 : f.length ≤ sizeLine := by omega
  have s1 := eqv_pre g.1 f
  have f0 := fin d0 hd0
  clear hZ
  have hsl := sgs_len g.1
  have hat : f.length < g.1.length → ∃ d, d ∈ figs ∧ L2.atI (sgs g.1) (f.length : Int) = some d := fun h => by
    refine ⟨(sgs g.1)[f.length]'(by omega), hgf _ (List.getElem_mem _), ?_⟩
    unfold L2.atI
    have h7 : L2.ixN (sgs g.1).length (f.length : Int) = some f.length := by
      have := ixN_at (n := (sgs g.1).length) (z := (f.length : Int)) (by omega) (by omega)
      rw [this]
      rfl
    rw [h7]
    exact List.getElem?_eq_getElem _
  unfold tl_lw1
  by_cases h1 : 0 < c % 4
  · by_cases h2 : f.length < g.1.length
    · obtain ⟨d, hd, hat⟩ := hat h2
      have f1 := fin d hd
      have h2 : ((f.length : Nat) : Int) < ((g.1.length : Nat) : Int) := by omega
      generalize dB (sgs f <+: sgs g.1) = b at *
      cases b
      · simp_arith! only [g1, g2, z1, z2, h1, h2, s1]
        exact f0
      · simp_arith! only [g1, g2, z1, z2, h1, h2, s1, hat]
        exact f1
    · have h2 : ¬ ((f.length : Nat) : Int) < ((g.1.length : Nat) : Int) := by omega
      simp_arith! only [g1, g2, z1, z2, h1, h2]
      exact f0
  · simp_arith! only [g1, g2, h1]
    exact f0
--@ cut
def oddL : List D := [.str "", .str "12", .str "a", .int 7, .non, .bl true, .lst [.str "1"], .str " ", .str "-"]
theorem odd_no : ∀ j : Nat, j < 9 → ∃ x, oddL[j]? = some x ∧ f_is_figure [ln 0 x] = .ok 0 (.bl false) [] := by
  have l0 : (Str.ofString "").length = 0 := by decide +kernel
  have l1 : (Str.ofString "12").length = 2 := by decide +kernel
  have l2 : (Str.ofString "a").length = 1 := by decide +kernel
  have l3 : (Str.ofString " ").length = 1 := by decide +kernel
  have l4 : (Str.ofString "-").length = 1 := by decide +kernel
  have i2 : strIn (Str.ofString "a") (Str.ofString "0123456789") = false := by decide +kernel
  have i3 : strIn (Str.ofString " ") (Str.ofString "0123456789") = false := by decide +kernel
  have i4 : strIn (Str.ofString "-") (Str.ofString "0123456789") = false := by decide +kernel
  intro j hj
  unfold f_is_figure s_is_figure
  match j, hj with
  | 0, _ => exact ⟨_, rfl, by simp_arith! only [l0]⟩
  | 1, _ => exact ⟨_, rfl, by simp_arith! only [l1]⟩
  | 2, _ => exact ⟨_, rfl, by simp_arith! only [l2, i2]⟩
  | 3, _ => exact ⟨_, rfl, by simp_arith! only [x_nil]⟩
  | 4, _ => exact ⟨_, rfl, by simp_arith! only [x_nil]⟩
  | 5, _ => exact ⟨_, rfl, by simp_arith! only [x_nil]⟩
  | 6, _ => exact ⟨_, rfl, by simp_arith! only [x_nil]⟩
  | 7, _ => exact ⟨_, rfl, by simp_arith! only [l3, i3]⟩
  | 8, _ => exact ⟨_, rfl, by simp_arith! only [l4, i4]⟩
theorem lw0_ok (G : List RowV) (hG : BkP G) (f aim : Str) (hf : f.length ≤ 100) (ha : ∃ g ∈ G, aim = g.1) (c : Int) (hc : 0 ≤ c) (CD : D) (k : Int) (x1 x2 x9 x10 : Option Cell) (Z : SR → Prop)
    (hZ : ∀ (f' aim' : Str) (x9 x10 : Option Cell), f'.length ≤ f.length + 1 → (∃ g ∈ G, aim' = g.1) → Z (.nx [some ⟨.o, 0, CD⟩, x1, x2, some ⟨.o, 0, .lst (G.map rowV)⟩, some ⟨.o, 1, objF G f'⟩, some ⟨.o, 0, .str f'⟩, some ⟨.o, 0, .str aim'⟩, some ⟨.o, 0, .int k⟩, some ⟨.o, 0, .int c⟩, x9, x10])) :
    Z (tl_lw0 [some ⟨.o, 0, CD⟩, x1, x2, some ⟨.o, 0, .lst (G.map rowV)⟩, some ⟨.o, 1, objF G f⟩, some ⟨.o, 0, .str f⟩, some ⟨.o, 0, .str aim⟩, some ⟨.o, 0, .int k⟩, some ⟨.o, 0, .int c⟩, x9, x10]) := by
  have fin := fun x9 => lw1_ok G hG f aim hf ha c hc CD k x1 x2 x9 x10 Z fun f' aim' x10 h1 h2 => hZ f' aim' x9 x10 h1 h2
  clear hZ
  obtain ⟨t, ht⟩ : ∃ t, c / 12 % 9 = t := ⟨_, rfl⟩
  have t0 : 0 ≤ t := by omega
  have t9 : t < 9 := by omega
  obtain ⟨x, hx, hx2⟩ := odd_no t.toNat (by omega)
  have hr := ref_fig x 0 (by omega) G f hx2
  have hol : oddL.length = 9 := rfl
  unfold tl_lw0
  by_cases h1 : c % 12 = 0
  · have eo : mLst 0 (mCons (mC (.str "")) (mCons (mC (.str "12")) (mCons (mC (.str "a")) (mCons (mC (.int 7)) (mCons (mC .non) (mCons (mC (.bl true)) (mCons (mLst 0 (mCons (mC (.str "1")) mNil)) (mCons (mC (.str " ")) (mCons (mC (.str "-")) mNil))))))))) = fun _ => .ok ⟨.o, 1, .lst oddL⟩ := by
      funext ρ
      unfold oddL
      simp_arith! only [x_nil]
    rw [eo]
    generalize oddL = OL at *
    simp_arith! only [h1, ht, hx, hol, hr]
    exact fin _
  · simp_arith! only [h1]
    exact fin _
--@ cut
theorem turn62 (ns : List Int) (hl : ns.length ≤ 63) (G : List RowV) (hG : BkP G) (f aim : Str) (hf : f.length ≤ 100) (ha : ∃ g ∈ G, aim = g.1) (k : Nat) (hk : k + 1 < ns.length) (Z : SR → Prop)
    (hZ : ∀ (f' aim' : Str) (x8 x9 x10 : Option Cell), f'.length ≤ f.length + 1 → (∃ g ∈ G, aim' = g.1) → Z (.nx [some ⟨.o, 0, .lst (ns.map D.int)⟩, none, none, some ⟨.o, 0, .lst (G.map rowV)⟩, some ⟨.o, 1, objF G f'⟩, some ⟨.o, 0, .str f'⟩, some ⟨.o, 0, .str aim'⟩, some ⟨.o, 0, .int (1 + (k : Int))⟩, x8, x9, x10])) :
    Z (b_law_1 [some ⟨.o, 0, .lst (ns.map D.int)⟩, none, none, some ⟨.o, 0, .lst (G.map rowV)⟩, some ⟨.o, 1, objF G f⟩, some ⟨.o, 0, .str f⟩, some ⟨.o, 0, .str aim⟩, some ⟨.o, 0, .int (1 + (k : Int))⟩, none, none, none]) := by
  obtain ⟨z, hz⟩ : ∃ z, ns[(1 + (k : Int)).toNat]? = some z := ⟨ns[(1 + (k : Int)).toNat]'(by omega), List.getElem?_eq_getElem _⟩
  have hmx := sp_mixed 0 0 z (1 + (k : Int)) (by omega) (by omega)
  have hmp := (mixI_pos z (1 + (k : Int))).1
  generalize mixI z (1 + (k : Int)) = c at *
  have lkT := sp_looks 1 (by omega) G f true hG (by omega)
  have lkF := sp_looks 1 (by omega) G f false hG (by omega)
  have lk : ∀ b, f_L_looks [ln 1 (objF G f), ln 0 (.lst (G.map rowV)), ln 0 (.str f), ln 0 (.bl b)] = .ok 0 (.bl true) [] := fun b => by cases b; exact lkF; exact lkT
  have fin := lw0_ok G hG f aim hf ha c hmp (.lst (ns.map D.int)) (1 + (k : Int)) none none none none Z fun f' aim' x9 x10 h1 h2 => hZ f' aim' (some ⟨.o, 0, .int c⟩) x9 x10 h1 h2
  clear hZ lkT lkF
  rw [b_law_1_eq]
  simp_arith! only [hz, hmx, lk]
  exact fin
--@ cut
noncomputable def tl_lawA : MS := (sSeq (sAsg (mCall 1 f_L_new [] (mCons (mVar 3) mNil)) (gmName 4)) (sSeq (sAsg (mC (.str "")) (gmName 5)) (sSeq (sAsg (mOp ixU (mOp ixU (mVar 3) (mOp modM (mOp divM (mVar 2) (mC (.int 11))) (mCB lenM (mCons (mVar 3) mNil)))) (mC (.int 0))) (gmName 6)) (sSeq (sFor [1, 2, 7, 8, 9, 10] (miRange2 (mCons (mC (.int 1)) (mCons (mCB min2M (mCons (mCB lenM (mCons (mVar 0) mNil)) (mCons (mC (.int 84)) mNil))) mNil))) (gmName 7) b_law_1) (sFrz 4 (sRet (mCall 4 f_L_looks [] (mCons (mVar 4) (mCons (mVar 3) (mCons (mVar 5) (mCons (mC (.bl true)) mNil)))))))))))
theorem s_law_eq : s_law = (sSeq (sAsg (mOp (eqM false) (mOp modM (mCall 2 f_L_cell_at [] (mCons (mVar 0) (mCons (mC (.int 0)) mNil))) (mC (.int 2))) (mC (.int 0))) (gmName 1)) (sSeq (sAsg (mCall 2 f_L_mixed [] (mCons (mCall 2 f_L_cell_at [] (mCons (mVar 0) (mCons (mC (.int 0)) mNil))) (mCons (mC (.int 0)) mNil))) (gmName 2)) (sSeq (sAsg (mCall 1 f_L_book [] (mCons (mVar 2) mNil)) (gmName 3)) (sFrz 3 (sSeq (sIf (mTst (mVar 1)) (sSeq (sAsg (mCall 3 f_L_book_by [] (mCons (mC (.int 30)) (mCons (mC (.int 3)) (mCons (mOp divM (mCall 2 f_L_cell_at [] (mCons (mVar 0) (mCons (mC (.int 0)) mNil))) (mC (.int 2))) mNil)))) (gmName 3)) (sFrz 3 (sNext))) (sNext)) tl_lawA))))) := rfl
theorem lawA (ns : List Int) (hl : ns.length ≤ 63) (G : List RowV) (hG : BkP G) (s : Int) (hs : 0 ≤ s) (x1 : Option Cell) :
    VL.fin [sh (.lst (ns.map D.int))] (tl_lawA [some ⟨.o, 0, .lst (ns.map D.int)⟩, x1, some ⟨.o, 0, .int s⟩, some ⟨.o, 0, .lst (G.map rowV)⟩, none, none, none, none, none, none, none]) = .ok 0 (.bl true) [] := by
  have nw := sp_new G hG
  have hl1 : 0 < G.length := List.length_pos_iff.mpr hG.ne
  have hl2 : (0 : Int) < ((G.length : Nat) : Int) := by omega
  obtain ⟨t, ht⟩ : ∃ t, s / 11 % ((G.length : Nat) : Int) = t := ⟨_, rfl⟩
  have t0 : 0 ≤ t := by rw [← ht]; exact Int.emod_nonneg _ (by omega)
  have t1 : t < ((G.length : Nat) : Int) := by rw [← ht]; exact Int.emod_lt_of_pos _ hl2
  have tl : t.toNat < G.length := by omega
  have hat : G[t.toNat]? = some G[t.toNat] := List.getElem?_eq_getElem tl
  have hln : (G.map rowV).length = G.length := List.length_map ..
  have hGl := hG.le
  have hge : ∀ h : t.toNat < (G.map rowV).length, (G.map rowV)[t.toNat]'h = .tup [.str G[t.toNat].1, .tup (G[t.toNat].2.map D.int)] := fun h => by rw [List.getElem_map]; rfl
  have hgm : ∃ g ∈ G, G[t.toNat].1 = g.1 := ⟨_, List.getElem_mem tl, rfl⟩
  generalize G[t.toNat] = g at *
  unfold tl_lawA
  simp_arith! only [nw, hl2, ht, hge]
  unfold rangeD
  refine forL_inv (fun k : Nat => sh (.int (1 + (k : Int)))) (fun r => VL.fin _ (r.then _) = _) (fun pre ρ => ∃ f aim : Str, f.length ≤ pre.length ∧ (∃ g ∈ G, aim = g.1) ∧ ρ = [some ⟨.o, 0, .lst (ns.map D.int)⟩, none, none, some ⟨.o, 0, .lst (G.map rowV)⟩, some ⟨.o, 1, objF G f⟩, some ⟨.o, 0, .str f⟩, some ⟨.o, 0, .str aim⟩, none, none, none, none]) ?_ ?_ ⟨"", g.1, Nat.zero_le _, hgm, rfl⟩
  · rintro pre k post ρ he ⟨f, aim, h1, h2, rfl⟩ K hK
    have hk : k + 1 < ns.length := by
      have h1 : k ∈ List.range ((if (84 : Int) < (ns.length : Int) then 84 else (ns.length : Int)) - 1).toNat := by rw [he]; simp
      have h2 := List.mem_range.mp h1
      split at h2 <;> omega
    have hpl : pre.length ≤ 63 := by
      have := congrArg List.length he
      simp at this
      split at this <;> omega
    clear he
    have ht := turn62 ns hl G hG f aim (by omega) h2 k hk (fun r => VL.fin _ ((r.loop [1, 2, 7, 8, 9, 10] K).then _) = _) (fun f' aim' x8 x9 x10 q1 q2 => by
      refine hK _ ⟨f', aim', by rw [List.length_append, List.length_singleton]; omega, q2, ?_⟩
      rfl)
    exact ht
  · rintro ρ ⟨f, aim, h1, h2, rfl⟩
    have hfl : f.length ≤ 100 := by
      rw [List.length_range] at h1
      split at h1 <;> omega
    have lk := sp_looks 0 (by omega) G f true hG (by omega)
    simp_arith! only [lk]
theorem law_true (ns : List Int) (hl : ns.length ≤ 63) (_hb : ∀ z ∈ ns, Builtin.Int.intBits z ≤ 1048576) : ∃ m ds, f_law [sh (.lst (ns.map D.int))] = .ok m (.bl true) ds := by
  refine ⟨0, [], ?_⟩
  have ec := sp_cell_at 0 0 ns 0 (by omega) hl (by omega)
  generalize cellAt ns 0 = z at *
  have hmx := sp_mixed 0 0 z 0 (by omega) (by omega)
  have hmp := (mixI_pos z 0).1
  generalize mixI z 0 = s at *
  obtain ⟨G1, hG1, e1⟩ := sp_L_book s hmp
  obtain ⟨G2, hG2, e2⟩ := sp_book_by (z / 2)
  have l1 : (G1.map rowV).length ≤ 12 := by rw [List.length_map]; exact hG1.le
  have l2 : (G2.map rowV).length ≤ 12 := by rw [List.length_map]; exact hG2.le
  have f1 := fun x1 => lawA ns hl G1 hG1 s hmp x1
  have f2 := fun x1 => lawA ns hl G2 hG2 s hmp x1
  unfold f_law
  rw [s_law_eq]
  by_cases h : z % 2 = 0
  · clear f1
    generalize G1.map rowV = D1 at *
    generalize G2.map rowV = D2' at *
    simp_arith! only [ec, hmx, e1, e2, h]
    exact f2 _
  · clear f2 e2
    generalize G1.map rowV = D1 at *
    simp_arith! only [ec, hmx, e1, h]
    exact f1 _

def topS (i : Nat) : Stmt := PySem.Challenge.pw_crossracks_k62_finder.main.body.getD i (.Pass ⟨0, 0, 0, 0⟩)
def clsAt (s : Stmt) (j : Nat) : Stmt := match s with
  | .ClassDef _ _ _ body _ _ _ _ _ _ _ => body.getD j (.Pass ⟨0, 0, 0, 0⟩)
  | _ => .Pass ⟨0, 0, 0, 0⟩
abbrev t_is_figure : Stmt := topS 6
theorem sc_is_figure : FnScope (["thing"] : List Str) (["thing"] : List Str) (defScope t_is_figure) := ⟨rfl, rfl, rfl, by decide +kernel, rfl, by decide +kernel, by decide +kernel⟩
theorem ok_is_figure {P : Program} {w : World} {K : PySem.W.Frag} {mg : Str → Option Value} {base : Heap} {f : Addr} {fd : FuncData} (F : FunX K "is_figure" "is_figure" t_is_figure f fd) (b_isinstance : mg "isinstance" = none) (b_len : mg "len" = none) (b_str : mg "str" = none) (c_FIGURES : ∃ t : Tok, mg "FIGURES" = some (Value.str "0123456789" t)) : FnOk P w K mg base (L2.CX P w) 1 f fd ["thing"] (spM K mg 1 f_is_figure) :=
  def_m F sc_is_figure rfl fun cdv A outer s H E hr => by
    have hu := hr.units
    have hu2 := units65 hr
    have nd := sc_is_figure.nd
    have tk : Takes (cxOf (L2.CX P w) P w K mg base (["thing"] : List Str) "is_figure" (defScope t_is_figure) f cdv A outer s H E) (fun cls d _ H => E cls d H) := takes_of rfl rfl rfl rfl
    have hp := passes_of (X := cxOf (L2.CX P w) P w K mg base (["thing"] : List Str) "is_figure" (defScope t_is_figure) f cdv A outer s H E) rfl
    exact ⟨_, (ssm_one (sm_ret (em_and (em_isi (T := "str") (by decide) rfl b_isinstance (pe_bltn rfl b_str (by decide +kernel) rfl) (em_var 0 (pv 0))) (em_and (em_cmp (op_eqP hu) om_eq (em_cb call_len cm_len rfl b_len (am_cons (em_var 0 (pv 0)) am_nil)) (em_int) (nomark _)) (em_one (em_cmp (op_inU hu) om_in (em_var 0 (pv 0)) (em_c (pe_glob rfl c_FIGURES.choose_spec (show L2.RelV (.str "0123456789") _ from ⟨_, rfl⟩)) (fun _ => .str _)) rfl))))))⟩
abbrev t_Finder___init__ : Stmt := clsAt (topS 7) 0
theorem sc_Finder___init__ : FnScope (["self", "book"] : List Str) (["self", "book"] : List Str) (defScope t_Finder___init__) := ⟨rfl, rfl, rfl, by decide +kernel, rfl, by decide +kernel, by decide +kernel⟩
theorem ok_Finder___init__ {P : Program} {w : World} {K : PySem.W.Frag} {mg : Str → Option Value} {base : Heap} {f : Addr} {fd : FuncData} (F : FunX K "__init__" "Finder.__init__" t_Finder___init__ f fd) (b_list : mg "list" = none) (FO_dialled : FldO K "dialled" ["Finder"]) (FO_listing : FldO K "listing" ["Finder"]) : FnOk P w K mg base (L2.CX P w) 1 f fd ["self", "book"] (spM K mg 2 f_Finder___init__) :=
  def_m F sc_Finder___init__ rfl fun cdv A outer s H E hr => by
    have hu := hr.units
    have hu2 := units65 hr
    have nd := sc_Finder___init__.nd
    have tk : Takes (cxOf (L2.CX P w) P w K mg base (["self", "book"] : List Str) "Finder.__init__" (defScope t_Finder___init__) f cdv A outer s H E) (fun cls d _ H => E cls d H) := takes_of rfl rfl rfl rfl
    have hp := passes_of (X := cxOf (L2.CX P w) P w K mg base (["self", "book"] : List Str) "Finder.__init__" (defScope t_Finder___init__) f cdv A outer s H E) rfl
    exact ⟨_, (ssm_cons (sm_fld ["Finder"] FO_listing (pv 0) (fm_pure (em_cty call_list_of cm_list rfl b_list (am_cons (em_var 1 (pv 1)) am_nil)))) (ssm_one (sm_fld ["Finder"] FO_dialled (pv 0) (fm_pure (em_str)))))⟩
abbrev t_Finder_numbers : Stmt := clsAt (topS 7) 1
theorem sc_Finder_numbers : FnScope (["self", "row"] : List Str) (["self"] : List Str) (defScope t_Finder_numbers) := ⟨rfl, rfl, rfl, by decide +kernel, rfl, by decide +kernel, by decide +kernel⟩
theorem ok_Finder_numbers {P : Program} {w : World} {K : PySem.W.Frag} {mg : Str → Option Value} {base : Heap} {f : Addr} {fd : FuncData} (F : FunX K "numbers" "Finder.numbers" t_Finder_numbers f fd) (FO_dialled : FldO K "dialled" ["Finder"]) (FO_listing : FldO K "listing" ["Finder"]) : FnOk P w K mg base (L2.CX P w) 1 f fd ["self"] (spM K mg 1 f_Finder_numbers) :=
  def_m F sc_Finder_numbers rfl fun cdv A outer s H E hr => by
    have hu := hr.units
    have hu2 := units65 hr
    have nd := sc_Finder_numbers.nd
    have tk : Takes (cxOf (L2.CX P w) P w K mg base (["self", "row"] : List Str) "Finder.numbers" (defScope t_Finder_numbers) f cdv A outer s H E) (fun cls d _ H => E cls d H) := takes_of rfl rfl rfl rfl
    have hp := passes_of (X := cxOf (L2.CX P w) P w K mg base (["self", "row"] : List Str) "Finder.numbers" (defScope t_Finder_numbers) f cdv A outer s H E) rfl
    exact ⟨_, (ssm_one (sm_ret (em_lc (ow := [(PySem.Str.ofString "row", 1)]) 0 rfl nd (im_seq (em_fldO ["Finder"] FO_listing (em_var 0 (pv 0)))) (blkOk_by (N := (["self", "row"] : List Str)) (sc := defScope t_Finder_numbers) (own := [(PySem.Str.ofString "row", 1)]) (by decide +kernel)) (fun _ _ _ _ _ => by exact gvm_name (pg_name nd rfl (Or.inl rfl))) (fun _ _ _ _ _ => by exact (tms_one (tm_val (em_tx mt_startswith tx_stw PySem.F.slot_str_startswith PySem.F.type_str_startswith (em_ix (ix_U hu) om_ixU (em_var 1 (pv 1)) (em_int) (fun _ _ => rfl)) (em_fldO ["Finder"] FO_dialled (em_var 0 (pv 0))))))) (fun _ _ _ _ _ => by exact (em_ix (ix_U hu) om_ixU (em_var 1 (pv 1)) (em_int) (fun _ _ => rfl))))))⟩
abbrev t_Finder_word : Stmt := clsAt (topS 7) 2
theorem sc_Finder_word : FnScope (["self", "left"] : List Str) (["self"] : List Str) (defScope t_Finder_word) := ⟨rfl, rfl, rfl, by decide +kernel, rfl, by decide +kernel, by decide +kernel⟩
theorem ok_Finder_word {P : Program} {w : World} {K : PySem.W.Frag} {mg : Str → Option Value} {base : Heap} {f : Addr} {fd : FuncData} (F : FunX K "word" "Finder.word" t_Finder_word f fd) (FO_dialled : FldO K "dialled" ["Finder"]) (MT_numbers : MethT P w K mg base 1 "numbers" 1 [("Finder", f_Finder_numbers)] [] []) : FnOk P w K mg base (L2.CX P w) 2 f fd ["self"] (spM K mg 1 f_Finder_word) :=
  def_m F sc_Finder_word rfl fun cdv A outer s H E hr => by
    have hu := hr.units
    have hu2 := units65 hr
    have nd := sc_Finder_word.nd
    have tk : Takes (cxOf (L2.CX P w) P w K mg base (["self", "left"] : List Str) "Finder.word" (defScope t_Finder_word) f cdv A outer s H E) (fun cls d _ H => E cls d H) := takes_of rfl rfl rfl rfl
    have hp := passes_of (X := cxOf (L2.CX P w) P w K mg base (["self", "left"] : List Str) "Finder.word" (defScope t_Finder_word) f cdv A outer s H E) rfl
    exact ⟨_, (ssm_cons (sm_name (i := 1) nd rfl (Or.inl rfl) (em_meth0 (fun σ => passAt tk σ) MT_numbers (hr.mono (by decide)) (em_var 0 (pv 0)) )) (ssm_frz 1 (ssm_cons (sm_if (tm_cmp (op_eqP hu) om_eq (em_var 1 (pv 1)) (em_lst 0 am_nil) (nomark _)) (ssm_one (sm_ret (em_str))) (ssm_nil)) (ssm_cons (sm_if (tm_cmp (op_eqP hu) om_eq (em_ix (ix_U hu) om_ixU (em_var 1 (pv 1)) (em_int) (fun _ _ => rfl)) (em_fldO ["Finder"] FO_dialled (em_var 0 (pv 0))) (nomark _)) (ssm_one (sm_ret (em_str))) (ssm_nil)) (ssm_one (sm_ret (em_str)))))))⟩
abbrev t_Finder_turn : Stmt := clsAt (topS 7) 3
theorem sc_Finder_turn : FnScope (["self", "figure"] : List Str) (["self", "figure"] : List Str) (defScope t_Finder_turn) := ⟨rfl, rfl, rfl, by decide +kernel, rfl, by decide +kernel, by decide +kernel⟩
theorem ok_Finder_turn {P : Program} {w : World} {K : PySem.W.Frag} {mg : Str → Option Value} {base : Heap} {f : Addr} {fd : FuncData} (F : FunX K "turn" "Finder.turn" t_Finder_turn f fd) (F_is_figure : FnM P w K mg base 1 "is_figure" 1 f_is_figure [] []) (FO_dialled : FldO K "dialled" ["Finder"]) (MT_word : MethT P w K mg base 2 "word" 1 [("Finder", f_Finder_word)] [] []) (RX_NoFigure : RaiX K mg "NoFigure") (RX_NoTurn : RaiX K mg "NoTurn") : FnOk P w K mg base (L2.CX P w) 3 f fd ["self", "figure"] (spM K mg 2 f_Finder_turn) :=
  def_m F sc_Finder_turn rfl fun cdv A outer s H E hr => by
    have hu := hr.units
    have hu2 := units65 hr
    have nd := sc_Finder_turn.nd
    have tk : Takes (cxOf (L2.CX P w) P w K mg base (["self", "figure"] : List Str) "Finder.turn" (defScope t_Finder_turn) f cdv A outer s H E) (fun cls d _ H => E cls d H) := takes_of rfl rfl rfl rfl
    have hp := passes_of (X := cxOf (L2.CX P w) P w K mg base (["self", "figure"] : List Str) "Finder.turn" (defScope t_Finder_turn) f cdv A outer s H E) rfl
    exact ⟨_, (ssm_cons (sm_if (tm_not (tm_val (em_call tk F_is_figure (hr.mono (by decide)) rfl (am_cons (em_var 1 (pv 1)) am_nil)))) (ssm_one (sm_raise RX_NoFigure rfl tk rfl (by decide))) (ssm_nil)) (ssm_cons (sm_if (tm_cmp (op_neP hu) om_eq (em_meth0 (fun σ => passAt tk σ) MT_word (hr.mono (by decide)) (em_var 0 (pv 0)) ) (em_str) (nomark _)) (ssm_one (sm_raise RX_NoTurn rfl tk rfl (by decide))) (ssm_nil)) (ssm_cons (sm_fld ["Finder"] FO_dialled (pv 0) (fm_pure (em_op op_addP om_add (em_fldO ["Finder"] FO_dialled (em_var 0 (pv 0))) (em_var 1 (pv 1))))) (ssm_one (sm_ret (em_meth0 (fun σ => passAt tk σ) MT_word (hr.mono (by decide)) (em_var 0 (pv 0)) ))))))⟩
abbrev t_Finder_group : Stmt := clsAt (topS 7) 4
theorem sc_Finder_group : FnScope (["self", "number", "group"] : List Str) (["self"] : List Str) (defScope t_Finder_group) := ⟨rfl, rfl, rfl, by decide +kernel, rfl, by decide +kernel, by decide +kernel⟩
theorem ok_Finder_group {P : Program} {w : World} {K : PySem.W.Frag} {mg : Str → Option Value} {base : Heap} {f : Addr} {fd : FuncData} (F : FunX K "group" "Finder.group" t_Finder_group f fd) (FO_dialled : FldO K "dialled" ["Finder"]) (FO_listing : FldO K "listing" ["Finder"]) : FnOk P w K mg base (L2.CX P w) 1 f fd ["self"] (spM K mg 1 f_Finder_group) :=
  def_m F sc_Finder_group rfl fun cdv A outer s H E hr => by
    have hu := hr.units
    have hu2 := units65 hr
    have nd := sc_Finder_group.nd
    have tk : Takes (cxOf (L2.CX P w) P w K mg base (["self", "number", "group"] : List Str) "Finder.group" (defScope t_Finder_group) f cdv A outer s H E) (fun cls d _ H => E cls d H) := takes_of rfl rfl rfl rfl
    have hp := passes_of (X := cxOf (L2.CX P w) P w K mg base (["self", "number", "group"] : List Str) "Finder.group" (defScope t_Finder_group) f cdv A outer s H E) rfl
    exact ⟨_, (ssm_cons (sm_for [1, 2] hp rfl (im_seq (em_fldO ["Finder"] FO_listing (em_var 0 (pv 0)))) (gm_tup (gsm_cons (gm_name (pg_name nd rfl (Or.inl rfl))) (gsm_cons (gm_name (pg_name nd rfl (Or.inl rfl))) gsm_nil)) rfl) (ssm_one (sm_if (tm_cmp (op_eqP hu) om_eq (em_var 1 (pv 1)) (em_fldO ["Finder"] FO_dialled (em_var 0 (pv 0))) (nomark _)) (ssm_one (sm_ret (em_var 2 (pv 2)))) (ssm_nil)))) (ssm_one (sm_ret (em_non))))⟩
abbrev t_L_cell_at : Stmt := topS 9
theorem sc_L_cell_at : FnScope (["_law_script", "_law_k"] : List Str) (["_law_script", "_law_k"] : List Str) (defScope t_L_cell_at) := ⟨rfl, rfl, rfl, by decide +kernel, rfl, by decide +kernel, by decide +kernel⟩
theorem ok_L_cell_at {P : Program} {w : World} {K : PySem.W.Frag} {mg : Str → Option Value} {base : Heap} {f : Addr} {fd : FuncData} (F : FunX K "_law_cell_at" "_law_cell_at" t_L_cell_at f fd) (b_len : mg "len" = none) : FnOk P w K mg base (L2.CX P w) 1 f fd ["_law_script", "_law_k"] (spM K mg 2 f_L_cell_at) :=
  def_m F sc_L_cell_at rfl fun cdv A outer s H E hr => by
    have hu := hr.units
    have hu2 := units65 hr
    have nd := sc_L_cell_at.nd
    have tk : Takes (cxOf (L2.CX P w) P w K mg base (["_law_script", "_law_k"] : List Str) "_law_cell_at" (defScope t_L_cell_at) f cdv A outer s H E) (fun cls d _ H => E cls d H) := takes_of rfl rfl rfl rfl
    have hp := passes_of (X := cxOf (L2.CX P w) P w K mg base (["_law_script", "_law_k"] : List Str) "_law_cell_at" (defScope t_L_cell_at) f cdv A outer s H E) rfl
    exact ⟨_, (ssm_cons (sm_if (tm_cmp op_lt om_lt (em_var 1 (pv 1)) (em_cb call_len cm_len rfl b_len (am_cons (em_var 0 (pv 0)) am_nil)) (nomark _)) (ssm_one (sm_ret (em_ix (ix_U hu) om_ixU (em_var 0 (pv 0)) (em_var 1 (pv 1)) (fun _ _ => rfl)))) (ssm_nil)) (ssm_one (sm_ret (em_int))))⟩
abbrev t_L_mixed : Stmt := topS 10
theorem sc_L_mixed : FnScope (["_law_cell", "_law_k"] : List Str) (["_law_cell", "_law_k"] : List Str) (defScope t_L_mixed) := ⟨rfl, rfl, rfl, by decide +kernel, rfl, by decide +kernel, by decide +kernel⟩
theorem ok_L_mixed {P : Program} {w : World} {K : PySem.W.Frag} {mg : Str → Option Value} {base : Heap} {f : Addr} {fd : FuncData} (F : FunX K "_law_mixed" "_law_mixed" t_L_mixed f fd) : FnOk P w K mg base (L2.CX P w) 1 f fd ["_law_cell", "_law_k"] (spM K mg 2 f_L_mixed) :=
  def_m F sc_L_mixed rfl fun cdv A outer s H E hr => by
    have hu := hr.units
    have hu2 := units65 hr
    have nd := sc_L_mixed.nd
    have tk : Takes (cxOf (L2.CX P w) P w K mg base (["_law_cell", "_law_k"] : List Str) "_law_mixed" (defScope t_L_mixed) f cdv A outer s H E) (fun cls d _ H => E cls d H) := takes_of rfl rfl rfl rfl
    have hp := passes_of (X := cxOf (L2.CX P w) P w K mg base (["_law_cell", "_law_k"] : List Str) "_law_mixed" (defScope t_L_mixed) f cdv A outer s H E) rfl
    exact ⟨_, (ssm_one (sm_ret (em_op op_mod om_I (em_op op_mulP om_mul (em_op op_addP om_add (em_op op_mod om_I (em_var 0 (pv 0)) (em_int)) (em_int)) (em_op op_addP om_add (em_int) (em_op op_mulP om_mul (em_op op_mulP om_mul (em_int) (em_var 1 (pv 1))) (em_var 1 (pv 1))))) (em_int))))⟩
abbrev t_L_book : Stmt := topS 11
theorem sc_L_book : FnScope (["_law_seed", "_law_head", "_law_book_here", "_law_k", "_law_tail", "_law_number"] : List Str) (["_law_seed"] : List Str) (defScope t_L_book) := ⟨rfl, rfl, rfl, by decide +kernel, rfl, by decide +kernel, by decide +kernel⟩
theorem ok_L_book {P : Program} {w : World} {K : PySem.W.Frag} {mg : Str → Option Value} {base : Heap} {f : Addr} {fd : FuncData} (F : FunX K "_law_book" "_law_book" t_L_book f fd) (b_range : mg "range" = none) (b_str : mg "str" = none) : FnOk P w K mg base (L2.CX P w) 1 f fd ["_law_seed"] (spM K mg 1 f_L_book) :=
  def_m F sc_L_book rfl fun cdv A outer s H E hr => by
    have hu := hr.units
    have hu2 := units65 hr
    have nd := sc_L_book.nd
    have tk : Takes (cxOf (L2.CX P w) P w K mg base (["_law_seed", "_law_head", "_law_book_here", "_law_k", "_law_tail", "_law_number"] : List Str) "_law_book" (defScope t_L_book) f cdv A outer s H E) (fun cls d _ H => E cls d H) := takes_of rfl rfl rfl rfl
    have hp := passes_of (X := cxOf (L2.CX P w) P w K mg base (["_law_seed", "_law_head", "_law_book_here", "_law_k", "_law_tail", "_law_number"] : List Str) "_law_book" (defScope t_L_book) f cdv A outer s H E) rfl
    exact ⟨_, (ssm_cons (sm_name (i := 1) nd rfl (Or.inl rfl) (em_sliceT (em_str) om_none (om_some (em_op op_mod om_I (em_var 0 (pv 0)) (em_int))))) (ssm_frz 1 (ssm_cons (sm_name (i := 2) nd rfl (Or.inl rfl) (em_lst 0 am_nil)) (ssm_cons (sm_for [3, 4, 5] hp rfl (im_range1 rfl b_range (am_cons (em_op op_addP om_add (em_int) (em_op op_mod om_I (em_op op_divP om_I (em_var 0 (pv 0)) (em_int)) (em_int))) am_nil)) (gm_name (pg_name nd rfl (Or.inl rfl))) (ssm_cons (sm_name (i := 4) nd rfl (Or.inl rfl) (em_sliceT (em_str) om_none (om_some (em_op op_mod om_I (em_op op_addP om_add (em_op op_divP om_I (em_var 0 (pv 0)) (em_int)) (em_op op_mulP om_mul (em_var 3 (pv 3)) (em_var 3 (pv 3)))) (em_int))))) (ssm_frz 4 (ssm_cons (sm_name (i := 5) nd rfl (Or.inl rfl) (em_op op_addP om_add (em_op op_addP om_add (em_var 1 (pv 1)) (em_sliceT (em_cty call_str_int cm_strI rfl b_str (am_cons (em_op op_addP om_add (em_int) (em_op op_mod om_I (em_op op_addP om_add (em_op op_mulP om_mul (em_var 3 (pv 3)) (em_int)) (em_op op_divP om_I (em_var 0 (pv 0)) (em_int))) (em_int))) am_nil)) (om_some (em_int)) om_none)) (em_var 4 (pv 4)))) (ssm_frz 5 (ssm_one (sm_exprF (fm_mut mt_append mm_append PySem.F.plainAttrs_list PySem.F.slot_list_append PySem.F.type_list_append (pv 2) (fam_pure (am_cons (em_tup 0 (am_cons (em_var 5 (pv 5)) (am_cons (em_slice (em_tup 0 (am_cons (em_var 3 (pv 3)) (am_cons (em_op op_addP om_add (em_op op_addP om_add (em_int) (em_op op_mod om_I (em_op op_divP om_I (em_var 0 (pv 0)) (em_int)) (em_int))) (em_var 3 (pv 3))) am_nil))) om_none (om_some (em_op op_addP om_add (em_int) (em_op op_mod om_I (em_var 3 (pv 3)) (em_int))))) am_nil))) am_nil)))))))))) (ssm_one (sm_retF (fm_mv 2 (pv 2))))))))⟩
abbrev t_L_where : Stmt := topS 12
theorem sc_L_where : FnScope (["_law_book_here", "_law_figures", "_law_left", "_law_row"] : List Str) (["_law_book_here", "_law_figures"] : List Str) (defScope t_L_where) := ⟨rfl, rfl, rfl, by decide +kernel, rfl, by decide +kernel, by decide +kernel⟩
theorem ok_L_where {P : Program} {w : World} {K : PySem.W.Frag} {mg : Str → Option Value} {base : Heap} {f : Addr} {fd : FuncData} (F : FunX K "_law_where" "_law_where" t_L_where f fd) (b_len : mg "len" = none) : FnOk P w K mg base (L2.CX P w) 1 f fd ["_law_book_here", "_law_figures"] (spM K mg 2 f_L_where) :=
  def_m F sc_L_where rfl fun cdv A outer s H E hr => by
    have hu := hr.units
    have hu2 := units65 hr
    have nd := sc_L_where.nd
    have tk : Takes (cxOf (L2.CX P w) P w K mg base (["_law_book_here", "_law_figures", "_law_left", "_law_row"] : List Str) "_law_where" (defScope t_L_where) f cdv A outer s H E) (fun cls d _ H => E cls d H) := takes_of rfl rfl rfl rfl
    have hp := passes_of (X := cxOf (L2.CX P w) P w K mg base (["_law_book_here", "_law_figures", "_law_left", "_law_row"] : List Str) "_law_where" (defScope t_L_where) f cdv A outer s H E) rfl
    exact ⟨_, (ssm_cons (sm_setLc (ow := [(PySem.Str.ofString "_law_row", 3)]) (i := 2) 0 rfl nd rfl rfl (sw_true rfl rfl rfl (by decide +kernel)) (im_seq (em_var 0 (pv 0))) (blkOk_by (N := (["_law_book_here", "_law_figures", "_law_left", "_law_row"] : List Str)) (sc := defScope t_L_where) (own := [(PySem.Str.ofString "_law_row", 3)]) (by decide +kernel)) (fun _ _ _ _ _ => by exact gvm_name (pg_name nd rfl (Or.inl rfl))) (fun _ _ _ _ _ => by exact (tms_one (tm_cmp (op_eqP hu) om_eq (em_sliceT (em_ix (ix_U hu) om_ixU (em_var 3 (pv 3)) (em_int) (fun _ _ => rfl)) om_none (om_some (em_cb call_len cm_len rfl b_len (am_cons (em_var 1 (pv 1)) am_nil)))) (em_var 1 (pv 1)) (nomark _)))) (fun _ _ _ _ _ => by exact (em_ix (ix_U hu) om_ixU (em_var 3 (pv 3)) (em_int) (fun _ _ => rfl)))) (ssm_frz 2 (ssm_cons (sm_if (tm_cmp (op_eqP hu) om_eq (em_var 2 (pv 2)) (em_lst 0 am_nil) (nomark _)) (ssm_one (sm_ret (em_str))) (ssm_nil)) (ssm_cons (sm_if (tm_cmp (op_inU hu) om_in (em_var 1 (pv 1)) (em_var 2 (pv 2)) rfl) (ssm_one (sm_ret (em_str))) (ssm_nil)) (ssm_one (sm_ret (em_str)))))))⟩
abbrev t_L_looks : Stmt := topS 13
theorem sc_L_looks : FnScope (["_law_finder", "_law_book_here", "_law_figures", "_law_first", "_law_row", "_law_due", "_law_group", "_law_told", "_law_found"] : List Str) (["_law_finder", "_law_book_here", "_law_figures", "_law_first"] : List Str) (defScope t_L_looks) := ⟨rfl, rfl, rfl, by decide +kernel, rfl, by decide +kernel, by decide +kernel⟩
theorem ok_L_looks {P : Program} {w : World} {K : PySem.W.Frag} {mg : Str → Option Value} {base : Heap} {f : Addr} {fd : FuncData} (F : FunX K "_law_looks" "_law_looks" t_L_looks f fd) (b_isinstance : mg "isinstance" = none) (b_len : mg "len" = none) (b_list : mg "list" = none) (b_tuple : mg "tuple" = none) (MT_group : MethT P w K mg base 1 "group" 1 [("Finder", f_Finder_group)] [] []) (MT_numbers : MethT P w K mg base 1 "numbers" 1 [("Finder", f_Finder_numbers)] [] []) : FnOk P w K mg base (L2.CX P w) 2 f fd ["_law_finder", "_law_book_here", "_law_figures", "_law_first"] (spM K mg 4 f_L_looks) :=
  def_m F sc_L_looks rfl fun cdv A outer s H E hr => by
    have hu := hr.units
    have hu2 := units65 hr
    have nd := sc_L_looks.nd
    have tk : Takes (cxOf (L2.CX P w) P w K mg base (["_law_finder", "_law_book_here", "_law_figures", "_law_first", "_law_row", "_law_due", "_law_group", "_law_told", "_law_found"] : List Str) "_law_looks" (defScope t_L_looks) f cdv A outer s H E) (fun cls d _ H => E cls d H) := takes_of rfl rfl rfl rfl
    have hp := passes_of (X := cxOf (L2.CX P w) P w K mg base (["_law_finder", "_law_book_here", "_law_figures", "_law_first", "_law_row", "_law_due", "_law_group", "_law_told", "_law_found"] : List Str) "_law_looks" (defScope t_L_looks) f cdv A outer s H E) rfl
    exact ⟨_, (ssm_cons (sm_setLc (ow := [(PySem.Str.ofString "_law_row", 4)]) (i := 5) 0 rfl nd rfl rfl (sw_true rfl rfl rfl (by decide +kernel)) (im_seq (em_var 1 (pv 1))) (blkOk_by (N := (["_law_finder", "_law_book_here", "_law_figures", "_law_first", "_law_row", "_law_due", "_law_group", "_law_told", "_law_found"] : List Str)) (sc := defScope t_L_looks) (own := [(PySem.Str.ofString "_law_row", 4)]) (by decide +kernel)) (fun _ _ _ _ _ => by exact gvm_name (pg_name nd rfl (Or.inl rfl))) (fun _ _ _ _ _ => by exact (tms_one (tm_cmp (op_eqP hu) om_eq (em_sliceT (em_ix (ix_U hu) om_ixU (em_var 4 (pv 4)) (em_int) (fun _ _ => rfl)) om_none (om_some (em_cb call_len cm_len rfl b_len (am_cons (em_var 2 (pv 2)) am_nil)))) (em_var 2 (pv 2)) (nomark _)))) (fun _ _ _ _ _ => by exact (em_ix (ix_U hu) om_ixU (em_var 4 (pv 4)) (em_int) (fun _ _ => rfl)))) (ssm_frz 5 (ssm_cons (sm_name (i := 6) nd rfl (Or.inl rfl) (em_non)) (ssm_cons (sm_for [1, 4, 7, 8] hp rfl (im_seq (em_var 1 (pv 1))) (gm_name (pg_name nd rfl (Or.inl rfl))) (ssm_one (sm_if (tm_cmp (op_eqP hu) om_eq (em_ix (ix_U hu) om_ixU (em_var 4 (pv 4)) (em_int) (fun _ _ => rfl)) (em_var 2 (pv 2)) (nomark _)) (ssm_one (sm_name (i := 6) nd rfl (Or.inl rfl) (em_ix (ix_U hu) om_ixU (em_var 4 (pv 4)) (em_int) (fun _ _ => rfl)))) (ssm_nil)))) (ssm_cons (sm_name (i := 7) nd rfl (Or.inl rfl) (em_non)) (ssm_cons (sm_if (tm_val (em_var 3 (pv 3))) (ssm_one (sm_name (i := 7) nd rfl (Or.inl rfl) (em_meth0 (fun σ => passAt tk σ) MT_group (hr.mono (by decide)) (em_var 0 (pv 0)) ))) (ssm_nil)) (ssm_cons (sm_name (i := 8) nd rfl (Or.inl rfl) (em_meth0 (fun σ => passAt tk σ) MT_numbers (hr.mono (by decide)) (em_var 0 (pv 0)) )) (ssm_cons (sm_if (tm_not (tm_val (em_var 3 (pv 3)))) (ssm_one (sm_name (i := 7) nd rfl (Or.inl rfl) (em_meth0 (fun σ => passAt tk σ) MT_group (hr.mono (by decide)) (em_var 0 (pv 0)) ))) (ssm_nil)) (ssm_cons (sm_if (wm_tm (wm_or (tm_not (tm_val (em_isi (T := "list") (by decide) rfl b_isinstance (pe_bltn rfl b_list (by decide +kernel) rfl) (em_var 8 (pv 8))))) (wm_or1 (tm_cmp (op_neP hu) om_eq (em_var 8 (pv 8)) (em_var 5 (pv 5)) (nomark _))))) (ssm_one (sm_ret (em_bl))) (ssm_nil)) (ssm_cons (sm_exprF (fm_mut mt_append mm_append PySem.F.plainAttrs_list PySem.F.slot_list_append PySem.F.type_list_append (pv 8) (fam_pure (am_cons (em_var 2 (pv 2)) am_nil)))) (ssm_cons (sm_if (tm_cmp op_isN om_is (em_var 6 (pv 6)) (em_non) (nomark _)) (ssm_one (sm_ret (em_cmp op_isN om_is (em_var 7 (pv 7)) (em_non) (nomark _)))) (ssm_nil)) (ssm_one (sm_ret (em_and (em_isi (T := "tuple") (by decide) rfl b_isinstance (pe_bltn rfl b_tuple (by decide +kernel) rfl) (em_var 7 (pv 7))) (em_one (em_cmp (op_eqP hu) om_eq (em_var 7 (pv 7)) (em_var 6 (pv 6)) (nomark _)))))))))))))))))⟩
abbrev t_L_refused : Stmt := topS 14
theorem sc_L_refused : FnScope (["_law_finder", "_law_figure", "_law_refused_here", "e"] : List Str) (["_law_finder", "_law_figure"] : List Str) (defScope t_L_refused) := ⟨rfl, rfl, rfl, by decide +kernel, rfl, by decide +kernel, by decide +kernel⟩
theorem ok_L_refused {P : Program} {w : World} {K : PySem.W.Frag} {mg : Str → Option Value} {base : Heap} {f : Addr} {fd : FuncData} (F : FunX K "_law_refused" "_law_refused" t_L_refused f fd) (b_ValueError : mg "ValueError" = none) (b_isinstance : mg "isinstance" = none) (CX_HallError : CatX K mg "HallError" ["NoFigure", "NoTurn"]) (IX_NoFigure : IsX K mg "NoFigure" [("NoFigure", true), ("NoTurn", false)]) (IX_NoTurn : IsX K mg "NoTurn" [("NoFigure", false), ("NoTurn", true)]) (IX_ValueError : IsX K mg "ValueError" [("NoFigure", true), ("NoTurn", true)]) (MT_turn : MethT P w K mg base 3 "turn" 2 [("Finder", f_Finder_turn)] [] []) : FnOk P w K mg base (L2.CX P w) 4 f fd ["_law_finder", "_law_figure"] (spM K mg 2 f_L_refused) :=
  def_m F sc_L_refused rfl fun cdv A outer s H E hr => by
    have hu := hr.units
    have hu2 := units65 hr
    have nd := sc_L_refused.nd
    have tk : Takes (cxOf (L2.CX P w) P w K mg base (["_law_finder", "_law_figure", "_law_refused_here", "e"] : List Str) "_law_refused" (defScope t_L_refused) f cdv A outer s H E) (fun cls d _ H => E cls d H) := takes_of rfl rfl rfl rfl
    have hp := passes_of (X := cxOf (L2.CX P w) P w K mg base (["_law_finder", "_law_figure", "_law_refused_here", "e"] : List Str) "_law_refused" (defScope t_L_refused) f cdv A outer s H E) rfl
    exact ⟨_, (ssm_cons (sm_name (i := 2) nd rfl (Or.inl rfl) (em_non)) (ssm_cons (sm_try ["NoFigure", "NoTurn"] CX_HallError rfl rfl nd rfl rfl rfl (by decide) rfl (fun W' pn xe tk hp => (ssm_one (sm_exprF (fm_meth (fun σ => passAt tk σ) MT_turn (hr.mono (by decide)) (rx_var 0 (pv 0)) (am_cons (em_var 1 (pv 1)) am_nil))))) (fun a pn => (ssm_one (sm_name (i := 2) nd rfl (Or.inl rfl) (em_var 3 (pv 3)))))) (ssm_cons (sm_if (wm_tm (wm_or (tm_cmp op_isN om_is (em_var 2 (pv 2)) (em_non) (nomark _)) (wm_or1 (tm_not (tm_val (em_isX [("NoFigure", true), ("NoTurn", true)] IX_ValueError rfl b_isinstance rfl (by decide) (em_var 2 (pv 2)))))))) (ssm_one (sm_ret (em_str))) (ssm_nil)) (ssm_cons (sm_if (wm_tm (wm_and (tm_val (em_isX [("NoFigure", true), ("NoTurn", false)] IX_NoFigure rfl b_isinstance rfl (by decide) (em_var 2 (pv 2)))) (wm_and1 (tm_not (tm_val (em_isX [("NoFigure", false), ("NoTurn", true)] IX_NoTurn rfl b_isinstance rfl (by decide) (em_var 2 (pv 2)))))))) (ssm_one (sm_ret (em_str))) (ssm_nil)) (ssm_cons (sm_if (wm_tm (wm_and (tm_val (em_isX [("NoFigure", false), ("NoTurn", true)] IX_NoTurn rfl b_isinstance rfl (by decide) (em_var 2 (pv 2)))) (wm_and1 (tm_not (tm_val (em_isX [("NoFigure", true), ("NoTurn", false)] IX_NoFigure rfl b_isinstance rfl (by decide) (em_var 2 (pv 2)))))))) (ssm_one (sm_ret (em_str))) (ssm_nil)) (ssm_one (sm_ret (em_str))))))))⟩
abbrev t_L_new : Stmt := topS 15
theorem sc_L_new : FnScope (["_law_book_here", "_law_handed", "_law_finder"] : List Str) (["_law_book_here"] : List Str) (defScope t_L_new) := ⟨rfl, rfl, rfl, by decide +kernel, rfl, by decide +kernel, by decide +kernel⟩
theorem ok_L_new {P : Program} {w : World} {K : PySem.W.Frag} {mg : Str → Option Value} {base : Heap} {f : Addr} {fd : FuncData} (F : FunX K "_law_new" "_law_new" t_L_new f fd) (b_list : mg "list" = none) (MK_Finder : MkM P w K mg base 1 "Finder" 2 f_Finder___init__ [] [] []) : FnOk P w K mg base (L2.CX P w) 3 f fd ["_law_book_here"] (spM K mg 1 f_L_new) :=
  def_m F sc_L_new rfl fun cdv A outer s H E hr => by
    have hu := hr.units
    have hu2 := units65 hr
    have nd := sc_L_new.nd
    have tk : Takes (cxOf (L2.CX P w) P w K mg base (["_law_book_here", "_law_handed", "_law_finder"] : List Str) "_law_new" (defScope t_L_new) f cdv A outer s H E) (fun cls d _ H => E cls d H) := takes_of rfl rfl rfl rfl
    have hp := passes_of (X := cxOf (L2.CX P w) P w K mg base (["_law_book_here", "_law_handed", "_law_finder"] : List Str) "_law_new" (defScope t_L_new) f cdv A outer s H E) rfl
    exact ⟨_, (ssm_cons (sm_name (i := 1) nd rfl (Or.inl rfl) (em_cty call_list_of cm_list rfl b_list (am_cons (em_var 0 (pv 0)) am_nil))) (ssm_cons (sm_name (i := 2) nd rfl (Or.inl rfl) (em_make (fun σ => passAt tk σ) MK_Finder (hr.mono (by decide)) rfl (am_cons (em_var 1 (pv 1)) am_nil))) (ssm_cons (sm_exprF (fm_mut0 mt_clear mm_clear PySem.F.plainAttrs_list PySem.F.slot_list_clear PySem.F.type_list_clear (pv 1))) (ssm_one (sm_retF (fm_mv 2 (pv 2)))))))⟩
abbrev t_L_figures_by : Stmt := topS 16
theorem sc_L_figures_by : FnScope (["_law_left", "_law_found", "_law_many", "_law_k"] : List Str) (["_law_left"] : List Str) (defScope t_L_figures_by) := ⟨rfl, rfl, rfl, by decide +kernel, rfl, by decide +kernel, by decide +kernel⟩
theorem ok_L_figures_by {P : Program} {w : World} {K : PySem.W.Frag} {mg : Str → Option Value} {base : Heap} {f : Addr} {fd : FuncData} (F : FunX K "_law_figures_by" "_law_figures_by" t_L_figures_by f fd) (b_range : mg "range" = none) (b_str : mg "str" = none) : FnOk P w K mg base (L2.CX P w) 1 f fd ["_law_left"] (spM K mg 1 f_L_figures_by) :=
  def_m F sc_L_figures_by rfl fun cdv A outer s H E hr => by
    have hu := hr.units
    have hu2 := units65 hr
    have nd := sc_L_figures_by.nd
    have tk : Takes (cxOf (L2.CX P w) P w K mg base (["_law_left", "_law_found", "_law_many", "_law_k"] : List Str) "_law_figures_by" (defScope t_L_figures_by) f cdv A outer s H E) (fun cls d _ H => E cls d H) := takes_of rfl rfl rfl rfl
    have hp := passes_of (X := cxOf (L2.CX P w) P w K mg base (["_law_left", "_law_found", "_law_many", "_law_k"] : List Str) "_law_figures_by" (defScope t_L_figures_by) f cdv A outer s H E) rfl
    exact ⟨_, (ssm_cons (sm_name (i := 1) nd rfl (Or.inl rfl) (em_str)) (ssm_cons (sm_name (i := 2) nd rfl (Or.inl rfl) (em_op op_addP om_add (em_int) (em_op op_mod om_I (em_var 0 (pv 0)) (em_int)))) (ssm_cons (sm_name (i := 0) nd rfl (Or.inl rfl) (em_op op_divP om_I (em_var 0 (pv 0)) (em_int))) (ssm_cons (sm_for [2, 3] hp rfl (im_range1 rfl b_range (am_cons (em_var 2 (pv 2)) am_nil)) (gm_name (pg_name nd rfl (Or.inl rfl))) (ssm_cons (sm_name (i := 1) nd rfl (Or.inl rfl) (em_op op_addP om_add (em_var 1 (pv 1)) (em_cty call_str_int cm_strI rfl b_str (am_cons (em_op op_mod om_I (em_var 0 (pv 0)) (em_int)) am_nil)))) (ssm_one (sm_name (i := 0) nd rfl (Or.inl rfl) (em_op op_divP om_I (em_var 0 (pv 0)) (em_int)))))) (ssm_one (sm_ret (em_tup 0 (am_cons (em_var 1 (pv 1)) (am_cons (em_var 0 (pv 0)) am_nil)))))))))⟩
abbrev t_L_book_by : Stmt := topS 17
theorem sc_L_book_by : FnScope (["_law_total", "_law_most", "_law_cell", "_law_left", "_law_free", "_law_book_here", "_law_many", "_law_k", "_law_number", "_law_group", "_law_size", "_law_turn", "_law_near", "_law_one", "_law_ends"] : List Str) (["_law_total", "_law_most", "_law_cell"] : List Str) (defScope t_L_book_by) := ⟨rfl, rfl, rfl, by decide +kernel, rfl, by decide +kernel, by decide +kernel⟩
theorem ok_L_book_by {P : Program} {w : World} {K : PySem.W.Frag} {mg : Str → Option Value} {base : Heap} {f : Addr} {fd : FuncData} (F : FunX K "_law_book_by" "_law_book_by" t_L_book_by f fd) (b_abs : mg "abs" = none) (b_len : mg "len" = none) (b_list : mg "list" = none) (b_min : mg "min" = none) (b_range : mg "range" = none) (b_tuple : mg "tuple" = none) (F_L_figures_by : FnM P w K mg base 1 "_law_figures_by" 1 f_L_figures_by [] []) : FnOk P w K mg base (L2.CX P w) 2 f fd ["_law_total", "_law_most", "_law_cell"] (spM K mg 3 f_L_book_by) :=
  def_m F sc_L_book_by rfl fun cdv A outer s H E hr => by
    have hu := hr.units
    have hu2 := units65 hr
    have nd := sc_L_book_by.nd
    have tk : Takes (cxOf (L2.CX P w) P w K mg base (["_law_total", "_law_most", "_law_cell", "_law_left", "_law_free", "_law_book_here", "_law_many", "_law_k", "_law_number", "_law_group", "_law_size", "_law_turn", "_law_near", "_law_one", "_law_ends"] : List Str) "_law_book_by" (defScope t_L_book_by) f cdv A outer s H E) (fun cls d _ H => E cls d H) := takes_of rfl rfl rfl rfl
    have hp := passes_of (X := cxOf (L2.CX P w) P w K mg base (["_law_total", "_law_most", "_law_cell", "_law_left", "_law_free", "_law_book_here", "_law_many", "_law_k", "_law_number", "_law_group", "_law_size", "_law_turn", "_law_near", "_law_one", "_law_ends"] : List Str) "_law_book_by" (defScope t_L_book_by) f cdv A outer s H E) rfl
    exact ⟨_, (ssm_cons (sm_name (i := 3) nd rfl (Or.inl rfl) (em_cb call_abs cm_I1 rfl b_abs (am_cons (em_var 2 (pv 2)) am_nil))) (ssm_cons (sm_name (i := 4) nd rfl (Or.inl rfl) (em_listR1 rfl rfl b_list rfl b_range (em_var 0 (pv 0)))) (ssm_cons (sm_name (i := 5) nd rfl (Or.inl rfl) (em_lst 0 am_nil)) (ssm_cons (sm_name (i := 6) nd rfl (Or.inl rfl) (em_op op_addP om_add (em_int) (em_op op_mod om_I (em_var 3 (pv 3)) (em_int)))) (ssm_cons (sm_name (i := 3) nd rfl (Or.inl rfl) (em_op op_divP om_I (em_var 3 (pv 3)) (em_int))) (ssm_cons (sm_for [0, 2, 6, 7, 8, 9, 10, 11, 12] hp rfl (im_range1 rfl b_range (am_cons (em_var 6 (pv 6)) am_nil)) (gm_name (pg_name nd rfl (Or.inl rfl))) (ssm_cons (sm_asg (em_call tk F_L_figures_by (hr.mono (by decide)) rfl (am_cons (em_var 3 (pv 3)) am_nil)) (gm_tup (gsm_cons (gm_name (pg_name nd rfl (Or.inr rfl))) (gsm_cons (gm_name (pg_name nd rfl (Or.inl rfl))) gsm_nil)) rfl)) (ssm_cons (sm_name (i := 9) nd rfl (Or.inl rfl) (em_lst 0 am_nil)) (ssm_cons (sm_name (i := 10) nd rfl (Or.inl rfl) (em_op op_addP om_add (em_int) (em_op op_mod om_I (em_var 3 (pv 3)) (em_var 1 (pv 1))))) (ssm_cons (sm_name (i := 3) nd rfl (Or.inl rfl) (em_op op_divP om_I (em_var 3 (pv 3)) (em_var 1 (pv 1)))) (ssm_cons (sm_for [0, 2, 6, 7, 10, 11, 12] hp rfl (im_range1 rfl b_range (am_cons (em_cb (call_min2 rfl) cm_I2 rfl b_min (am_cons (em_var 10 (pv 10)) (am_cons (em_cb call_len cm_len rfl b_len (am_cons (em_var 4 (pv 4)) am_nil)) am_nil))) am_nil)) (gm_name (pg_name nd rfl (Or.inl rfl))) (ssm_cons (sm_exprF (fm_mut mt_append mm_append PySem.F.plainAttrs_list PySem.F.slot_list_append PySem.F.type_list_append (pv 9) (fam_cons (fm_mut mt_popAt mm_popAt PySem.F.plainAttrs_list PySem.F.slot_list_pop PySem.F.type_list_pop (pv 4) (fam_pure (am_cons (em_op op_mod om_I (em_var 3 (pv 3)) (em_cb call_len cm_len rfl b_len (am_cons (em_var 4 (pv 4)) am_nil))) am_nil))) fam_nil))) (ssm_one (sm_name (i := 3) nd rfl (Or.inl rfl) (em_op op_divP om_I (em_var 3 (pv 3)) (em_op op_addP om_add (em_cb call_len cm_len rfl b_len (am_cons (em_var 4 (pv 4)) am_nil)) (em_int))))))) (ssm_frz 9 (ssm_cons (sm_setLc (ow := [(PySem.Str.ofString "_law_one", 13), (PySem.Str.ofString "_law_ends", 14)]) (i := 12) 0 rfl nd rfl rfl (sw_true rfl rfl rfl (by decide +kernel)) (im_seq (em_var 5 (pv 5))) (blkOk_by (N := (["_law_total", "_law_most", "_law_cell", "_law_left", "_law_free", "_law_book_here", "_law_many", "_law_k", "_law_number", "_law_group", "_law_size", "_law_turn", "_law_near", "_law_one", "_law_ends"] : List Str)) (sc := defScope t_L_book_by) (own := [(PySem.Str.ofString "_law_one", 13), (PySem.Str.ofString "_law_ends", 14)]) (by decide +kernel)) (fun _ _ _ _ _ => by exact gvm_tup (gvsm_cons (gvm_name (pg_name nd rfl (Or.inl rfl))) (gvsm_cons (gvm_name (pg_name nd rfl (Or.inl rfl))) gvsm_nil)) rfl) (fun _ _ _ _ _ => by exact (tms_one (wm_tm (wm_or (tm_cmp (op_eqP hu) om_eq (em_sliceT (em_var 13 (pv 13)) om_none (om_some (em_cb call_len cm_len rfl b_len (am_cons (em_var 8 (pv 8)) am_nil)))) (em_var 8 (pv 8)) (nomark _)) (wm_or1 (tm_cmp (op_eqP hu) om_eq (em_sliceT (em_var 8 (pv 8)) om_none (om_some (em_cb call_len cm_len rfl b_len (am_cons (em_var 13 (pv 13)) am_nil)))) (em_var 13 (pv 13)) (nomark _))))))) (fun _ _ _ _ _ => by exact (em_var 13 (pv 13)))) (ssm_frz 12 (ssm_one (sm_if (wm_tm (wm_and (tm_cmp (op_neP hu) om_eq (em_var 9 (pv 9)) (em_lst 0 am_nil) (nomark _)) (wm_and1 (tm_cmp (op_eqP hu) om_eq (em_var 12 (pv 12)) (em_lst 0 am_nil) (nomark _))))) (ssm_one (sm_exprF (fm_mut mt_append mm_append PySem.F.plainAttrs_list PySem.F.slot_list_append PySem.F.type_list_append (pv 5) (fam_pure (am_cons (em_tup 0 (am_cons (em_var 8 (pv 8)) (am_cons (em_cty call_tuple_of cm_tuple rfl b_tuple (am_cons (em_var 9 (pv 9)) am_nil)) am_nil))) am_nil))))) (ssm_nil)))))))))))) (ssm_one (sm_retF (fm_mv 5 (pv 5))))))))))⟩
abbrev t_law : Stmt := topS 18
theorem sc_law : FnScope (["_law_script", "_law_by_digits", "_law_seed", "_law_book_here", "_law_finder", "_law_figures", "_law_aim", "_law_k", "_law_cell", "_law_odd", "_law_figure"] : List Str) (["_law_script"] : List Str) (defScope t_law) := ⟨rfl, rfl, rfl, by decide +kernel, rfl, by decide +kernel, by decide +kernel⟩
theorem ok_law {P : Program} {w : World} {K : PySem.W.Frag} {mg : Str → Option Value} {base : Heap} {f : Addr} {fd : FuncData} (F : FunX K "law" "law" t_law f fd) (b_len : mg "len" = none) (b_min : mg "min" = none) (b_range : mg "range" = none) (b_str : mg "str" = none) (F_L_cell_at : FnM P w K mg base 1 "_law_cell_at" 2 f_L_cell_at [] []) (F_L_mixed : FnM P w K mg base 1 "_law_mixed" 2 f_L_mixed [] []) (F_L_book : FnM P w K mg base 1 "_law_book" 1 f_L_book [] []) (F_L_book_by : FnM P w K mg base 2 "_law_book_by" 3 f_L_book_by [] []) (F_L_new : FnM P w K mg base 3 "_law_new" 1 f_L_new [] []) (F_L_looks : FnM P w K mg base 2 "_law_looks" 4 f_L_looks [] []) (F_L_refused : FnM P w K mg base 4 "_law_refused" 2 f_L_refused [] []) (F_L_where : FnM P w K mg base 1 "_law_where" 2 f_L_where [] []) (MT_turn : MethT P w K mg base 3 "turn" 2 [("Finder", f_Finder_turn)] [] []) : FnOk P w K mg base (L2.CX P w) 5 f fd ["_law_script"] (spM K mg 1 f_law) :=
  def_m F sc_law rfl fun cdv A outer s H E hr => by
    have hu := hr.units
    have hu2 := units65 hr
    have nd := sc_law.nd
    have tk : Takes (cxOf (L2.CX P w) P w K mg base (["_law_script", "_law_by_digits", "_law_seed", "_law_book_here", "_law_finder", "_law_figures", "_law_aim", "_law_k", "_law_cell", "_law_odd", "_law_figure"] : List Str) "law" (defScope t_law) f cdv A outer s H E) (fun cls d _ H => E cls d H) := takes_of rfl rfl rfl rfl
    have hp := passes_of (X := cxOf (L2.CX P w) P w K mg base (["_law_script", "_law_by_digits", "_law_seed", "_law_book_here", "_law_finder", "_law_figures", "_law_aim", "_law_k", "_law_cell", "_law_odd", "_law_figure"] : List Str) "law" (defScope t_law) f cdv A outer s H E) rfl
    exact ⟨_, (ssm_cons (sm_name (i := 1) nd rfl (Or.inl rfl) (em_cmp (op_eqP hu) om_eq (em_op op_mod om_I (em_call tk F_L_cell_at (hr.mono (by decide)) rfl (am_cons (em_var 0 (pv 0)) (am_cons (em_int) am_nil))) (em_int)) (em_int) (nomark _))) (ssm_cons (sm_name (i := 2) nd rfl (Or.inl rfl) (em_call tk F_L_mixed (hr.mono (by decide)) rfl (am_cons (em_call tk F_L_cell_at (hr.mono (by decide)) rfl (am_cons (em_var 0 (pv 0)) (am_cons (em_int) am_nil))) (am_cons (em_int) am_nil)))) (ssm_cons (sm_name (i := 3) nd rfl (Or.inl rfl) (em_call tk F_L_book (hr.mono (by decide)) rfl (am_cons (em_var 2 (pv 2)) am_nil))) (ssm_frz 3 (ssm_cons (sm_if (tm_val (em_var 1 (pv 1))) (ssm_cons (sm_name (i := 3) nd rfl (Or.inl rfl) (em_call tk F_L_book_by (hr.mono (by decide)) rfl (am_cons (em_int) (am_cons (em_int) (am_cons (em_op op_divP om_I (em_call tk F_L_cell_at (hr.mono (by decide)) rfl (am_cons (em_var 0 (pv 0)) (am_cons (em_int) am_nil))) (em_int)) am_nil))))) (ssm_frz 3 (ssm_nil))) (ssm_nil)) (ssm_cons (sm_name (i := 4) nd rfl (Or.inl rfl) (em_call tk F_L_new (hr.mono (by decide)) rfl (am_cons (em_var 3 (pv 3)) am_nil))) (ssm_cons (sm_name (i := 5) nd rfl (Or.inl rfl) (em_str)) (ssm_cons (sm_name (i := 6) nd rfl (Or.inl rfl) (em_ix (ix_U hu) om_ixU (em_ix (ix_U hu) om_ixU (em_var 3 (pv 3)) (em_op op_mod om_I (em_op op_divP om_I (em_var 2 (pv 2)) (em_int)) (em_cb call_len cm_len rfl b_len (am_cons (em_var 3 (pv 3)) am_nil))) (fun _ _ => rfl)) (em_int) (fun _ _ => rfl))) (ssm_cons (sm_for [1, 2, 7, 8, 9, 10] hp rfl (im_range2 rfl b_range (am_cons (em_int) (am_cons (em_cb (call_min2 rfl) cm_I2 rfl b_min (am_cons (em_cb call_len cm_len rfl b_len (am_cons (em_var 0 (pv 0)) am_nil)) (am_cons (em_int) am_nil))) am_nil))) (gm_name (pg_name nd rfl (Or.inl rfl))) (ssm_cons (sm_name (i := 8) nd rfl (Or.inl rfl) (em_call tk F_L_mixed (hr.mono (by decide)) rfl (am_cons (em_ix (ix_U hu) om_ixU (em_var 0 (pv 0)) (em_var 7 (pv 7)) (fun _ _ => rfl)) (am_cons (em_var 7 (pv 7)) am_nil)))) (ssm_cons (sm_if (tm_not (tm_val (em_call tk F_L_looks (hr.mono (by decide)) rfl (am_cons (em_var 4 (pv 4)) (am_cons (em_var 3 (pv 3)) (am_cons (em_var 5 (pv 5)) (am_cons (em_cmp (op_eqP hu) om_eq (em_op op_mod om_I (em_op op_divP om_I (em_var 8 (pv 8)) (em_int)) (em_int)) (em_int) (nomark _)) am_nil))))))) (ssm_one (sm_ret (em_bl))) (ssm_nil)) (ssm_cons (sm_if (tm_cmp (op_eqP hu) om_eq (em_op op_mod om_I (em_var 8 (pv 8)) (em_int)) (em_int) (nomark _)) (ssm_cons (sm_name (i := 9) nd rfl (Or.inl rfl) (em_ix (ix_U hu) om_ixU (em_lst 0 (am_cons (em_str) (am_cons (em_str) (am_cons (em_str) (am_cons (em_int) (am_cons (em_non) (am_cons (em_bl) (am_cons (em_lst 0 (am_cons (em_str) am_nil)) (am_cons (em_str) (am_cons (em_str) am_nil)))))))))) (em_op op_mod om_I (em_op op_divP om_I (em_var 8 (pv 8)) (em_int)) (em_int)) (fun _ _ => rfl))) (ssm_one (sm_ifF (ftm_cmp (op_neP hu) om_eq (fm_call tk F_L_refused (hr.mono (by decide)) rfl (frm_io 4 (pv 4) (frm_c (fm_pure (em_var 9 (pv 9))) frm_nil))) (fm_pure (em_str)) (nomark _)) (ssm_one (sm_ret (em_bl))) (ssm_nil)))) (ssm_nil)) (ssm_cons (sm_name (i := 10) nd rfl (Or.inl rfl) (em_cty call_str_int cm_strI rfl b_str (am_cons (em_op op_mod om_I (em_op op_divP om_I (em_var 8 (pv 8)) (em_int)) (em_int)) am_nil))) (ssm_cons (sm_if (wm_tm (wm_and (tm_cmp op_gt om_gt (em_op op_mod om_I (em_var 8 (pv 8)) (em_int)) (em_int) (nomark _)) (wm_and (tm_cmp op_lt om_lt (em_cb call_len cm_len rfl b_len (am_cons (em_var 5 (pv 5)) am_nil)) (em_cb call_len cm_len rfl b_len (am_cons (em_var 6 (pv 6)) am_nil)) (nomark _)) (wm_and1 (tm_cmp (op_eqP hu) om_eq (em_sliceT (em_var 6 (pv 6)) om_none (om_some (em_cb call_len cm_len rfl b_len (am_cons (em_var 5 (pv 5)) am_nil)))) (em_var 5 (pv 5)) (nomark _)))))) (ssm_one (sm_name (i := 10) nd rfl (Or.inl rfl) (em_ix (ix_U hu) om_ixU (em_var 6 (pv 6)) (em_cb call_len cm_len rfl b_len (am_cons (em_var 5 (pv 5)) am_nil)) (fun _ _ => rfl)))) (ssm_nil)) (ssm_one (sm_if (tm_cmp (op_eqP hu) om_eq (em_call tk F_L_where (hr.mono (by decide)) rfl (am_cons (em_var 3 (pv 3)) (am_cons (em_var 5 (pv 5)) am_nil))) (em_str) (nomark _)) (ssm_cons (sm_name (i := 5) nd rfl (Or.inl rfl) (em_op op_addP om_add (em_var 5 (pv 5)) (em_var 10 (pv 10)))) (ssm_one (sm_ifF (ftm_cmp (op_neP hu) om_eq (fm_meth (fun σ => passAt tk σ) MT_turn (hr.mono (by decide)) (rx_var 4 (pv 4)) (am_cons (em_var 10 (pv 10)) am_nil)) (fm_pure (em_call tk F_L_where (hr.mono (by decide)) rfl (am_cons (em_var 3 (pv 3)) (am_cons (em_var 5 (pv 5)) am_nil)))) (nomark _)) (ssm_one (sm_ret (em_bl))) (ssm_nil)))) (ssm_cons (sm_ifF (ftw_tm (ftw_or (ftm_cmp (op_neP hu) om_eq (fm_call tk F_L_refused (hr.mono (by decide)) rfl (frm_io 4 (pv 4) (frm_c (fm_pure (em_var 10 (pv 10))) frm_nil))) (fm_pure (em_str)) (nomark _)) (ftw_or1 (ftm_pure (tm_not (tm_val (em_call tk F_L_looks (hr.mono (by decide)) rfl (am_cons (em_var 4 (pv 4)) (am_cons (em_var 3 (pv 3)) (am_cons (em_var 5 (pv 5)) (am_cons (em_bl) am_nil))))))))))) (ssm_one (sm_ret (em_bl))) (ssm_nil)) (ssm_cons (sm_name (i := 4) nd rfl (Or.inl rfl) (em_call tk F_L_new (hr.mono (by decide)) rfl (am_cons (em_var 3 (pv 3)) am_nil))) (ssm_cons (sm_name (i := 5) nd rfl (Or.inl rfl) (em_str)) (ssm_one (sm_name (i := 6) nd rfl (Or.inl rfl) (em_ix (ix_U hu) om_ixU (em_ix (ix_U hu) om_ixU (em_var 3 (pv 3)) (em_op op_mod om_I (em_op op_divP om_I (em_var 8 (pv 8)) (em_int)) (em_cb call_len cm_len rfl b_len (am_cons (em_var 3 (pv 3)) am_nil))) (fun _ _ => rfl)) (em_int) (fun _ _ => rfl))))))))))))))) (ssm_frz 4 (ssm_one (sm_ret (em_call tk F_L_looks (hr.mono (by decide)) rfl (am_cons (em_var 4 (pv 4)) (am_cons (em_var 3 (pv 3)) (am_cons (em_var 5 (pv 5)) (am_cons (em_bl) am_nil)))))))))))))))))⟩
theorem all_mk {l : PySem.W.OpenLaw} {w : World} {K : PySem.W.Frag} {h : Heap} {mg : Str → Option Value} {fa f0 f1 f2 f3 f4 f5 f6 f7 f8 f9 f10 f11 f12 f13 f14 f15 : Addr} (X : K.In h) (G : h.Ns mainGlobals mg) (hfa : mg "law" = some (.ref fa))
    {od0 an0 od1 an1 od2 an2 od3 an3 od4 an4 od5 an5 od6 an6 od7 an7 od8 an8 od9 an9 od10 an10 od11 an11 od12 an12 od13 an13 od14 an14 od15 an15 : Option Addr} {sl0 sl1 sl2 sl3 sl4 sl5 sl6 sl7 sl8 sl9 sl10 sl11 sl12 sl13 sl14 sl15 : Array (Option Value)} {oc0 kV0 dc0 pm0 cd0 ct0 oc1 kV1 dc1 pm1 cd1 ct1 oc2 kV2 dc2 pm2 cd2 ct2 oc3 kV3 dc3 pm3 cd3 ct3 oc4 kV4 dc4 pm4 cd4 ct4 oc5 kV5 dc5 pm5 cd5 ct5 oc6 kV6 dc6 pm6 cd6 ct6 oc7 kV7 dc7 pm7 cd7 ct7 oc8 kV8 dc8 pm8 cd8 ct8 oc9 kV9 dc9 pm9 cd9 ct9 oc10 kV10 dc10 pm10 cd10 ct10 oc11 kV11 dc11 pm11 cd11 ct11 oc12 kV12 dc12 pm12 cd12 ct12 oc13 kV13 dc13 pm13 cd13 ct13 oc14 kV14 dc14 pm14 cd14 ct14 oc15 kV15 dc15 pm15 cd15 ct15 : Value}
    (a0 : PySem.W.nsIn K mainGlobals "is_figure" = some (some (.ref f0)))
    (l0 : K.lookup f0 = some ⟨oc0, od0, .func (PySem.W.fnOf "is_figure" "is_figure" (defArgs t_is_figure) (defBody t_is_figure) (defScope t_is_figure) .none kV0 dc0 pm0 an0 cd0 ct0), sl0⟩) (c0 : PySem.W.codeIn K cd0 "is_figure" = true) (k0 : PySem.W.keepIn K (.ref f0) = true)
    (l1 : K.lookup f1 = some ⟨oc1, od1, .func (PySem.W.fnOf "__init__" "Finder.__init__" (defArgs t_Finder___init__) (defBody t_Finder___init__) (defScope t_Finder___init__) .none kV1 dc1 pm1 an1 cd1 ct1), sl1⟩) (c1 : PySem.W.codeIn K cd1 "Finder.__init__" = true) (k1 : PySem.W.keepIn K (.ref f1) = true)
    (l2 : K.lookup f2 = some ⟨oc2, od2, .func (PySem.W.fnOf "numbers" "Finder.numbers" (defArgs t_Finder_numbers) (defBody t_Finder_numbers) (defScope t_Finder_numbers) .none kV2 dc2 pm2 an2 cd2 ct2), sl2⟩) (c2 : PySem.W.codeIn K cd2 "Finder.numbers" = true) (k2 : PySem.W.keepIn K (.ref f2) = true)
    (l3 : K.lookup f3 = some ⟨oc3, od3, .func (PySem.W.fnOf "word" "Finder.word" (defArgs t_Finder_word) (defBody t_Finder_word) (defScope t_Finder_word) .none kV3 dc3 pm3 an3 cd3 ct3), sl3⟩) (c3 : PySem.W.codeIn K cd3 "Finder.word" = true) (k3 : PySem.W.keepIn K (.ref f3) = true)
    (l4 : K.lookup f4 = some ⟨oc4, od4, .func (PySem.W.fnOf "turn" "Finder.turn" (defArgs t_Finder_turn) (defBody t_Finder_turn) (defScope t_Finder_turn) .none kV4 dc4 pm4 an4 cd4 ct4), sl4⟩) (c4 : PySem.W.codeIn K cd4 "Finder.turn" = true) (k4 : PySem.W.keepIn K (.ref f4) = true)
    (l5 : K.lookup f5 = some ⟨oc5, od5, .func (PySem.W.fnOf "group" "Finder.group" (defArgs t_Finder_group) (defBody t_Finder_group) (defScope t_Finder_group) .none kV5 dc5 pm5 an5 cd5 ct5), sl5⟩) (c5 : PySem.W.codeIn K cd5 "Finder.group" = true) (k5 : PySem.W.keepIn K (.ref f5) = true)
    (a6 : PySem.W.nsIn K mainGlobals "_law_cell_at" = some (some (.ref f6)))
    (l6 : K.lookup f6 = some ⟨oc6, od6, .func (PySem.W.fnOf "_law_cell_at" "_law_cell_at" (defArgs t_L_cell_at) (defBody t_L_cell_at) (defScope t_L_cell_at) .none kV6 dc6 pm6 an6 cd6 ct6), sl6⟩) (c6 : PySem.W.codeIn K cd6 "_law_cell_at" = true) (k6 : PySem.W.keepIn K (.ref f6) = true)
    (a7 : PySem.W.nsIn K mainGlobals "_law_mixed" = some (some (.ref f7)))
    (l7 : K.lookup f7 = some ⟨oc7, od7, .func (PySem.W.fnOf "_law_mixed" "_law_mixed" (defArgs t_L_mixed) (defBody t_L_mixed) (defScope t_L_mixed) .none kV7 dc7 pm7 an7 cd7 ct7), sl7⟩) (c7 : PySem.W.codeIn K cd7 "_law_mixed" = true) (k7 : PySem.W.keepIn K (.ref f7) = true)
    (a8 : PySem.W.nsIn K mainGlobals "_law_book" = some (some (.ref f8)))
    (l8 : K.lookup f8 = some ⟨oc8, od8, .func (PySem.W.fnOf "_law_book" "_law_book" (defArgs t_L_book) (defBody t_L_book) (defScope t_L_book) .none kV8 dc8 pm8 an8 cd8 ct8), sl8⟩) (c8 : PySem.W.codeIn K cd8 "_law_book" = true) (k8 : PySem.W.keepIn K (.ref f8) = true)
    (a9 : PySem.W.nsIn K mainGlobals "_law_where" = some (some (.ref f9)))
    (l9 : K.lookup f9 = some ⟨oc9, od9, .func (PySem.W.fnOf "_law_where" "_law_where" (defArgs t_L_where) (defBody t_L_where) (defScope t_L_where) .none kV9 dc9 pm9 an9 cd9 ct9), sl9⟩) (c9 : PySem.W.codeIn K cd9 "_law_where" = true) (k9 : PySem.W.keepIn K (.ref f9) = true)
    (a10 : PySem.W.nsIn K mainGlobals "_law_looks" = some (some (.ref f10)))
    (l10 : K.lookup f10 = some ⟨oc10, od10, .func (PySem.W.fnOf "_law_looks" "_law_looks" (defArgs t_L_looks) (defBody t_L_looks) (defScope t_L_looks) .none kV10 dc10 pm10 an10 cd10 ct10), sl10⟩) (c10 : PySem.W.codeIn K cd10 "_law_looks" = true) (k10 : PySem.W.keepIn K (.ref f10) = true)
    (a11 : PySem.W.nsIn K mainGlobals "_law_refused" = some (some (.ref f11)))
    (l11 : K.lookup f11 = some ⟨oc11, od11, .func (PySem.W.fnOf "_law_refused" "_law_refused" (defArgs t_L_refused) (defBody t_L_refused) (defScope t_L_refused) .none kV11 dc11 pm11 an11 cd11 ct11), sl11⟩) (c11 : PySem.W.codeIn K cd11 "_law_refused" = true) (k11 : PySem.W.keepIn K (.ref f11) = true)
    (a12 : PySem.W.nsIn K mainGlobals "_law_new" = some (some (.ref f12)))
    (l12 : K.lookup f12 = some ⟨oc12, od12, .func (PySem.W.fnOf "_law_new" "_law_new" (defArgs t_L_new) (defBody t_L_new) (defScope t_L_new) .none kV12 dc12 pm12 an12 cd12 ct12), sl12⟩) (c12 : PySem.W.codeIn K cd12 "_law_new" = true) (k12 : PySem.W.keepIn K (.ref f12) = true)
    (a13 : PySem.W.nsIn K mainGlobals "_law_figures_by" = some (some (.ref f13)))
    (l13 : K.lookup f13 = some ⟨oc13, od13, .func (PySem.W.fnOf "_law_figures_by" "_law_figures_by" (defArgs t_L_figures_by) (defBody t_L_figures_by) (defScope t_L_figures_by) .none kV13 dc13 pm13 an13 cd13 ct13), sl13⟩) (c13 : PySem.W.codeIn K cd13 "_law_figures_by" = true) (k13 : PySem.W.keepIn K (.ref f13) = true)
    (a14 : PySem.W.nsIn K mainGlobals "_law_book_by" = some (some (.ref f14)))
    (l14 : K.lookup f14 = some ⟨oc14, od14, .func (PySem.W.fnOf "_law_book_by" "_law_book_by" (defArgs t_L_book_by) (defBody t_L_book_by) (defScope t_L_book_by) .none kV14 dc14 pm14 an14 cd14 ct14), sl14⟩) (c14 : PySem.W.codeIn K cd14 "_law_book_by" = true) (k14 : PySem.W.keepIn K (.ref f14) = true)
    (a15 : PySem.W.nsIn K mainGlobals "law" = some (some (.ref f15)))
    (l15 : K.lookup f15 = some ⟨oc15, od15, .func (PySem.W.fnOf "law" "law" (defArgs t_law) (defBody t_law) (defScope t_law) .none kV15 dc15 pm15 an15 cd15 ct15), sl15⟩) (c15 : PySem.W.codeIn K cd15 "law" = true) (k15 : PySem.W.keepIn K (.ref f15) = true) (z_ValueError : PySem.W.nsIn K mainGlobals "ValueError" = some none) (z_abs : PySem.W.nsIn K mainGlobals "abs" = some none) (z_isinstance : PySem.W.nsIn K mainGlobals "isinstance" = some none) (z_len : PySem.W.nsIn K mainGlobals "len" = some none) (z_list : PySem.W.nsIn K mainGlobals "list" = some none) (z_min : PySem.W.nsIn K mainGlobals "min" = some none) (z_range : PySem.W.nsIn K mainGlobals "range" = some none) (z_str : PySem.W.nsIn K mainGlobals "str" = some none) (z_tuple : PySem.W.nsIn K mainGlobals "tuple" = some none) {cl_Finder cl_HallError cl_NoFigure cl_NoTurn : Addr}
    (xk_FIGURES : ∃ t : Tok, PySem.W.nsIn K mainGlobals "FIGURES" = some (some (Value.str "0123456789" t)))
    (xn_Finder : PySem.W.nsIn K mainGlobals "Finder" = some (some (.ref cl_Finder)))
    (xog_Finder : PySem.W.plainGet K cl_Finder Str.empty = true)
    (xoh_Finder : PySem.W.hasDictIn K cl_Finder = true)
    (xov_Finder : PySem.W.plainOver K cl_Finder = true)
    (xos_Finder : PySem.W.findIn K (.ref cl_Finder) "__setattr__" = some (some (.builtin "object.__setattr__")))
    (xoc_Finder : PySem.W.findIn K (.ref cl_Finder) "__class__" = some (some (.builtin "object.__class__")))
    (xom_Finder : PySem.W.mroIn K cl_Finder (.type "object") = some true)
    (xok_Finder : PySem.W.keepIn K (.ref cl_Finder) = true)
    (xon_Finder : PySem.W.makesIn K cl_Finder = true)
    (xo_dialled_Finder : PySem.W.findIn K (.ref cl_Finder) "dialled" = some none)
    (xo_listing_Finder : PySem.W.findIn K (.ref cl_Finder) "listing" = some none)
    (xe___init___Finder : PySem.W.findIn K (.ref cl_Finder) "__init__" = some (some (.ref f1)))
    (xf_Finder___init__ : PySem.W.isFn K (.ref f1) = true)
    (xe_group_Finder : PySem.W.findIn K (.ref cl_Finder) "group" = some (some (.ref f5)))
    (xf_Finder_group : PySem.W.isFn K (.ref f5) = true)
    (xe_numbers_Finder : PySem.W.findIn K (.ref cl_Finder) "numbers" = some (some (.ref f2)))
    (xf_Finder_numbers : PySem.W.isFn K (.ref f2) = true)
    (xe_turn_Finder : PySem.W.findIn K (.ref cl_Finder) "turn" = some (some (.ref f4)))
    (xf_Finder_turn : PySem.W.isFn K (.ref f4) = true)
    (xe_word_Finder : PySem.W.findIn K (.ref cl_Finder) "word" = some (some (.ref f3)))
    (xf_Finder_word : PySem.W.isFn K (.ref f3) = true)
    (xn_HallError : PySem.W.nsIn K mainGlobals "HallError" = some (some (.ref cl_HallError)))
    (xn_NoFigure : PySem.W.nsIn K mainGlobals "NoFigure" = some (some (.ref cl_NoFigure)))
    (xn_NoTurn : PySem.W.nsIn K mainGlobals "NoTurn" = some (some (.ref cl_NoTurn)))
    (xsp : PySem.W.specialIn K (.builtin "object.__class__") "__get__" = some (some (.builtin "getset_descriptor.__get__")))
    (xtk : PySem.W.takesIn K (.builtin "object.__class__") = some true)
    (xs_NoFigure : PySem.W.subIn K (.ref cl_NoFigure) (.type "BaseException") = some true)
    (xs_NoTurn : PySem.W.subIn K (.ref cl_NoTurn) (.type "BaseException") = some true)
    (xa_NoFigure : PySem.W.findIn K (.ref cl_NoFigure) "__getattribute__" = some (some (.builtin "BaseException.__getattribute__")))
    (xb_NoFigure : PySem.W.findIn K (.ref cl_NoFigure) "__getattr__" = some none)
    (xc_NoFigure : PySem.W.findIn K (.ref cl_NoFigure) "__class__" = some (some (.builtin "object.__class__")))
    (xo_NoFigure : PySem.W.mroIn K cl_NoFigure (.type "object") = some true)
    (xd_NoFigure : PySem.W.hasDictIn K cl_NoFigure = true)
    (xa_NoTurn : PySem.W.findIn K (.ref cl_NoTurn) "__getattribute__" = some (some (.builtin "BaseException.__getattribute__")))
    (xb_NoTurn : PySem.W.findIn K (.ref cl_NoTurn) "__getattr__" = some none)
    (xc_NoTurn : PySem.W.findIn K (.ref cl_NoTurn) "__class__" = some (some (.builtin "object.__class__")))
    (xo_NoTurn : PySem.W.mroIn K cl_NoTurn (.type "object") = some true)
    (xd_NoTurn : PySem.W.hasDictIn K cl_NoTurn = true)
    (xe_HallError_NoFigure : PySem.W.exmOne K (.ref cl_NoFigure) (.ref cl_HallError) = some true)
    (xe_HallError_NoTurn : PySem.W.exmOne K (.ref cl_NoTurn) (.ref cl_HallError) = some true)
    (xi_NoFigure_NoFigure : PySem.W.kitOne K (.ref cl_NoFigure) (.ref cl_NoFigure) = some true)
    (xi_NoFigure_NoTurn : PySem.W.kitOne K (.ref cl_NoTurn) (.ref cl_NoFigure) = some false)
    (xi_NoTurn_NoFigure : PySem.W.kitOne K (.ref cl_NoFigure) (.ref cl_NoTurn) = some false)
    (xi_NoTurn_NoTurn : PySem.W.kitOne K (.ref cl_NoTurn) (.ref cl_NoTurn) = some true)
    (xi_ValueError_NoFigure : PySem.W.kitOne K (.ref cl_NoFigure) (.type "ValueError") = some true)
    (xi_ValueError_NoTurn : PySem.W.kitOne K (.ref cl_NoTurn) (.type "ValueError") = some true)
    (xq_NoFigure : PySem.W.excIn K cl_NoFigure [.type "ValueError", .type "Exception", .type "BaseException", .type "object"] "ValueError.__new__" = true)
    (xk_NoFigure : PySem.W.keepIn K (.ref cl_NoFigure) = true)
    (xt_NoFigure : PySem.W.typeIn K (.ref cl_NoFigure) = some (.type "type"))
    (xq_NoTurn : PySem.W.excIn K cl_NoTurn [.type "ValueError", .type "Exception", .type "BaseException", .type "object"] "ValueError.__new__" = true)
    (xk_NoTurn : PySem.W.keepIn K (.ref cl_NoTurn) = true)
    (xt_NoTurn : PySem.W.typeIn K (.ref cl_NoTurn) = some (.type "type")) :
    ∃ fd : FuncData, (∀ (s : Shared) (v : Value), BindsTo s fd ⟨[v], []⟩ [("_law_script", v)]) ∧ ∀ base : Heap, K.In base → base.Ns mainGlobals mg → FnOk l.prog w K mg base (L2.CX l.prog w) 5 fa fd ["_law_script"] (spM K mg 1 f_law) := by
  have e := hfa.symm.trans (PySem.W.mg_of X G a15)
  cases e
  have b_ValueError := PySem.W.mg_none_of X G z_ValueError
  have b_abs := PySem.W.mg_none_of X G z_abs
  have b_isinstance := PySem.W.mg_none_of X G z_isinstance
  have b_len := PySem.W.mg_none_of X G z_len
  have b_list := PySem.W.mg_none_of X G z_list
  have b_min := PySem.W.mg_none_of X G z_min
  have b_range := PySem.W.mg_none_of X G z_range
  have b_str := PySem.W.mg_none_of X G z_str
  have b_tuple := PySem.W.mg_none_of X G z_tuple
  have G0 := fun_mk (st := t_is_figure) l0 c0 k0
  have G1 := fun_mk (st := t_Finder___init__) l1 c1 k1
  have G2 := fun_mk (st := t_Finder_numbers) l2 c2 k2
  have G3 := fun_mk (st := t_Finder_word) l3 c3 k3
  have G4 := fun_mk (st := t_Finder_turn) l4 c4 k4
  have G5 := fun_mk (st := t_Finder_group) l5 c5 k5
  have G6 := fun_mk (st := t_L_cell_at) l6 c6 k6
  have G7 := fun_mk (st := t_L_mixed) l7 c7 k7
  have G8 := fun_mk (st := t_L_book) l8 c8 k8
  have G9 := fun_mk (st := t_L_where) l9 c9 k9
  have G10 := fun_mk (st := t_L_looks) l10 c10 k10
  have G11 := fun_mk (st := t_L_refused) l11 c11 k11
  have G12 := fun_mk (st := t_L_new) l12 c12 k12
  have G13 := fun_mk (st := t_L_figures_by) l13 c13 k13
  have G14 := fun_mk (st := t_L_book_by) l14 c14 k14
  have G15 := fun_mk (st := t_law) l15 c15 k15
  have c_FIGURES : ∃ t : Tok, mg "FIGURES" = some (Value.str "0123456789" t) := xk_FIGURES.imp fun _ h => PySem.W.mg_of X G h
  have xm_Finder := PySem.W.mg_of X G xn_Finder
  have XC_Finder : Cls K cl_Finder := ⟨xog_Finder, xoh_Finder, xov_Finder, xos_Finder⟩
  have XI_Finder : InsC K cl_Finder := ⟨XC_Finder, xoc_Finder, xsp, xtk, xom_Finder⟩
  have FO_dialled : FldO K "dialled" ["Finder"] := by
    intro x hx
    simp only [List.mem_cons, List.not_mem_nil, or_false] at hx
    rcases hx with rfl
    · exact ⟨cl_Finder, xn_Finder, XC_Finder, xo_dialled_Finder⟩
  have FO_listing : FldO K "listing" ["Finder"] := by
    intro x hx
    simp only [List.mem_cons, List.not_mem_nil, or_false] at hx
    rcases hx with rfl
    · exact ⟨cl_Finder, xn_Finder, XC_Finder, xo_listing_Finder⟩
  have xm_HallError := PySem.W.mg_of X G xn_HallError
  have xm_NoFigure := PySem.W.mg_of X G xn_NoFigure
  have xm_NoTurn := PySem.W.mg_of X G xn_NoTurn
  have XE_NoFigure : ErrC K cl_NoFigure := ErrC.of xa_NoFigure xb_NoFigure xs_NoFigure xc_NoFigure xo_NoFigure xd_NoFigure xsp xtk
  have XE_NoTurn : ErrC K cl_NoTurn := ErrC.of xa_NoTurn xb_NoTurn xs_NoTurn xc_NoTurn xo_NoTurn xd_NoTurn xsp xtk
  have CX_HallError : CatX K mg "HallError" ["NoFigure", "NoTurn"] := ⟨cl_HallError, xm_HallError, by
    intro x hx
    simp only [List.mem_cons, List.not_mem_nil, or_false] at hx
    rcases hx with rfl | rfl
    · exact ⟨cl_NoFigure, xn_NoFigure, xm_NoFigure, xe_HallError_NoFigure⟩
    · exact ⟨cl_NoTurn, xn_NoTurn, xm_NoTurn, xe_HallError_NoTurn⟩⟩
  have IX_NoFigure : IsX K mg "NoFigure" [("NoFigure", true), ("NoTurn", false)] := ⟨.ref cl_NoFigure, .inl ⟨_, rfl, xm_NoFigure⟩, by
    intro p hp
    simp only [List.mem_cons, List.not_mem_nil, or_false] at hp
    rcases hp with rfl | rfl
    · exact ⟨cl_NoFigure, xn_NoFigure, XE_NoFigure, xi_NoFigure_NoFigure⟩
    · exact ⟨cl_NoTurn, xn_NoTurn, XE_NoTurn, xi_NoFigure_NoTurn⟩⟩
  have IX_NoTurn : IsX K mg "NoTurn" [("NoFigure", false), ("NoTurn", true)] := ⟨.ref cl_NoTurn, .inl ⟨_, rfl, xm_NoTurn⟩, by
    intro p hp
    simp only [List.mem_cons, List.not_mem_nil, or_false] at hp
    rcases hp with rfl | rfl
    · exact ⟨cl_NoFigure, xn_NoFigure, XE_NoFigure, xi_NoTurn_NoFigure⟩
    · exact ⟨cl_NoTurn, xn_NoTurn, XE_NoTurn, xi_NoTurn_NoTurn⟩⟩
  have IX_ValueError : IsX K mg "ValueError" [("NoFigure", true), ("NoTurn", true)] := ⟨.ty "ValueError", .inr ⟨_, rfl, b_ValueError, PyProof.Rows.Boot.«ValueError», by decide⟩, by
    intro p hp
    simp only [List.mem_cons, List.not_mem_nil, or_false] at hp
    rcases hp with rfl | rfl
    · exact ⟨cl_NoFigure, xn_NoFigure, XE_NoFigure, xi_ValueError_NoFigure⟩
    · exact ⟨cl_NoTurn, xn_NoTurn, XE_NoTurn, xi_ValueError_NoTurn⟩⟩
  have RX_NoFigure : RaiX K mg "NoFigure" := ⟨cl_NoFigure, xm_NoFigure, xq_NoFigure, xk_NoFigure, xs_NoFigure, xt_NoFigure⟩
  have RX_NoTurn : RaiX K mg "NoTurn" := ⟨cl_NoTurn, xm_NoTurn, xq_NoTurn, xk_NoTurn, xs_NoTurn, xt_NoTurn⟩
  refine ⟨PySem.W.fnOf "law" "law" (defArgs t_law) (defBody t_law) (defScope t_law) .none kV15 dc15 pm15 an15 cd15 ct15, fun s v => .of_eq rfl, fun base _ _ => ?_⟩
  have F_is_figure : FnM l.prog w K mg base 1 "is_figure" 1 f_is_figure [] [] := by
    obtain ⟨ds, hv, hb⟩ : ∃ ds, Vals [] ds ∧ Binds K _ ["thing"] ds := ⟨[], .nil, G0.binds (ps := ["thing"]) (fun _ _ _ _ _ _ us hl => match us, hl with | [_], _ => rfl)⟩
    exact ⟨⟨_, _, _, ds, ok_is_figure (VL.Fun.x G0) b_isinstance b_len b_str c_FIGURES, PySem.W.mg_of X G a0, k0, hb, hv⟩, fun _ => .nil⟩
  have K_Finder___init__ := ok_Finder___init__ (P := l.prog) (w := w) (mg := mg) (base := base) (VL.Fun.x G1) b_list FO_dialled FO_listing
  have K_Finder_numbers := ok_Finder_numbers (P := l.prog) (w := w) (mg := mg) (base := base) (VL.Fun.x G2) FO_dialled FO_listing
  have MT_numbers : MethT l.prog w K mg base 1 "numbers" 1 [("Finder", f_Finder_numbers)] [] [] := ⟨by
    intro p hp
    simp only [List.mem_cons, List.not_mem_nil, or_false] at hp
    rcases hp with rfl
    · obtain ⟨ds, hv, hb⟩ : ∃ ds, Vals [] ds ∧ Binds K _ ["self"] ds := ⟨[], .nil, G2.binds (ps := ["self"]) (fun _ _ _ _ _ _ us hl => match us, hl with | [_], _ => rfl)⟩
      exact ⟨cl_Finder, f2, _, _, ds, xn_Finder, XC_Finder, ⟨xe_numbers_Finder, xf_Finder_numbers, k2⟩, K_Finder_numbers.mono (by decide), hb, hv⟩, fun _ => .nil⟩
  have K_Finder_word := ok_Finder_word (P := l.prog) (w := w) (mg := mg) (base := base) (VL.Fun.x G3) FO_dialled MT_numbers
  have MT_word : MethT l.prog w K mg base 2 "word" 1 [("Finder", f_Finder_word)] [] [] := ⟨by
    intro p hp
    simp only [List.mem_cons, List.not_mem_nil, or_false] at hp
    rcases hp with rfl
    · obtain ⟨ds, hv, hb⟩ : ∃ ds, Vals [] ds ∧ Binds K _ ["self"] ds := ⟨[], .nil, G3.binds (ps := ["self"]) (fun _ _ _ _ _ _ us hl => match us, hl with | [_], _ => rfl)⟩
      exact ⟨cl_Finder, f3, _, _, ds, xn_Finder, XC_Finder, ⟨xe_word_Finder, xf_Finder_word, k3⟩, K_Finder_word.mono (by decide), hb, hv⟩, fun _ => .nil⟩
  have K_Finder_turn := ok_Finder_turn (P := l.prog) (w := w) (mg := mg) (base := base) (VL.Fun.x G4) F_is_figure FO_dialled MT_word RX_NoFigure RX_NoTurn
  have K_Finder_group := ok_Finder_group (P := l.prog) (w := w) (mg := mg) (base := base) (VL.Fun.x G5) FO_dialled FO_listing
  have F_L_cell_at : FnM l.prog w K mg base 1 "_law_cell_at" 2 f_L_cell_at [] [] := by
    obtain ⟨ds, hv, hb⟩ : ∃ ds, Vals [] ds ∧ Binds K _ ["_law_script", "_law_k"] ds := ⟨[], .nil, G6.binds (ps := ["_law_script", "_law_k"]) (fun _ _ _ _ _ _ us hl => match us, hl with | [_, _], _ => rfl)⟩
    exact ⟨⟨_, _, _, ds, ok_L_cell_at (VL.Fun.x G6) b_len, PySem.W.mg_of X G a6, k6, hb, hv⟩, fun _ => .nil⟩
  have F_L_mixed : FnM l.prog w K mg base 1 "_law_mixed" 2 f_L_mixed [] [] := by
    obtain ⟨ds, hv, hb⟩ : ∃ ds, Vals [] ds ∧ Binds K _ ["_law_cell", "_law_k"] ds := ⟨[], .nil, G7.binds (ps := ["_law_cell", "_law_k"]) (fun _ _ _ _ _ _ us hl => match us, hl with | [_, _], _ => rfl)⟩
    exact ⟨⟨_, _, _, ds, ok_L_mixed (VL.Fun.x G7), PySem.W.mg_of X G a7, k7, hb, hv⟩, fun _ => .nil⟩
  have F_L_book : FnM l.prog w K mg base 1 "_law_book" 1 f_L_book [] [] := by
    obtain ⟨ds, hv, hb⟩ : ∃ ds, Vals [] ds ∧ Binds K _ ["_law_seed"] ds := ⟨[], .nil, G8.binds (ps := ["_law_seed"]) (fun _ _ _ _ _ _ us hl => match us, hl with | [_], _ => rfl)⟩
    exact ⟨⟨_, _, _, ds, ok_L_book (VL.Fun.x G8) b_range b_str, PySem.W.mg_of X G a8, k8, hb, hv⟩, fun _ => .nil⟩
  have F_L_where : FnM l.prog w K mg base 1 "_law_where" 2 f_L_where [] [] := by
    obtain ⟨ds, hv, hb⟩ : ∃ ds, Vals [] ds ∧ Binds K _ ["_law_book_here", "_law_figures"] ds := ⟨[], .nil, G9.binds (ps := ["_law_book_here", "_law_figures"]) (fun _ _ _ _ _ _ us hl => match us, hl with | [_, _], _ => rfl)⟩
    exact ⟨⟨_, _, _, ds, ok_L_where (VL.Fun.x G9) b_len, PySem.W.mg_of X G a9, k9, hb, hv⟩, fun _ => .nil⟩
  have MT_group : MethT l.prog w K mg base 1 "group" 1 [("Finder", f_Finder_group)] [] [] := ⟨by
    intro p hp
    simp only [List.mem_cons, List.not_mem_nil, or_false] at hp
    rcases hp with rfl
    · obtain ⟨ds, hv, hb⟩ : ∃ ds, Vals [] ds ∧ Binds K _ ["self"] ds := ⟨[], .nil, G5.binds (ps := ["self"]) (fun _ _ _ _ _ _ us hl => match us, hl with | [_], _ => rfl)⟩
      exact ⟨cl_Finder, f5, _, _, ds, xn_Finder, XC_Finder, ⟨xe_group_Finder, xf_Finder_group, k5⟩, K_Finder_group.mono (by decide), hb, hv⟩, fun _ => .nil⟩
  have F_L_looks : FnM l.prog w K mg base 2 "_law_looks" 4 f_L_looks [] [] := by
    obtain ⟨ds, hv, hb⟩ : ∃ ds, Vals [] ds ∧ Binds K _ ["_law_finder", "_law_book_here", "_law_figures", "_law_first"] ds := ⟨[], .nil, G10.binds (ps := ["_law_finder", "_law_book_here", "_law_figures", "_law_first"]) (fun _ _ _ _ _ _ us hl => match us, hl with | [_, _, _, _], _ => rfl)⟩
    exact ⟨⟨_, _, _, ds, ok_L_looks (VL.Fun.x G10) b_isinstance b_len b_list b_tuple MT_group MT_numbers, PySem.W.mg_of X G a10, k10, hb, hv⟩, fun _ => .nil⟩
  have MT_turn : MethT l.prog w K mg base 3 "turn" 2 [("Finder", f_Finder_turn)] [] [] := ⟨by
    intro p hp
    simp only [List.mem_cons, List.not_mem_nil, or_false] at hp
    rcases hp with rfl
    · obtain ⟨ds, hv, hb⟩ : ∃ ds, Vals [] ds ∧ Binds K _ ["self", "figure"] ds := ⟨[], .nil, G4.binds (ps := ["self", "figure"]) (fun _ _ _ _ _ _ us hl => match us, hl with | [_, _], _ => rfl)⟩
      exact ⟨cl_Finder, f4, _, _, ds, xn_Finder, XC_Finder, ⟨xe_turn_Finder, xf_Finder_turn, k4⟩, K_Finder_turn.mono (by decide), hb, hv⟩, fun _ => .nil⟩
  have F_L_refused : FnM l.prog w K mg base 4 "_law_refused" 2 f_L_refused [] [] := by
    obtain ⟨ds, hv, hb⟩ : ∃ ds, Vals [] ds ∧ Binds K _ ["_law_finder", "_law_figure"] ds := ⟨[], .nil, G11.binds (ps := ["_law_finder", "_law_figure"]) (fun _ _ _ _ _ _ us hl => match us, hl with | [_, _], _ => rfl)⟩
    exact ⟨⟨_, _, _, ds, ok_L_refused (VL.Fun.x G11) b_ValueError b_isinstance CX_HallError IX_NoFigure IX_NoTurn IX_ValueError MT_turn, PySem.W.mg_of X G a11, k11, hb, hv⟩, fun _ => .nil⟩
  have MK_Finder : MkM l.prog w K mg base 1 "Finder" 2 f_Finder___init__ [] [] [] := by
    obtain ⟨ds, hv, hb⟩ : ∃ ds, Vals [] ds ∧ Binds K _ ["self", "book"] ds := ⟨[], .nil, G1.binds (ps := ["self", "book"]) (fun _ _ _ _ _ _ us hl => match us, hl with | [_, _], _ => rfl)⟩
    exact ⟨⟨cl_Finder, f1, _, _, ds, ⟨xon_Finder, xe___init___Finder, xf_Finder___init__, xok_Finder⟩, xm_Finder, xn_Finder, K_Finder___init__, hv, MkM.b0 hb⟩, fun _ => .nil⟩
  have F_L_new : FnM l.prog w K mg base 3 "_law_new" 1 f_L_new [] [] := by
    obtain ⟨ds, hv, hb⟩ : ∃ ds, Vals [] ds ∧ Binds K _ ["_law_book_here"] ds := ⟨[], .nil, G12.binds (ps := ["_law_book_here"]) (fun _ _ _ _ _ _ us hl => match us, hl with | [_], _ => rfl)⟩
    exact ⟨⟨_, _, _, ds, ok_L_new (VL.Fun.x G12) b_list MK_Finder, PySem.W.mg_of X G a12, k12, hb, hv⟩, fun _ => .nil⟩
  have F_L_figures_by : FnM l.prog w K mg base 1 "_law_figures_by" 1 f_L_figures_by [] [] := by
    obtain ⟨ds, hv, hb⟩ : ∃ ds, Vals [] ds ∧ Binds K _ ["_law_left"] ds := ⟨[], .nil, G13.binds (ps := ["_law_left"]) (fun _ _ _ _ _ _ us hl => match us, hl with | [_], _ => rfl)⟩
    exact ⟨⟨_, _, _, ds, ok_L_figures_by (VL.Fun.x G13) b_range b_str, PySem.W.mg_of X G a13, k13, hb, hv⟩, fun _ => .nil⟩
  have F_L_book_by : FnM l.prog w K mg base 2 "_law_book_by" 3 f_L_book_by [] [] := by
    obtain ⟨ds, hv, hb⟩ : ∃ ds, Vals [] ds ∧ Binds K _ ["_law_total", "_law_most", "_law_cell"] ds := ⟨[], .nil, G14.binds (ps := ["_law_total", "_law_most", "_law_cell"]) (fun _ _ _ _ _ _ us hl => match us, hl with | [_, _, _], _ => rfl)⟩
    exact ⟨⟨_, _, _, ds, ok_L_book_by (VL.Fun.x G14) b_abs b_len b_list b_min b_range b_tuple F_L_figures_by, PySem.W.mg_of X G a14, k14, hb, hv⟩, fun _ => .nil⟩
  exact ok_law (VL.Fun.x G15) b_len b_min b_range b_str F_L_cell_at F_L_mixed F_L_book F_L_book_by F_L_new F_L_looks F_L_refused F_L_where MT_turn

end Toy
open PySem PySem.W PyProof.Rows
set_option maxRecDepth 100000 in
set_option maxHeartbeats 0 in
theorem PySem.Challenge.cw_crossracks_k62_finder_holds : PySem.Challenge.rw_crossracks_k62_finder.Holds := by
  w_on; o_law; k_head; (case hw => w_witness2)
  k_fill
  refine VL.law_walkM (l := PySem.Challenge.rw_crossracks_k62_finder) (x := "_law_script") (k := 5) rfl rfl rfl ⟨rfl, by decide, by decide⟩ Toy.law_true (fun w h Y => by first | exact PySem.W.kIn_of Y | exact PySem.W.km_in_of Y) ?F
  case F =>
    intro w mg fa h KX G hmg
    refine' Toy.all_mk KX G hmg ?a0 ?l0 ?c0 ?k0 ?l1 ?c1 ?k1 ?l2 ?c2 ?k2 ?l3 ?c3 ?k3 ?l4 ?c4 ?k4 ?l5 ?c5 ?k5 ?a6 ?l6 ?c6 ?k6 ?a7 ?l7 ?c7 ?k7 ?a8 ?l8 ?c8 ?k8 ?a9 ?l9 ?c9 ?k9 ?a10 ?l10 ?c10 ?k10 ?a11 ?l11 ?c11 ?k11 ?a12 ?l12 ?c12 ?k12 ?a13 ?l13 ?c13 ?k13 ?a14 ?l14 ?c14 ?k14 ?a15 ?l15 ?c15 ?k15 ?z_ValueError ?z_abs ?z_isinstance ?z_len ?z_list ?z_min ?z_range ?z_str ?z_tuple ?xk_FIGURES ?xn_Finder ?xog_Finder ?xoh_Finder ?xov_Finder ?xos_Finder ?xoc_Finder ?xom_Finder ?xok_Finder ?xon_Finder ?xo_dialled_Finder ?xo_listing_Finder ?xe___init___Finder ?xf_Finder___init__ ?xe_group_Finder ?xf_Finder_group ?xe_numbers_Finder ?xf_Finder_numbers ?xe_turn_Finder ?xf_Finder_turn ?xe_word_Finder ?xf_Finder_word ?xn_HallError ?xn_NoFigure ?xn_NoTurn ?xsp ?xtk ?xs_NoFigure ?xs_NoTurn ?xa_NoFigure ?xb_NoFigure ?xc_NoFigure ?xo_NoFigure ?xd_NoFigure ?xa_NoTurn ?xb_NoTurn ?xc_NoTurn ?xo_NoTurn ?xd_NoTurn ?xe_HallError_NoFigure ?xe_HallError_NoTurn ?xi_NoFigure_NoFigure ?xi_NoFigure_NoTurn ?xi_NoTurn_NoFigure ?xi_NoTurn_NoTurn ?xi_ValueError_NoFigure ?xi_ValueError_NoTurn ?xq_NoFigure ?xk_NoFigure ?xt_NoFigure ?xq_NoTurn ?xk_NoTurn ?xt_NoTurn
    (case xn_Finder => k_is)
    (case xn_HallError => k_is)
    (case xn_NoFigure => k_is)
    (case xn_NoTurn => k_is)
    (case xe___init___Finder => k_is)
    (case xe_group_Finder => k_is)
    (case xe_numbers_Finder => k_is)
    (case xe_turn_Finder => k_is)
    (case xe_word_Finder => k_is)
    (case xe_HallError_NoFigure => kernel_rfl)
    (case xe_HallError_NoTurn => kernel_rfl)
    (case a0 => k_is); (case l0 => k_is); (case c0 => k_is); (case k0 => k_is)
    (case l1 => k_is); (case c1 => k_is); (case k1 => k_is)
    (case l2 => k_is); (case c2 => k_is); (case k2 => k_is)
    (case l3 => k_is); (case c3 => k_is); (case k3 => k_is)
    (case l4 => k_is); (case c4 => k_is); (case k4 => k_is)
    (case l5 => k_is); (case c5 => k_is); (case k5 => k_is)
    (case a6 => k_is); (case l6 => k_is); (case c6 => k_is); (case k6 => k_is)
    (case a7 => k_is); (case l7 => k_is); (case c7 => k_is); (case k7 => k_is)
    (case a8 => k_is); (case l8 => k_is); (case c8 => k_is); (case k8 => k_is)
    (case a9 => k_is); (case l9 => k_is); (case c9 => k_is); (case k9 => k_is)
    (case a10 => k_is); (case l10 => k_is); (case c10 => k_is); (case k10 => k_is)
    (case a11 => k_is); (case l11 => k_is); (case c11 => k_is); (case k11 => k_is)
    (case a12 => k_is); (case l12 => k_is); (case c12 => k_is); (case k12 => k_is)
    (case a13 => k_is); (case l13 => k_is); (case c13 => k_is); (case k13 => k_is)
    (case a14 => k_is); (case l14 => k_is); (case c14 => k_is); (case k14 => k_is)
    (case a15 => k_is); (case l15 => k_is); (case c15 => k_is); (case k15 => k_is)
    (case z_ValueError => k_is)
    (case z_abs => k_is)
    (case z_isinstance => k_is)
    (case z_len => k_is)
    (case z_list => k_is)
    (case z_min => k_is)
    (case z_range => k_is)
    (case z_str => k_is)
    (case z_tuple => k_is)
    (case xk_FIGURES => apply Exists.intro; k_is)
    (case xog_Finder => k_is)
    (case xoh_Finder => k_is)
    (case xov_Finder => k_is)
    (case xos_Finder => k_is)
    (case xoc_Finder => k_is)
    (case xom_Finder => k_is)
    (case xok_Finder => k_is)
    (case xon_Finder => k_is)
    (case xo_dialled_Finder => k_is)
    (case xo_listing_Finder => k_is)
    (case xf_Finder___init__ => k_is)
    (case xf_Finder_group => k_is)
    (case xf_Finder_numbers => k_is)
    (case xf_Finder_turn => k_is)
    (case xf_Finder_word => k_is)
    (case xsp => k_is)
    (case xtk => k_is)
    (case xs_NoFigure => k_is)
    (case xs_NoTurn => k_is)
    (case xa_NoFigure => k_is)
    (case xb_NoFigure => k_is)
    (case xc_NoFigure => k_is)
    (case xo_NoFigure => k_is)
    (case xd_NoFigure => k_is)
    (case xa_NoTurn => k_is)
    (case xb_NoTurn => k_is)
    (case xc_NoTurn => k_is)
    (case xo_NoTurn => k_is)
    (case xd_NoTurn => k_is)
    (case xi_NoFigure_NoFigure => kernel_rfl)
    (case xi_NoFigure_NoTurn => kernel_rfl)
    (case xi_NoTurn_NoFigure => kernel_rfl)
    (case xi_NoTurn_NoTurn => kernel_rfl)
    (case xi_ValueError_NoFigure => kernel_rfl)
    (case xi_ValueError_NoTurn => kernel_rfl)
    (case xq_NoFigure => k_exc)
    (case xk_NoFigure => k_is)
    (case xt_NoFigure => k_is)
    (case xq_NoTurn => k_exc)
    (case xk_NoTurn => k_is)
    (case xt_NoTurn => k_is)
